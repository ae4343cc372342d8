import PyProof.Rows.All
import Wide.All
import OpenK.AllK
import Wide.FinOn
import HandS.ForMost
import HandS.Exc
import HandS.TryOnly
import HandS.ExcOwn
import HandS.WordsExc
import HandS.Deep
import HandS.Style
import HandS.TupAny
import HandS.Wide
import HandS.IsInst
import HandS.StrMore
import HandS.RaiseMore
import HandS.WordsDict
import HandS.Small
import PyProof.Rows.SortStr
import HandS.Conv
import HandS.CallSlots
import HandS.Walk
import HandS.Zip
import HandS.Rev
import KE.KStateDown
import HandS.Defaults
import HandS.Head0
import HandS.Head1
import HandS.Head2
import HandS.HeadEnd
import HandS.HeadHook1
import HandS.HeadHook2
import PySem.Challenge.RW_usewarden_k21_lines_of_blocks
set_option Elab.async false
set_option linter.all false
section
set_option maxRecDepth 100000
/-! The small machine: values without identity but for lists, dicts and instances; a heap that is a list; statements by slots. -/
namespace U
open PySem

/-- texts as lists of code points -/
abbrev Tx := List Nat
inductive D where
  | non
  | bl (b : Bool)
  | int (i : Int)
  | str (s : Tx)
  | tup (ds : List D)
  | ref (n : Nat)
  deriving Inhabited

mutual
def D.beq : D → D → Bool
  | .non, .non => true
  | .bl a, .bl b => a == b
  | .int a, .int b => decide (a = b)
  | .str a, .str b => decide (a = b)
  | .tup a, .tup b => D.beqs a b
  | .ref a, .ref b => Nat.beq a b
  | _, _ => false
def D.beqs : List D → List D → Bool
  | [], [] => true
  | a :: r, b :: q => D.beq a b && D.beqs r q
  | _, _ => false
end
mutual
theorem D.beq_eq : ∀ {a b : D}, D.beq a b = true → a = b
  | .non, b, h => by cases b <;> first | rfl | simp [D.beq] at h
  | .bl x, b, h => by cases b <;> simp [D.beq] at h; rw [h]
  | .int x, b, h => by cases b <;> simp [D.beq] at h; rw [h]
  | .str x, b, h => by cases b <;> simp [D.beq] at h; rw [h]
  | .tup x, b, h => by
    cases b with
    | tup y => rw [D.beqs_eq (a := x) (b := y) (by simpa [D.beq] using h)]
    | _ => simp [D.beq] at h
  | .ref x, b, h => by
    cases b with
    | ref y => rw [Nat.eq_of_beq_eq_true (n := x) (m := y) (by simpa [D.beq] using h)]
    | _ => simp [D.beq] at h
theorem D.beqs_eq : ∀ {a b : List D}, D.beqs a b = true → a = b
  | [], [], _ => rfl
  | [], _ :: _, h => by simp [D.beqs] at h
  | _ :: _, [], h => by simp [D.beqs] at h
  | a :: r, b :: q, h => by
    have h' : D.beq a b = true ∧ D.beqs r q = true := by simpa [D.beqs] using h
    rw [D.beq_eq h'.1, D.beqs_eq h'.2]
end
mutual
theorem D.beq_refl : ∀ a : D, D.beq a a = true
  | .non => rfl
  | .bl x => by simp [D.beq]
  | .int x => by simp [D.beq]
  | .str x => by simp [D.beq]
  | .tup x => by rw [D.beq]; exact D.beqs_refl x
  | .ref x => by rw [D.beq]; simp
theorem D.beqs_refl : ∀ a : List D, D.beqs a a = true
  | [] => rfl
  | a :: r => by rw [D.beqs, D.beq_refl a, D.beqs_refl r]; rfl
end
instance : DecidableEq D := fun a b => if h : D.beq a b = true then .isTrue (D.beq_eq h) else .isFalse fun e => h (e ▸ D.beq_refl a)

/-- what stands at a place of the heap: a list, a list that is only read (the script), a dict, an instance -/
inductive O where
  | lst (ds : List D)
  | flst (ds : List D)
  | dct (kvs : List (D × D))
  | ins (c : Nat) (fs : List (Tx × D))
  deriving DecidableEq, Inhabited
abbrev Hd := List O

/-- an exception: its class, its fields -/
structure Exn where
  cls : Nat
  fs : List (Tx × D)
  deriving DecidableEq, Inhabited

inductive Rs (α : Type) where
  | ok (a : α) (h : Hd)
  | er (e : Exn) (h : Hd)
  | no
abbrev M (α : Type) := Hd → Rs α
section
variable {α β γ : Type}
def Rs.bnd (r : Rs α) (f : α → M β) : Rs β := match r with
  | .ok a h => f a h
  | .er e h => .er e h
  | .no => .no
def ret (a : α) : M α := fun h => .ok a h
def stop : M α := fun _ => .no
def bnd (m : M α) (f : α → M β) : M β := fun h => (m h).bnd f
def lft (o : Option α) : M α := fun h => match o with
  | some a => .ok a h
  | none => .no
/-- it goes on only where b -/
def must (b : Bool) : M Unit := fun h => match b with
  | true => .ok () h
  | false => .no
@[simp] theorem ret_app (a : α) (h : Hd) : ret a h = .ok a h := rfl
@[simp] theorem stop_app (h : Hd) : (stop : M α) h = .no := rfl
@[simp] theorem bnd_app (m : M α) (f : α → M β) (h : Hd) : bnd m f h = (m h).bnd f := rfl
@[simp] theorem bnd_ok (a : α) (h : Hd) (f : α → M β) : (Rs.ok a h).bnd f = f a h := rfl
@[simp] theorem bnd_er (e : Exn) (h : Hd) (f : α → M β) : (Rs.er e h : Rs α).bnd f = .er e h := rfl
@[simp] theorem bnd_no (f : α → M β) : (Rs.no : Rs α).bnd f = .no := rfl
@[simp] theorem lft_some (a : α) (h : Hd) : lft (some a) h = .ok a h := rfl
@[simp] theorem lft_none (h : Hd) : (lft none : M α) h = .no := rfl
@[simp] theorem must_true (h : Hd) : must true h = .ok () h := rfl
@[simp] theorem must_false (h : Hd) : must false h = .no := rfl
end
abbrev LIM : Nat := 16777216
def new (o : O) : M D := fun h => .ok (.ref h.length) (h ++ [o])
def at? (n : Nat) : M O := fun h => lft h[n]? h
def put (n : Nat) (o : O) : M Unit := fun h => match decide (n < h.length) with
  | true => .ok () (h.set n o)
  | false => .no
@[simp] theorem new_app (o : O) (h : Hd) : new o h = .ok (.ref h.length) (h ++ [o]) := rfl
/-- the items of a list -/
def O.list? : O → Option (List D)
  | .lst ds => some ds
  | .flst ds => some ds
  | _ => none
def list? (h : Hd) : D → Option (List D)
  | .ref n => h[n]?.bind O.list?
  | _ => none
def seq? (h : Hd) : D → Option (List D)
  | .tup ds => some ds
  | d => list? h d

/-! ### data -/
def mapO {α β : Type} (f : α → Option β) : List α → Option (List β)
  | [] => some []
  | a :: r => match f a with
    | some b => (match mapO f r with
      | some bs => some (b :: bs)
      | none => none)
    | none => none
/-- a value as data, as deep as told -/
def toP : Nat → Hd → D → Option PyData
  | 0, _, _ => none
  | _ + 1, _, .non => some .none
  | _ + 1, _, .bl b => some (.bool b)
  | _ + 1, _, .int i => some (.int i)
  | _ + 1, _, .str s => some (.str ⟨s.toArray⟩)
  | n + 1, h, .tup ds => (mapO (toP n h) ds).map .tuple
  | n + 1, h, .ref a => (list? h (.ref a)).bind fun ds => (mapO (toP n h) ds).map .list

end U
end

section
set_option maxRecDepth 100000
/-! The small language and how it runs. -/
namespace U
open PySem

inductive BOp where
  | add | sub | mul | fdiv | mod | pow | shl | shr | band | bor | bxor
  deriving DecidableEq
inductive COp where
  | eq | ne | lt | le | gt | ge | is_ | isnot | in_ | nin
  deriving DecidableEq
/-- types that isinstance is asked of -/
inductive Ty where
  | int | str | bool | list | tuple | dict | cls (c : Nat) | verr
  deriving DecidableEq
/-- built-in functions and classes, called by name -/
inductive Bi where
  | len | int | str | list | tuple | sorted | min | max | any | sum | abs | dict | isi (t : Ty) | sset | lset | rvs
  deriving DecidableEq
/-- methods of built-in types -/
inductive Bm where
  | append | extend | pop | index | insert | clear | reverse | get | setdefault | join | split | partition | startswith | endswith | strip | find | upper
  deriving DecidableEq
inductive Tg where
  | nm (i : Nat)
  | tp (ts : List Tg)
mutual
inductive CE where
  | var (i : Nat)
  | cst (d : D)
  | bin (o : BOp) (a b : CE)
  | neg (a : CE)
  | cmp (o : COp) (a b : CE)
  | chn (o p : COp) (a b c : CE)
  | and (a b : CE)
  | or (a b : CE)
  | not (a : CE)
  | ite (c : CT) (a b : CE)
  | tup (es : CEs)
  | lst (es : CEs)
  | dct (kvs : CEs)
  | idx (a i : CE)
  | slc (a lo hi : CE)
  | step (a lo hi : CE) (k : Int)
  | fld (a : CE) (f : Tx)
  | call (f : Nat) (es : CEs)
  | loc (i : Nat) (es : CEs)
  | mk (c : Nat) (es : CEs)
  | mth (a : CE) (m : Tx) (es : CEs)
  | sup (f : Nat) (es : CEs)
  | blt (b : Bi) (es : CEs)
  | bmt (b : Bm) (a : CE) (es : CEs)
  | comp (own : List Nat) (elt : CE) (t : Tg) (it : Wk) (c : Option CT)
  | lsti (it : Wk)
  | lam (f : Nat)
inductive CEs where
  | nil
  | cons (e : CE) (es : CEs)
inductive CT where
  | and (a b : CT)
  | or (a b : CT)
  | not (a : CT)
  | val (e : CE)
inductive Wk where
  | e (a : CE)
  | rng1 (a : CE)
  | rng2 (a b : CE)
  | rng3 (a b : CE) (k : Int)
  | zip (a b : CE)
  | enm (a : CE)
  | rev (a : CE)
  | items (a : CE)
  | vals (a : CE)
end
mutual
inductive CS where
  | set (t : Tg) (e : CE)
  | seti (a i e : CE)
  | seta (a : CE) (f : Tx) (e : CE)
  | auga (a : CE) (f : Tx) (o : BOp) (e : CE)
  | ex (e : CE)
  | ret (e : CE)
  | ite (c : CT) (a b : CSs)
  | for_ (t : Tg) (it : Wk) (body : CSs)
  | whl (c : CT) (body : CSs)
  | brk
  | cnt
  | pss
  | rai (c : Nat) (es : CEs)
  | tr (body : CSs) (hs : CHs) (els : CSs)
inductive CSs where
  | nil
  | cons (s : CS) (r : CSs)
inductive CHs where
  | nil
  | cons (c : Nat) (i : Option Nat) (suite : CSs) (r : CHs)
end
abbrev St := List (Option D)
structure CDef where
  ps : Nat
  sl : Nat
  body : CSs
inductive SR where
  | nx (σ : St) (h : Hd)
  | rt (v : D) (h : Hd)
  | bk (σ : St) (h : Hd)
  | ct (σ : St) (h : Hd)
  | er (e : Exn) (σ : St) (h : Hd)
  | no
structure Tab where
  fn : Nat → Option CDef
  meth : Nat → Tx → Option Nat
  ini : Nat → Option Nat
  exi : Nat → Option (List Tx)
  sub : Nat → Nat → Bool
  wh : (St → Hd → Rs Bool) → (St → Hd → SR) → St → Hd → SR

/-! ### operators -/
def clear64 (i : Int) : Bool := decide (-(18446744073709551616 : Int) < i) && decide (i < 18446744073709551616)
def mulOk (i j : Int) : Bool := clear64 i || clear64 j
def divOk (j : Int) : Bool := decide (0 < j) && (decide (j < 1073741824) || decide (j.natAbs.log2 < 9000))
def powOk (i j : Int) : Bool := decide (0 ≤ j) && decide (j ≤ 1000000) && decide (i.natAbs < 18446744073709551616)
def repT {α : Type} (s : List α) (n : Nat) : List α := (List.replicate n s).flatten
def binE (o : BOp) (x y : D) : M D := match o, x, y with
  | .add, .int i, .int j => ret (.int (i + j))
  | .add, .str a, .str b => bnd (must (decide (a.length + b.length ≤ LIM))) fun _ => ret (.str (a ++ b))
  | .add, .tup a, .tup b => bnd (must (decide (a.length + b.length ≤ LIM))) fun _ => ret (.tup (a ++ b))
  | .add, .ref a, .ref b => fun h => match h[a]?, h[b]? with
    | some (.lst as), some (.lst bs) => (bnd (must (decide (as.length + bs.length ≤ LIM))) fun _ => new (.lst (as ++ bs))) h
    | _, _ => .no
  | .sub, .int i, .int j => ret (.int (i - j))
  | .mul, .int i, .int j => bnd (must (mulOk i j)) fun _ => ret (.int (i * j))
  | .mul, .str s, .int k => bnd (must (decide (0 ≤ k ∧ k ≤ 1000 ∧ s.length ≤ 1000))) fun _ => ret (.str (repT s k.toNat))
  | .mul, .ref a, .int k => fun h => match h[a]? with
    | some (.lst as) => (bnd (must (decide (-(9223372036854775808 : Int) ≤ k ∧ k < 9223372036854775808 ∧ as.length * k.toNat ≤ LIM))) fun _ => new (.lst (repT as k.toNat))) h
    | _ => .no
  | .fdiv, .int i, .int j => bnd (must (divOk j)) fun _ => ret (.int (i / j))
  | .mod, .int i, .int j => bnd (must (decide (0 < j))) fun _ => ret (.int (i % j))
  | .pow, .int i, .int j => bnd (must (powOk i j)) fun _ => ret (.int (i ^ j.toNat))
  | .shl, .int i, .int j => bnd (must (powOk i j)) fun _ => ret (.int (i * 2 ^ j.toNat))
  | .shr, .int i, .int j => bnd (must (decide (0 ≤ j))) fun _ => ret (.int (i / 2 ^ j.toNat))
  | .band, .int i, .int j => ret (.int (Builtin.bitAnd i j))
  | .bor, .int i, .int j => ret (.int (Builtin.bitOr i j))
  | .bxor, .int i, .int j => ret (.int (Builtin.bitXor i j))
  | _, _, _ => stop
/-- the depth to which data are looked at -/
abbrev DEEP : Nat := 60
def dataE (x : D) : M PyData := fun h => lft (toP DEEP h x) h
def eqE (x y : D) : M Bool := bnd (dataE x) fun p => bnd (dataE y) fun q => ret (PyData.eqv p q)
def lookK (kvs : List (D × D)) (k : D) : Option D := (kvs.find? fun p => D.beq p.1 k).map (·.2)
def putK (kvs : List (D × D)) (k v : D) : List (D × D) := match kvs.any fun p => D.beq p.1 k with
  | true => kvs.map fun p => match D.beq p.1 k with
    | true => (p.1, v)
    | false => p
  | false => kvs ++ [(k, v)]
/-- keys and values by turns -/
def pairs? : List D → Option (List (D × D))
  | [] => some []
  | k :: v :: r => (pairs? r).map ((k, v) :: ·)
  | _ => none
def mrgK (kvs : List (D × D)) : List (D × D) := kvs.foldl (fun acc kv => putK acc kv.1 kv.2) []
/-- keys: whole numbers, texts -/
def keyOk : Nat → D → Bool
  | _, .int _ => true
  | _, .str _ => true
  | _, _ => false
abbrev KD : Nat := 6
def inE (x y : D) : M Bool := match y with
  | .str s => match x with
    | .str [c] => ret (decide (c ∈ s))
    | _ => stop
  | .ref n => fun h => match h[n]? with
    | some (.dct kvs) => (bnd (must (keyOk KD x)) fun _ => ret (lookK kvs x).isSome) h
    | _ => (bnd (dataE x) fun p => bnd (dataE y) fun q => match q with
      | .list ds => ret (ds.any fun z => PyData.eqv z p)
      | _ => stop) h
  | .tup _ => bnd (dataE x) fun p => bnd (dataE y) fun q => match q with
      | .tuple ds => ret (ds.any fun z => PyData.eqv z p)
      | _ => stop
  | _ => stop
def cmpE (o : COp) (x y : D) : M D := match o with
  | .eq => bnd (eqE x y) fun b => ret (.bl b)
  | .ne => bnd (eqE x y) fun b => ret (.bl (!b))
  | .lt => match x, y with
    | .int i, .int j => ret (.bl (decide (i < j)))
    | .str a, .str b => ret (.bl (decide (a < b)))
    | _, _ => stop
  | .le => match x, y with
    | .int i, .int j => ret (.bl (decide (i ≤ j)))
    | _, _ => stop
  | .gt => match x, y with
    | .int i, .int j => ret (.bl (decide (j < i)))
    | .str a, .str b => ret (.bl (decide (b < a)))
    | _, _ => stop
  | .ge => match x, y with
    | .int i, .int j => ret (.bl (decide (j ≤ i)))
    | _, _ => stop
  | .is_ => match y with
    | .non => ret (.bl (match x with | .non => true | _ => false))
    | .bl b => match x with
      | .bl a => ret (.bl (decide (a = b)))
      | _ => stop
    | _ => stop
  | .isnot => match y with
    | .non => ret (.bl (match x with | .non => false | _ => true))
    | .bl b => match x with
      | .bl a => ret (.bl (!decide (a = b)))
      | _ => stop
    | _ => stop
  | .in_ => bnd (inE x y) fun b => ret (.bl b)
  | .nin => bnd (inE x y) fun b => ret (.bl (!b))
def truE (x : D) : M Bool := match x with
  | .non => ret false
  | .bl b => ret b
  | .int i => ret (i != 0)
  | .str s => bnd (must (decide (s.length ≤ LIM))) fun _ => ret (s.length != 0)
  | .tup ds => ret (!ds.isEmpty)
  | .ref n => fun h => match h[n]? with
    | some (.lst ds) => .ok (!ds.isEmpty) h
    | some (.flst ds) => .ok (!ds.isEmpty) h
    | _ => .no
/-- the place that an index means -/
def ixD (n : Nat) (i : Int) : Option Nat := if 0 ≤ i then (if i < n then some i.toNat else none) else if -(n : Int) ≤ i then some (i + n).toNat else none
def idxE (x i : D) : M D := match x with
  | .ref n => fun h => match h[n]? with
    | some (.lst ds) => (match i with
      | .int k => lft ((ixD ds.length k).bind fun j => ds[j]?) h
      | _ => .no)
    | some (.flst ds) => (match i with
      | .int k => lft ((ixD ds.length k).bind fun j => ds[j]?) h
      | _ => .no)
    | some (.dct kvs) => (bnd (must (keyOk KD i)) fun _ => lft (lookK kvs i)) h
    | _ => .no
  | .tup ds => match i with
    | .int k => lft ((ixD ds.length k).bind fun j => ds[j]?)
    | _ => stop
  | .str s => match i with
    | .int k => bnd (must (decide (s.length ≤ LIM))) fun _ => bnd (lft ((ixD s.length k).bind fun j => s[j]?)) fun c => ret (.str [c])
    | _ => stop
  | _ => stop
/-- a slice's end -/
def sIx (n : Nat) (dflt : Nat) : Option Int → Nat
  | none => dflt
  | some i => if 0 ≤ i then min i.toNat n else (i + n).toNat
/-- an end of a slice, by what stands written -/
def endC : CE → D → Option (Option Int)
  | .cst .non, _ => some none
  | _, .int i => some (some i)
  | _, _ => none
def cut {α : Type} (xs : List α) (lo hi : Option Int) : List α := (xs.drop (sIx xs.length 0 lo)).take (sIx xs.length xs.length hi - sIx xs.length 0 lo)
def slcD (x : D) (l u : Option Int) : M D := match x with
  | .str s => bnd (must (decide (s.length ≤ LIM))) fun _ => ret (.str (cut s l u))
  | .tup ds => ret (.tup (cut ds l u))
  | .ref n => fun h => (bnd (lft (list? h (.ref n))) fun ds => new (.lst (cut ds l u))) h
  | _ => stop
def isiE (T : Tab) (x : D) (t : Ty) : M Bool := match x with
  | .non => ret false
  | .bl _ => ret (t == .bool || t == .int)
  | .int _ => ret (t == .int)
  | .str _ => ret (t == .str)
  | .tup _ => ret (t == .tuple)
  | .ref n => fun h => match h[n]? with
    | some (.lst _) => .ok (t == .list) h
    | some (.flst _) => .ok (t == .list) h
    | some (.dct _) => .ok (t == .dict) h
    | _ => .no
def ints? : List D → Option (List Int)
  | [] => some []
  | .int i :: r => (ints? r).map (i :: ·)
  | _ => none
def bools? : List D → Option (List Bool)
  | [] => some []
  | .bl i :: r => (bools? r).map (i :: ·)
  | _ => none
def texts? : List D → Option (List Tx)
  | [] => some []
  | .str i :: r => (texts? r).map (i :: ·)
  | _ => none
/-- texts in order -/
def insT (a : Tx) : List Tx → List Tx
  | [] => [a]
  | b :: r => if b < a then b :: insT a r else a :: b :: r
def sortT : List Tx → List Tx
  | [] => []
  | a :: r => insT a (sortT r)
def insI (a : Int) : List Int → List Int
  | [] => [a]
  | b :: r => if b < a then b :: insI a r else a :: b :: r
def sortI : List Int → List Int
  | [] => []
  | a :: r => insI a (sortI r)
def showI (i : Int) : Tx := (toString i).toList.map Char.toNat
def maxL : List Int → Option Int
  | [] => none
  | [a] => some a
  | a :: r => (maxL r).map fun b => if a < b then b else a
def minL : List Int → Option Int
  | [] => none
  | [a] => some a
  | a :: r => (minL r).map fun b => if b < a then b else a
/-- code points that are such -/
def okTx (t : Tx) : Bool := t.all fun c => decide (c < 0x110000)
def txOf (s : Str) : Tx := s.cps.toList
def strOf (t : Tx) : Str := ⟨t.toArray⟩
def splitT (s sep : Tx) : List Tx := (Txt.split (strOf s) (strOf sep)).map txOf
def partT (s sep : Tx) : List Tx := [txOf (Txt.partition (strOf s) (strOf sep)).1, txOf (Txt.partition (strOf s) (strOf sep)).2.1, txOf (Txt.partition (strOf s) (strOf sep)).2.2]
def stripT (s cs : Tx) : Tx := txOf (Txt.stripChars (strOf s) (strOf cs))
def upT (s : Tx) : Tx := txOf (Txt.upper (strOf s))
def startsT (s b : Tx) : Bool := Txt.startswith (strOf s) (strOf b)
def endsT (s b : Tx) : Bool := Txt.endswith (strOf s) (strOf b)
def findT (s b : Tx) : Int := Txt.find (strOf s) (strOf b)
def dct? (h : Hd) : D → Option (Nat × List (D × D))
  | .ref n => match h[n]? with
    | some (.dct ds) => some (n, ds)
    | _ => none
  | _ => none
/-- what list() goes over: a dict's keys -/
def ksq? (h : Hd) (x : D) : Option (List D) := match dct? h x with
  | some p => some (p.2.map (·.1))
  | none => seq? h x
def bltE (T : Tab) (b : Bi) (xs : List D) : M D := match b, xs with
  | .len, [x] => match x with
    | .str s => bnd (must (decide (s.length ≤ LIM))) fun _ => ret (.int s.length)
    | .tup ds => ret (.int ds.length)
    | .ref n => fun h => match h[n]? with
      | some (.lst ds) => .ok (.int ds.length) h
      | some (.flst ds) => .ok (.int ds.length) h
      | some (.dct kvs) => .ok (.int kvs.length) h
      | _ => .no
    | _ => stop
  | .int, [x] => match x with
    | .int i => ret (.int i)
    | .bl k => ret (.int (if k then 1 else 0))
    | .str s => bnd (must (decide (s.length ≤ 640))) fun _ => bnd (lft (PySem.intText? ⟨s.toArray⟩)) fun i => ret (.int i)
    | _ => stop
  | .str, [x] => match x with
    | .int i => bnd (must (decide (i.natAbs.log2 < 1920))) fun _ => ret (.str (showI i))
    | .str s => ret (.str s)
    | _ => stop
  | .list, [x] => fun h => (bnd (lft (ksq? h x)) fun ds => new (.lst ds)) h
  | .tuple, [x] => fun h => (bnd (lft (seq? h x)) fun ds => ret (.tup ds)) h
  | .sorted, [x] => fun h => (bnd (lft (list? h x)) fun ds => match texts? ds with
    | some ts => bnd (must (decide (ts.length < 64))) fun _ => new (.lst ((sortT ts).map .str))
    | none => match ints? ds with
      | some is => bnd (must (decide (is.length < 64))) fun _ => new (.lst ((sortI is).map .int))
      | none => stop) h
  | .min, [.int i, .int j] => ret (.int (if j < i then j else i))
  | .max, [.int i, .int j] => ret (.int (if i < j then j else i))
  | .min, [x] => fun h => (bnd (lft ((list? h x).bind ints?)) fun is => bnd (lft (minL is)) fun i => ret (.int i)) h
  | .max, [x] => fun h => (bnd (lft ((list? h x).bind ints?)) fun is => bnd (lft (maxL is)) fun i => ret (.int i)) h
  | .any, [x] => fun h => (bnd (lft ((list? h x).bind bools?)) fun bs => ret (.bl (bs.any id))) h
  | .sum, [x] => fun h => (bnd (lft ((list? h x).bind ints?)) fun is => ret (.int is.sum)) h
  | .abs, [.int i] => ret (.int (if i < 0 then -i else i))
  | .isi t, [x] => bnd (isiE T x t) fun b => ret (.bl b)
  | .rvs, [x] => fun h => (bnd (lft (list? h x)) fun ds => new (.lst ds.reverse)) h
  | _, _ => stop
/-- texts joined -/
def joinT (sep : Tx) : List Tx → Tx
  | [] => []
  | [a] => a
  | a :: r => a ++ sep ++ joinT sep r
def lst? (h : Hd) : D → Option (Nat × List D)
  | .ref n => match h[n]? with
    | some (.lst ds) => some (n, ds)
    | _ => none
  | _ => none
def sumLen : List Tx → Nat
  | [] => 0
  | a :: r => a.length + sumLen r
def bmtE (b : Bm) (x : D) (xs : List D) : M D := match b, xs with
  | .append, [y] => fun h => (bnd (lft (lst? h x)) fun p => bnd (must (decide (p.2.length < LIM))) fun _ => bnd (put p.1 (.lst (p.2 ++ [y]))) fun _ => ret .non) h
  | .extend, [y] => fun h => (bnd (lft (lst? h x)) fun p => bnd (lft (lst? h y)) fun q => bnd (must (decide (p.2.length + q.2.length ≤ LIM))) fun _ => bnd (put p.1 (.lst (p.2 ++ q.2))) fun _ => ret .non) h
  | .pop, [] => fun h => (bnd (lft (lst? h x)) fun p => bnd (lft p.2[p.2.length - 1]?) fun y => bnd (put p.1 (.lst p.2.dropLast)) fun _ => ret y) h
  | .clear, [] => fun h => (bnd (lft (lst? h x)) fun p => bnd (put p.1 (.lst [])) fun _ => ret .non) h
  | .reverse, [] => fun h => (bnd (lft (lst? h x)) fun p => bnd (put p.1 (.lst p.2.reverse)) fun _ => ret .non) h
  | .index, [y] => bnd (dataE x) fun p => bnd (dataE y) fun q => match p with
    | .list ds => bnd (lft (ds.findIdx? fun z => PyData.eqv z q)) fun j => ret (.int j)
    | _ => stop
  | .get, [k] => fun h => (bnd (lft (dct? h x)) fun p => bnd (must (keyOk KD k)) fun _ => ret ((lookK p.2 k).getD .non)) h
  | .get, [k, d] => fun h => (bnd (lft (dct? h x)) fun p => bnd (must (keyOk KD k)) fun _ => ret ((lookK p.2 k).getD d)) h
  | .setdefault, [k, d] => fun h => (bnd (lft (dct? h x)) fun p => bnd (must (keyOk KD k && decide (p.2.length < LIM))) fun _ => match lookK p.2 k with
    | some v => ret v
    | none => bnd (put p.1 (.dct (putK p.2 k d))) fun _ => ret d) h
  | .join, [y] => match x with
    | .str s => fun h => (bnd (lft ((seq? h y).bind texts?)) fun ts => bnd (must (decide (sumLen ts + s.length * ts.length ≤ LIM))) fun _ => ret (.str (joinT s ts))) h
    | _ => stop
  | .startswith, [.str b] => match x with
    | .str s => ret (.bl (startsT s b))
    | _ => stop
  | .endswith, [.str b] => match x with
    | .str s => ret (.bl (endsT s b))
    | _ => stop
  | .find, [.str b] => match x with
    | .str s => ret (.int (findT s b))
    | _ => stop
  | .upper, [] => match x with
    | .str s => bnd (must (decide (s.length ≤ 5592405) && okTx (upT s))) fun _ => ret (.str (upT s))
    | _ => stop
  | .strip, [.str b] => match x with
    | .str s => bnd (must (decide (s.length ≤ LIM) && okTx (stripT s b))) fun _ => ret (.str (stripT s b))
    | _ => stop
  | .split, [.str b] => match x with
    | .str s => bnd (must (!b.isEmpty && decide (s.length + 2 ≤ LIM) && (splitT s b).all okTx)) fun _ => new (.lst ((splitT s b).map .str))
    | _ => stop
  | .partition, [.str b] => match x with
    | .str s => bnd (must (!b.isEmpty && decide (s.length ≤ LIM) && (partT s b).all okTx)) fun _ => ret (.tup ((partT s b).map .str))
    | _ => stop
  | _, _ => stop

/-- x[k] = v -/
def setE (x k v : D) : M Unit := match x with
  | .ref n => fun h => match h[n]? with
    | some (.lst ds) => (match k with
      | .int k => (match ixD ds.length k with
        | some j => .ok () (h.set n (.lst (ds.set j v)))
        | none => .no)
      | _ => .no)
    | some (.dct kvs) => (match keyOk KD k && decide (kvs.length < LIM) with
      | true => .ok () (h.set n (.dct (putK kvs k v)))
      | false => .no)
    | _ => .no
  | _ => stop
/-- the type that has the method -/
def tyM (b : Bm) (x : D) : M Unit := match x with
  | .str _ => must (match b with
    | .join => true | .split => true | .partition => true | .startswith => true | .endswith => true | .strip => true | .find => true | .upper => true
    | _ => false)
  | .ref n => fun h => match h[n]? with
    | some (.lst _) => (match b with
      | .append => .ok () h | .extend => .ok () h | .pop => .ok () h | .index => .ok () h | .insert => .ok () h | .clear => .ok () h | .reverse => .ok () h
      | _ => .no)
    | some (.flst _) => (match b with
      | .index => .ok () h
      | _ => .no)
    | some (.dct _) => (match b with
      | .get => .ok () h | .setdefault => .ok () h
      | _ => .no)
    | _ => .no
  | _ => stop

/-! ### targets -/
mutual
def asg : Tg → D → St → Option St
  | .nm i, d, σ => if i < σ.length then some (σ.set i (some d)) else none
  | .tp ts, .tup ds, σ => asgs ts ds σ
  | .tp _, _, _ => none
def asgs : List Tg → List D → St → Option St
  | [], [], σ => some σ
  | t :: ts, d :: ds, σ => (asg t d σ).bind fun σ' => asgs ts ds σ'
  | _, _, _ => none
end
def wp (σ : St) : List Nat → St
  | [] => σ
  | v :: vs => (wp σ vs).set v none
/-- what has to stand as it stood while it is walked -/
abbrev Gd := List (Nat × O)
def gdOk (g : Gd) (h : Hd) : Bool := g.all fun p => decide (h[p.1]? = some p.2)
def gd (g : Gd) : M Unit := fun h => match gdOk g h with
  | true => .ok () h
  | false => .no
def rngL (lo : Int) : Nat → List D
  | 0 => []
  | n + 1 => .int lo :: rngL (lo + 1) n
def rngK (lo k : Int) : Nat → List D
  | 0 => []
  | n + 1 => .int lo :: rngK (lo + k) k n
def in62 (i : Int) : Bool := decide (-(4611686018427387904 : Int) ≤ i) && decide (i < 4611686018427387904)
def enmL (i : Nat) : List D → List D
  | [] => []
  | d :: ds => .tup [.int i, d] :: enmL (i + 1) ds
def zipL : List D → List D → List D
  | a :: r, b :: q => .tup [a, b] :: zipL r q
  | _, _ => []
def walkE (x : D) : M (List D × Gd) := match x with
  | .str s => bnd (must (decide (s.length ≤ LIM))) fun _ => ret (s.map fun c => .str [c], [])
  | .tup ds => ret (ds, [])
  | .ref n => fun h => match h[n]? with
    | some (.lst ds) => .ok (ds, [(n, .lst ds)]) h
    | some (.flst ds) => .ok (ds, [(n, .flst ds)]) h
    | _ => .no
  | _ => stop
def seqE (x : D) : M (List D × Gd) := match x with
  | .tup ds => ret (ds, [])
  | .ref n => fun h => match h[n]? with
    | some (.lst ds) => .ok (ds, [(n, .lst ds)]) h
    | some (.flst ds) => .ok (ds, [(n, .flst ds)]) h
    | _ => .no
  | _ => stop
def isTup : D → Bool
  | .tup _ => true
  | _ => false
/-- nothing is raised -/
def noer {α : Type} (m : M α) : M α := fun h => match m h with
  | .er _ _ => .no
  | r => r
def comp (g : Gd) (f : D → M (List D)) : List D → M (List D)
  | [] => bnd (gd g) fun _ => ret []
  | x :: xs => bnd (gd g) fun _ => bnd (noer (f x)) fun vs => bnd (comp g f xs) fun ws => ret (vs ++ ws)

section
variable (T : Tab) (F : Nat → List D → M D)
mutual
def evE : CE → St → M D
  | .var i, σ => lft (σ[i]?.bind id)
  | .cst d, _ => ret d
  | .bin o a b, σ => bnd (evE a σ) fun x => bnd (evE b σ) fun y => binE o x y
  | .neg a, σ => bnd (evE a σ) fun x => match x with
    | .int i => ret (.int (-i))
    | _ => stop
  | .cmp o a b, σ => bnd (evE a σ) fun x => bnd (evE b σ) fun y => cmpE o x y
  | .chn o p a b c, σ => bnd (evE a σ) fun x => bnd (evE b σ) fun y => bnd (cmpE o x y) fun r => match r with
    | .bl true => bnd (evE c σ) fun z => cmpE p y z
    | .bl false => ret (.bl false)
    | _ => stop
  | .and a b, σ => bnd (evE a σ) fun x => match x with
    | .bl true => evE b σ
    | .bl false => ret (.bl false)
    | _ => stop
  | .or a b, σ => bnd (evE a σ) fun x => match x with
    | .bl true => ret (.bl true)
    | .bl false => evE b σ
    | _ => stop
  | .not a, σ => bnd (evE a σ) fun x => match x with
    | .bl b => ret (.bl (!b))
    | _ => stop
  | .ite c a b, σ => bnd (evT c σ) fun k => match k with
    | true => evE a σ
    | false => evE b σ
  | .tup es, σ => bnd (evEs es σ) fun xs => bnd (must (decide (xs.length ≤ LIM))) fun _ => ret (.tup xs)
  | .lst es, σ => bnd (evEs es σ) fun xs => bnd (must (decide (xs.length ≤ LIM))) fun _ => new (.lst xs)
  | .dct es, σ => bnd (evEs es σ) fun xs => bnd (lft (pairs? xs)) fun kvs => bnd (must (decide (kvs.length ≤ 15) && kvs.all fun p => keyOk KD p.1)) fun _ => new (.dct (mrgK kvs))
  | .idx a i, σ => bnd (evE a σ) fun x => bnd (evE i σ) fun k => idxE x k
  | .slc a lo hi, σ => bnd (evE a σ) fun x => bnd (evE lo σ) fun l => bnd (lft (endC lo l)) fun l => bnd (evE hi σ) fun u => bnd (lft (endC hi u)) fun u => slcD x l u
  | .call f es, σ => bnd (evEs es σ) fun xs => F f xs
  | .blt b es, σ => bnd (evEs es σ) fun xs => bltE T b xs
  | .bmt b a es, σ => bnd (evE a σ) fun x => bnd (tyM b x) fun _ => bnd (evEs es σ) fun xs => bmtE b x xs
  | .comp own elt t it c, σ => bnd (evI it σ) fun p => bnd (comp p.2 (fun x => bnd (lft (asg t x (wp σ own))) fun σ' => match c with
      | none => bnd (evE elt σ') fun v => ret [v]
      | some c => bnd (evT c σ') fun k => match k with
        | true => bnd (evE elt σ') fun v => ret [v]
        | false => ret []) p.1) fun vs => bnd (must (decide (vs.length ≤ LIM))) fun _ => new (.lst vs)
  | .lsti it, σ => bnd (evI it σ) fun p => bnd (must (decide (p.1.length ≤ LIM))) fun _ => new (.lst p.1)
  | _, _ => stop
def evEs : CEs → St → M (List D)
  | .nil, _ => ret []
  | .cons e es, σ => bnd (evE e σ) fun x => bnd (evEs es σ) fun xs => ret (x :: xs)
def evT : CT → St → M Bool
  | .and a b, σ => bnd (evT a σ) fun k => match k with
    | true => evT b σ
    | false => ret false
  | .or a b, σ => bnd (evT a σ) fun k => match k with
    | true => ret true
    | false => evT b σ
  | .not a, σ => bnd (evT a σ) fun k => ret (!k)
  | .val e, σ => bnd (evE e σ) truE
def evI : Wk → St → M (List D × Gd)
  | .e a, σ => bnd (evE a σ) walkE
  | .rng1 a, σ => bnd (evE a σ) fun x => match x with
    | .int j => bnd (must (in62 j)) fun _ => ret (rngL 0 j.toNat, [])
    | _ => stop
  | .rng2 a b, σ => bnd (evE a σ) fun x => bnd (evE b σ) fun y => match x, y with
    | .int i, .int j => bnd (must (in62 i && in62 j)) fun _ => ret (rngL i (j - i).toNat, [])
    | _, _ => stop
  | .rng3 a b k, σ => bnd (evE a σ) fun x => bnd (evE b σ) fun y => match x, y with
    | .int i, .int j => bnd (must (in62 i && in62 j && decide (k = -1))) fun _ => ret (rngK i (-1) (i - j).toNat, [])
    | _, _ => stop
  | .zip a b, σ => bnd (evE a σ) fun x => bnd (evE b σ) fun y => bnd (seqE x) fun p => bnd (seqE y) fun q => bnd (must (isTup x == isTup y)) fun _ => ret (zipL p.1 q.1, p.2 ++ q.2)
  | .enm a, σ => bnd (evE a σ) fun x => bnd (must (!isTup x)) fun _ => bnd (seqE x) fun p => ret (enmL 0 p.1, p.2)
  | .rev a, σ => bnd (evE a σ) fun x => bnd (seqE x) fun p => ret (p.1.reverse, p.2)
  | _, _ => stop
end

/-! ### statements -/
def SR.then_ (r : SR) (k : St → Hd → SR) : SR := match r with
  | .nx σ h => k σ h
  | r => r
/-- an expression's value used by a statement -/
def sE {α : Type} (σ : St) (r : Rs α) (k : α → Hd → SR) : SR := match r with
  | .ok a h => k a h
  | .er e h => .er e σ h
  | .no => .no
def forL (g : Gd) (body : D → St → Hd → SR) : List D → St → Hd → SR
  | [], σ, h => match gdOk g h with
    | true => .nx σ h
    | false => .no
  | x :: xs, σ, h => match gdOk g h with
    | true => (match body x σ h with
      | .nx σ' h' => forL g body xs σ' h'
      | .ct σ' h' => forL g body xs σ' h'
      | .bk σ' h' => .nx σ' h'
      | r => r)
    | false => .no
def whlN (c : St → Hd → Rs Bool) (body : St → Hd → SR) : Nat → St → Hd → Option SR
  | 0, _, _ => none
  | n + 1, σ, h => match c σ h with
    | .ok true h1 => (match body σ h1 with
      | .nx σ' h' => whlN c body n σ' h'
      | .ct σ' h' => whlN c body n σ' h'
      | .bk σ' h' => some (.nx σ' h')
      | r => some r)
    | .ok false h1 => some (.nx σ h1)
    | .er e h1 => some (.er e σ h1)
    | .no => some .no
open Classical in
noncomputable def whl (c : St → Hd → Rs Bool) (body : St → Hd → SR) (σ : St) (h : Hd) : SR :=
  if z : ∃ r, ∃ n, whlN c body n σ h = some r then Classical.choose z else .no
mutual
def evS : CS → St → Hd → SR
  | .set t e, σ, h => sE σ (evE T F e σ h) fun v h1 => match asg t v σ with
    | some σ' => .nx σ' h1
    | none => .no
  | .seti a i e, σ, h => sE σ (evE T F e σ h) fun v h1 => sE σ (evE T F a σ h1) fun x h2 => sE σ (evE T F i σ h2) fun k h3 => sE σ (setE x k v h3) fun _ h4 => .nx σ h4
  | .ex e, σ, h => sE σ (evE T F e σ h) fun _ h1 => .nx σ h1
  | .ret e, σ, h => sE σ (evE T F e σ h) fun v h1 => .rt v h1
  | .ite c a b, σ, h => sE σ (evT T F c σ h) fun k h1 => match k with
    | true => evSs a σ h1
    | false => evSs b σ h1
  | .for_ t it body, σ, h => sE σ (evI T F it σ h) fun p h1 => forL p.2 (fun x σ h => match asg t x σ with
    | some σ' => evSs body σ' h
    | none => .no) p.1 σ h1
  | .whl c body, σ, h => T.wh (evT T F c) (evSs body) σ h
  | .brk, σ, h => .bk σ h
  | .cnt, σ, h => .ct σ h
  | .pss, σ, h => .nx σ h
  | _, _, _ => .no
def evSs : CSs → St → Hd → SR
  | .nil, σ, h => .nx σ h
  | .cons s r, σ, h => (evS s σ h).then_ fun σ' h' => evSs r σ' h'
end
/-- a def's run: the parameters first, then the other names, unbound -/
def runD (d : CDef) (xs : List D) : M D := fun h => match decide (xs.length = d.ps) with
  | true => (match evSs T F d.body (xs.map some ++ List.replicate (d.sl - d.ps) none) h with
    | .nx _ h' => .ok .non h'
    | .rt v h' => .ok v h'
    | .er e _ h' => .er e h'
    | _ => .no)
  | false => .no
end
/-- calls, so deep -/
def callD (T : Tab) : Nat → Nat → List D → M D
  | 0, _, _ => stop
  | n + 1, f, xs => match T.fn f with
    | some d => runD T (callD T n) d xs
    | none => stop
end U
end

section
set_option maxRecDepth 100000
/-! How values and heaps of the small machine stand in the layer's heap. -/
namespace U
open PySem L2

/-- where classes and functions stand -/
structure Wd where
  K : PySem.W.Frag
  ca : Nat → Addr
  fa : Nat → Addr
abbrev tS (t : Tx) : Str := ⟨t.toArray⟩
/-- code points that are such -/
def OkT (t : Tx) : Prop := ∀ c ∈ t, c < 0x110000
section
variable (g : Wd) (io : Nat → Addr) (L : Nat) (H : Hp)
mutual
def RD : D → V → Prop
  | .non, v => v = .non
  | .bl b, v => v = .bl b
  | .int i, v => v = .int i
  | .str s, v => v = .str (tS s) ∧ OkT s
  | .tup ds, v => ∃ a vs, v = .ref a ∧ SqT g.K H a vs ∧ RDs ds vs
  | .ref n, v => n < L ∧ v = .ref (io n)
def RDs : List D → List V → Prop
  | [], vs => vs = []
  | d :: ds, vs => ∃ v us, vs = v :: us ∧ RD d v ∧ RDs ds us
end
/-- keys that are whole numbers or texts -/
def RK : D → Key → Prop
  | .int i, k => k = .inl i
  | .str s, k => k = .inr (tS s) ∧ OkT s
  | _, _ => False
def RKs : List (D × D) → List (Key × V) → Prop
  | [], ks => ks = []
  | p :: r, ks => ∃ k v q, ks = (k, v) :: q ∧ RK p.1 k ∧ RD g io L H p.2 v ∧ RKs r q
def ROp : Option D → Option V → Prop
  | some d, some v => RD g io L H d v
  | none, none => True
  | _, _ => False
def RFs (fs : List (Tx × D)) (vs : List (Str × V)) : Prop := ∀ f : Tx, ROp g io L H (fs.lookup f) (vs.lookup (tS f))
def RO : O → Addr → Prop
  | .lst ds, a => ∃ vs, H a = some (.lst vs) ∧ RDs g io L H ds vs
  | .flst ds, a => ∃ vs, ((∃ ob, H a = some (.frz ob (.lst vs))) ∨ ∃ (ob : Obj) (its : Array Value) (n : Nat), g.K.lookup a = some ob ∧ ob.cls = .type "list" ∧ ob.dict = none ∧ ob.data = .seq its n ∧ its.size ≤ sizeLine ∧ Vals vs its.toList) ∧ RDs g io L H ds vs
  | .dct kvs, a => ∃ ks, H a = some (.dK ks) ∧ RKs g io L H kvs ks
  | .ins c fs, a => ∃ dx vs, H a = some (.ins (g.ca c) dx vs) ∧ RFs g io L H fs vs
def RS (sd : St) (sv : L2.St) : Prop := sd.length = sv.length ∧ ∀ (i : Nat) d, sd[i]? = some (some d) → ∃ v, sv[i]? = some (some v) ∧ RD g io L H d v
def RX (e : Exn) (c : Value) (d : Option Addr) : Prop := c = .ref (g.ca e.cls) ∧ match e.fs with
  | [] => d = none
  | fs => ∃ dd vs, d = some dd ∧ H dd = some (.xd vs) ∧ RFs g io L H fs vs
end
def O.mut : O → Bool
  | .flst _ => false
  | _ => true
/-- a is the place of an object of ours that may be written -/
def Ours (hd : Hd) (io : Nat → Addr) (a : Addr) : Prop := ∃ (i : Nat) (o : O), hd[i]? = some o ∧ o.mut = true ∧ io i = a
structure RH (g : Wd) (io : Nat → Addr) (hd : Hd) (H : Hp) : Prop where
  inj : ∀ (i j : Nat) (o o' : O), hd[i]? = some o → hd[j]? = some o' → o.mut = true → o'.mut = true → io i = io j → i = j
  obj : ∀ (i : Nat) o, hd[i]? = some o → RO g io hd.length H o (io i)
/-- a list, a dict -/
def Lo (u : HO) : Prop := (∃ xs, u = .lst xs) ∨ ∃ ks, u = .dK ks
/-- what comes behind -/
structure Nxt (g : Wd) (io : Nat → Addr) (hd : Hd) (H : Hp) (io' : Nat → Addr) (hd' : Hd) (H' : Hp) : Prop where
  le : hd.length ≤ hd'.length
  agr : ∀ i, i < hd.length → io' i = io i
  tup : ∀ a vs, SqT g.K H a vs → SqT g.K H' a vs
  frm : ∀ a xs, Lo xs → H a = some xs → ¬ Ours hd io a → H' a = some xs ∧ ¬ Ours hd' io' a
section
variable {g : Wd} {io io' io2 : Nat → Addr} {hd hd' hd2 : Hd} {H H' H2 : Hp} {L L' : Nat}
theorem Nxt.refl : Nxt g io hd H io hd H := ⟨Nat.le_refl _, fun _ _ => rfl, fun _ _ h => h, fun _ _ _ h n => ⟨h, n⟩⟩
theorem Nxt.trans (a : Nxt g io hd H io' hd' H') (b : Nxt g io' hd' H' io2 hd2 H2) : Nxt g io hd H io2 hd2 H2 :=
  ⟨Nat.le_trans a.le b.le, fun i h => (b.agr i (Nat.lt_of_lt_of_le h a.le)).trans (a.agr i h), fun c vs h => b.tup c vs (a.tup c vs h), fun c xs l h n =>
    let ⟨h1, n1⟩ := a.frm c xs l h n
    b.frm c xs l h1 n1⟩
mutual
theorem RD.mono (hL : L ≤ L') (ha : ∀ i, i < L → io' i = io i) (ht : ∀ a vs, SqT g.K H a vs → SqT g.K H' a vs) : ∀ {d : D} {v : V}, RD g io L H d v → RD g io' L' H' d v
  | .non, _, h => by simpa [RD] using h
  | .bl _, _, h => by simpa [RD] using h
  | .int _, _, h => by simpa [RD] using h
  | .str _, _, h => by simpa [RD] using h
  | .tup ds, v, h => by
    rw [RD] at h ⊢
    obtain ⟨a, vs, e, q, r⟩ := h
    exact ⟨a, vs, e, ht a vs q, RDs.mono hL ha ht r⟩
  | .ref n, v, h => by
    rw [RD] at h ⊢
    exact ⟨Nat.lt_of_lt_of_le h.1 hL, by rw [ha n h.1]; exact h.2⟩
theorem RDs.mono (hL : L ≤ L') (ha : ∀ i, i < L → io' i = io i) (ht : ∀ a vs, SqT g.K H a vs → SqT g.K H' a vs) : ∀ {ds : List D} {vs : List V}, RDs g io L H ds vs → RDs g io' L' H' ds vs
  | [], vs, h => by simpa [RDs] using h
  | d :: ds, vs, h => by
    rw [RDs] at h ⊢
    obtain ⟨v, us, e, r, q⟩ := h
    exact ⟨v, us, e, RD.mono hL ha ht r, RDs.mono hL ha ht q⟩
end
theorem Nxt.rd (n : Nxt g io hd H io' hd' H') {d : D} {v : V} (h : RD g io hd.length H d v) : RD g io' hd'.length H' d v := h.mono n.le n.agr n.tup
theorem Nxt.rds (n : Nxt g io hd H io' hd' H') {d : List D} {v : List V} (h : RDs g io hd.length H d v) : RDs g io' hd'.length H' d v := h.mono n.le n.agr n.tup
theorem Nxt.rs (n : Nxt g io hd H io' hd' H') {sd : St} {sv : L2.St} (h : RS g io hd.length H sd sv) : RS g io' hd'.length H' sd sv :=
  ⟨h.1, fun i d e => let ⟨v, e2, r⟩ := h.2 i d e; ⟨v, e2, n.rd r⟩⟩
theorem RKs.mono (hL : L ≤ L') (ha : ∀ i, i < L → io' i = io i) (ht : ∀ a vs, SqT g.K H a vs → SqT g.K H' a vs) : ∀ {kvs : List (D × D)} {ks : List (Key × V)}, RKs g io L H kvs ks → RKs g io' L' H' kvs ks
  | [], _, h => h
  | p :: r, ks, h => by
    obtain ⟨k, v, q, e, a, b, c⟩ := h
    exact ⟨k, v, q, e, a, b.mono hL ha ht, RKs.mono hL ha ht c⟩
theorem ROp.mono (hL : L ≤ L') (ha : ∀ i, i < L → io' i = io i) (ht : ∀ a vs, SqT g.K H a vs → SqT g.K H' a vs) {d : Option D} {v : Option V} (h : ROp g io L H d v) : ROp g io' L' H' d v := by
  cases d <;> cases v <;> first | exact h | exact RD.mono hL ha ht h
theorem RFs.mono (hL : L ≤ L') (ha : ∀ i, i < L → io' i = io i) (ht : ∀ a vs, SqT g.K H a vs → SqT g.K H' a vs) {d : List (Tx × D)} {v : List (Str × V)} (h : RFs g io L H d v) : RFs g io' L' H' d v :=
  fun f => (h f).mono hL ha ht
theorem RDs.len : ∀ {ds : List D} {vs : List V}, RDs g io L H ds vs → ds.length = vs.length
  | [], vs, h => by simp [RDs] at h; rw [h]; rfl
  | d :: ds, vs, h => by
    rw [RDs] at h
    obtain ⟨v, us, rfl, _, q⟩ := h
    simp [RDs.len q]
theorem RDs.get : ∀ {ds : List D} {vs : List V} {i : Nat} {d : D}, RDs g io L H ds vs → ds[i]? = some d → ∃ v, vs[i]? = some v ∧ RD g io L H d v
  | [], vs, i, d, _, e => by simp at e
  | x :: ds, vs, i, d, h, e => by
    rw [RDs] at h
    obtain ⟨v, us, rfl, r, q⟩ := h
    cases i with
    | zero => simp at e; subst e; exact ⟨v, by simp, r⟩
    | succ i =>
      obtain ⟨v', e', r'⟩ := RDs.get (i := i) q (by simpa using e)
      exact ⟨v', by simpa using e', r'⟩
theorem RDs.append : ∀ {ds es : List D} {vs us : List V}, RDs g io L H ds vs → RDs g io L H es us → RDs g io L H (ds ++ es) (vs ++ us)
  | [], es, vs, us, h, k => by simp [RDs] at h; subst h; simpa using k
  | d :: ds, es, vs, us, h, k => by
    rw [RDs] at h
    obtain ⟨v, ws, rfl, r, q⟩ := h
    rw [List.cons_append, RDs]
    exact ⟨v, ws ++ us, rfl, r, RDs.append q k⟩
theorem RDs.set : ∀ {ds : List D} {vs : List V} {d : D} {v : V} (i : Nat), RDs g io L H ds vs → RD g io L H d v → RDs g io L H (ds.set i d) (vs.set i v)
  | [], vs, d, v, i, h, r => by simp [RDs] at h; subst h; simp [RDs]
  | x :: ds, vs, d, v, 0, h, r => by
    rw [RDs] at h
    obtain ⟨w, us, rfl, _, q⟩ := h
    simp only [List.set_cons_zero]
    rw [RDs]
    exact ⟨v, us, rfl, r, q⟩
  | x :: ds, vs, d, v, i + 1, h, r => by
    rw [RDs] at h
    obtain ⟨w, us, rfl, r', q⟩ := h
    simp only [List.set_cons_succ]
    rw [RDs]
    exact ⟨w, _, rfl, r', RDs.set i q r⟩
theorem RDs.drop : ∀ {ds : List D} {vs : List V} (i : Nat), RDs g io L H ds vs → RDs g io L H (ds.drop i) (vs.drop i)
  | ds, vs, 0, h => by simpa using h
  | [], vs, i + 1, h => by simp [RDs] at h; subst h; simp [RDs]
  | d :: ds, vs, i + 1, h => by
    rw [RDs] at h
    obtain ⟨w, us, rfl, r', q⟩ := h
    simpa using RDs.drop i q
theorem RDs.take : ∀ {ds : List D} {vs : List V} (i : Nat), RDs g io L H ds vs → RDs g io L H (ds.take i) (vs.take i)
  | ds, vs, 0, h => by simp [RDs]
  | [], vs, i + 1, h => by simp [RDs] at h; subst h; simp [RDs]
  | d :: ds, vs, i + 1, h => by
    rw [RDs] at h
    obtain ⟨w, us, rfl, r', q⟩ := h
    simp only [List.take_succ_cons]
    rw [RDs]
    exact ⟨w, _, rfl, r', RDs.take i q⟩
theorem RDs.one {d : D} {v : V} (h : RD g io L H d v) : RDs g io L H [d] [v] := by
  rw [RDs]; exact ⟨v, [], rfl, h, by simp [RDs]⟩
theorem RDs.nil : RDs g io L H [] [] := by simp [RDs]
theorem RDs.cons {d : D} {v : V} {ds : List D} {vs : List V} (h : RD g io L H d v) (k : RDs g io L H ds vs) : RDs g io L H (d :: ds) (v :: vs) := by
  rw [RDs]; exact ⟨v, vs, rfl, h, k⟩
theorem RDs.cons_inv {d : D} {ds : List D} {vs : List V} (h : RDs g io L H (d :: ds) vs) : ∃ v us, vs = v :: us ∧ RD g io L H d v ∧ RDs g io L H ds us := by
  rw [RDs] at h; exact h
theorem RDs.nil_inv {vs : List V} (h : RDs g io L H [] vs) : vs = [] := by simpa [RDs] using h
theorem RDs.reverse : ∀ {ds : List D} {vs : List V}, RDs g io L H ds vs → RDs g io L H ds.reverse vs.reverse
  | [], vs, h => by rw [h.nil_inv]; exact .nil
  | d :: ds, vs, h => by
    obtain ⟨v, us, rfl, r, q⟩ := h.cons_inv
    rw [List.reverse_cons, List.reverse_cons]
    exact (RDs.reverse q).append (.one r)
theorem RDs.dropLast {ds : List D} {vs : List V} (h : RDs g io L H ds vs) : RDs g io L H ds.dropLast vs.dropLast := by
  rw [List.dropLast_eq_take, List.dropLast_eq_take, ← h.len]
  exact h.take _
theorem RO.mono_ne {o : O} {a : Addr} (hL : L ≤ L') (ha : ∀ i, i < L → io' i = io i) (ht : ∀ a vs, SqT g.K H a vs → SqT g.K H' a vs) (hk : ∀ u, H a = some u → H' a = some u) (h : RO g io L H o a) : RO g io' L' H' o a := by
  cases o with
  | lst ds => obtain ⟨vs, e, r⟩ := h; exact ⟨vs, hk _ e, r.mono hL ha ht⟩
  | flst ds =>
    obtain ⟨vs, e, r⟩ := h
    refine ⟨vs, ?_, r.mono hL ha ht⟩
    rcases e with ⟨o, e⟩ | e
    · exact .inl ⟨o, hk _ e⟩
    · exact .inr e
  | dct kvs => obtain ⟨ks, e, r⟩ := h; exact ⟨ks, hk _ e, r.mono hL ha ht⟩
  | ins c fs => obtain ⟨dx, vs, e, r⟩ := h; exact ⟨dx, vs, hk _ e, r.mono hL ha ht⟩
theorem RO.there {o : O} {a : Addr} (h : RO g io L H o a) (m : o.mut = true) : ∃ u, H a = some u ∧ (∀ vs, u ≠ .tup vs) ∧ ∀ ob w, u ≠ .frz ob w := by
  cases o with
  | lst ds => obtain ⟨vs, e, r⟩ := h; exact ⟨_, e, (fun _ z => nomatch z), fun _ _ z => nomatch z⟩
  | flst ds => cases m
  | dct kvs => obtain ⟨ks, e, r⟩ := h; exact ⟨_, e, (fun _ z => nomatch z), fun _ _ z => nomatch z⟩
  | ins c fs => obtain ⟨dx, vs, e, r⟩ := h; exact ⟨_, e, (fun _ z => nomatch z), fun _ _ z => nomatch z⟩
theorem RO.flst_sq {ds : List D} {a : Addr} (h : RO g io L H (.flst ds) a) : ∃ vs, SqL g.K H a vs ∧ RDs g io L H ds vs := by
  obtain ⟨vs, e, r⟩ := h
  refine ⟨vs, ?_, r⟩
  rcases e with ⟨o, e⟩ | e
  · exact .inl (.inr ⟨o, e⟩)
  · exact .inr e
/-- a list that only is read stays, whatever is written -/
theorem RO.mono_f {ds : List D} {a : Addr} (hL : L ≤ L') (ha : ∀ i, i < L → io' i = io i) (ht : ∀ a vs, SqT g.K H a vs → SqT g.K H' a vs) (hk : ∀ ob w, H a = some (.frz ob w) → H' a = some (.frz ob w)) (h : RO g io L H (.flst ds) a) : RO g io' L' H' (.flst ds) a := by
  obtain ⟨vs, e, r⟩ := h
  refine ⟨vs, ?_, r.mono hL ha ht⟩
  rcases e with ⟨o, e⟩ | e
  · exact .inl ⟨o, hk _ _ e⟩
  · exact .inr e

/-! ### steps of the heap -/
theorem tup_upd {o : HO} {p : Addr} (hp : ∀ vs, ¬ Rd H p (.tup vs)) : ∀ a vs, SqT g.K H a vs → SqT g.K (upd H p o) a vs := by
  intro a vs h
  rcases h with (h | ⟨ob, h⟩) | h
  · refine .inl (.inl ?_)
    have ne : a ≠ p := fun e => hp vs (by subst e; exact .inl h)
    rw [upd_ne ne]; exact h
  · refine .inl (.inr ⟨ob, ?_⟩)
    have ne : a ≠ p := fun e => hp vs (by subst e; exact .inr ⟨ob, h⟩)
    rw [upd_ne ne]; exact h
  · exact .inr h
theorem rd_none {p : Addr} (hp : H p = none) : ∀ vs, ¬ Rd H p (.tup vs) := fun vs h => by
  rcases h with h | ⟨o, h⟩ <;> rw [hp] at h <;> cases h
theorem rd_of {p : Addr} {o : HO} (hp : H p = some o) (n1 : ∀ vs, o ≠ .tup vs) (n2 : ∀ ob u, o ≠ .frz ob u) : ∀ vs, ¬ Rd H p (.tup vs) := fun vs h => by
  rcases h with h | ⟨ob, h⟩
  · rw [hp] at h; cases h; exact n1 vs rfl
  · rw [hp] at h; cases h; exact n2 _ _ rfl
/-- a tuple is laid: no place of our heap -/
theorem step_tup {p : Addr} {vs : List V} (R : RH g io hd H) (hp : H p = none) : RH g io hd (upd H p (.tup vs)) ∧ Nxt g io hd H io hd (upd H p (.tup vs)) := by
  have kp : ∀ a u, H a = some u → (upd H p (.tup vs)) a = some u := fun a u e => by rw [upd_ne (ne_of_none e hp)]; exact e
  have kt := tup_upd (g := g) (o := .tup vs) (rd_none hp)
  refine ⟨⟨R.inj, fun i o e => (R.obj i o e).mono_ne (Nat.le_refl _) (fun _ _ => rfl) kt fun u => kp _ u⟩, Nat.le_refl _, fun _ _ => rfl, kt, fun a xs _ e n => ⟨kp a _ e, n⟩⟩
/-- where a new place stands -/
def ext (io : Nat → Addr) (n : Nat) (p : Addr) : Nat → Addr := fun i => if i = n then p else io i
theorem ext_same {io : Nat → Addr} {n : Nat} {p : Addr} : ext io n p n = p := by simp [ext]
theorem ext_ne {io : Nat → Addr} {n i : Nat} {p : Addr} (h : i ≠ n) : ext io n p i = io i := by simp [ext, h]
/-- which of the layer's objects our objects are, the new one's parts being related in the old heap -/
theorem SqL.mono_of {a : Addr} {vs : List V} (hk : ∀ u, H a = some u → H' a = some u) (e : SqL g.K H a vs) : SqL g.K H' a vs := by
  rcases e with (e | ⟨o, e⟩) | e
  · exact .inl (.inl (hk _ e))
  · exact .inl (.inr ⟨o, hk _ e⟩)
  · exact .inr e
/-- a new object is laid -/
theorem step_new {p : Addr} {o : O} {u : HO} (R : RH g io hd H) (hp : H p = none)
    (ho : RO g (ext io hd.length p) (hd.length + 1) (upd H p u) o p) :
    RH g (ext io hd.length p) (hd ++ [o]) (upd H p u) ∧ Nxt g io hd H (ext io hd.length p) (hd ++ [o]) (upd H p u) := by
  have kp : ∀ a w, H a = some w → (upd H p u) a = some w := fun a w e => by rw [upd_ne (ne_of_none e hp)]; exact e
  have kt := tup_upd (g := g) (o := u) (rd_none hp)
  have ag : ∀ i, i < hd.length → ext io hd.length p i = io i := fun i h => ext_ne (Nat.ne_of_lt h)
  have hl : (hd ++ [o]).length = hd.length + 1 := by simp
  have at_ : ∀ {i : Nat} {ob : O}, (hd ++ [o])[i]? = some ob → (hd[i]? = some ob ∧ i < hd.length) ∨ (i = hd.length ∧ ob = o) := fun {i ob} e => by
    by_cases hi : i < hd.length
    · rw [List.getElem?_append_left hi] at e
      exact .inl ⟨e, hi⟩
    · have h2 : i = hd.length := by
        have := (List.getElem?_eq_some_iff.mp e).1
        rw [hl] at this
        omega
      subst h2
      exact .inr ⟨rfl, by simpa using e.symm⟩
  have apart : ∀ {i : Nat} {ob : O}, hd[i]? = some ob → ob.mut = true → io i ≠ p := fun {i ob} e m => by
    obtain ⟨w, hw, _⟩ := (R.obj i ob e).there m
    exact ne_of_none hw hp
  refine ⟨⟨fun i j a b e1 e2 m1 m2 e => ?_, fun i ob e => ?_⟩, by rw [hl]; exact Nat.le_succ _, ag, kt, fun a xs _ e n => ⟨kp a _ e, ?_⟩⟩
  · rcases at_ e1 with ⟨h1, l1⟩ | ⟨rfl, rfl⟩
    · rcases at_ e2 with ⟨h2, l2⟩ | ⟨rfl, rfl⟩
      · rw [ag i l1, ag j l2] at e
        exact R.inj i j a b h1 h2 m1 m2 e
      · rw [ag i l1, ext_same] at e
        exact absurd e (apart h1 m1)
    · rcases at_ e2 with ⟨h2, l2⟩ | ⟨rfl, rfl⟩
      · rw [ag j l2, ext_same] at e
        exact absurd e.symm (apart h2 m2)
      · rfl
  · rw [hl]
    rcases at_ e with ⟨h1, l1⟩ | ⟨rfl, rfl⟩
    · rw [ag i l1]
      exact (R.obj i ob h1).mono_ne (Nat.le_succ _) ag kt fun w => kp _ w
    · rw [ext_same]
      exact ho
  · rintro ⟨i, ob, e1, m, e2⟩
    rcases at_ e1 with ⟨h1, l1⟩ | ⟨rfl, rfl⟩
    · rw [ag i l1] at e2
      exact n ⟨i, ob, h1, m, e2⟩
    · rw [ext_same] at e2
      exact ne_of_none e hp e2.symm
/-- an object is written -/
theorem step_set {n : Nat} {o o' : O} {u' : HO} (R : RH g io hd H) (hn : hd[n]? = some o) (hm : o.mut = true) (hm' : o'.mut = true)
    (ho : (∀ a vs, SqT g.K H a vs → SqT g.K (upd H (io n) u') a vs) → RO g io hd.length (upd H (io n) u') o' (io n)) : RH g io (hd.set n o') (upd H (io n) u') ∧ Nxt g io hd H io (hd.set n o') (upd H (io n) u') := by
  obtain ⟨u, hu, n1, n2⟩ := (R.obj n o hn).there hm
  have hlt : n < hd.length := (List.getElem?_eq_some_iff.mp hn).1
  have kt := tup_upd (g := g) (o := u') (rd_of hu n1 n2)
  have hl : (hd.set n o').length = hd.length := by simp
  have at_ : ∀ {i : Nat} {ob : O}, (hd.set n o')[i]? = some ob → (i = n ∧ ob = o') ∨ (i ≠ n ∧ hd[i]? = some ob) := fun {i ob} e => by
    by_cases hi : i = n
    · subst hi
      rw [List.getElem?_set_self hlt] at e
      exact .inl ⟨rfl, (Option.some.inj e).symm⟩
    · rw [List.getElem?_set_ne (Ne.symm hi)] at e
      exact .inr ⟨hi, e⟩
  have old : ∀ {i : Nat} {ob : O}, (hd.set n o')[i]? = some ob → ob.mut = true → ∃ ob', hd[i]? = some ob' ∧ ob'.mut = true := fun {i ob} e m => by
    rcases at_ e with ⟨rfl, rfl⟩ | ⟨_, h⟩
    · exact ⟨o, hn, hm⟩
    · exact ⟨ob, h, m⟩
  refine ⟨⟨fun i j a b e1 e2 m1 m2 e => ?_, fun i ob e => ?_⟩, by rw [hl]; exact Nat.le_refl _, fun _ _ => rfl, kt, fun a xs _ e nn => ⟨?_, ?_⟩⟩
  · obtain ⟨a', h1, q1⟩ := old e1 m1
    obtain ⟨b', h2, q2⟩ := old e2 m2
    exact R.inj i j a' b' h1 h2 q1 q2 e
  · rw [hl]
    rcases at_ e with ⟨rfl, rfl⟩ | ⟨hi, h⟩
    · exact ho kt
    · cases hmo : ob.mut with
      | true =>
        have ne : io i ≠ io n := fun z => hi (R.inj i n ob o h hn hmo hm z)
        exact (R.obj i ob h).mono_ne (Nat.le_refl _) (fun _ _ => rfl) kt fun w hw => by rw [upd_ne ne]; exact hw
      | false =>
        cases ob with
        | flst ds =>
          refine RO.mono_f (Nat.le_refl _) (fun _ _ => rfl) kt (fun ob w hw => ?_) (R.obj i _ h)
          have ne : io i ≠ io n := fun z => by
            rw [z, hu] at hw
            exact n2 _ _ (Option.some.inj hw)
          rw [upd_ne ne]; exact hw
        | _ => cases hmo
  · have ne : a ≠ io n := fun z => nn ⟨n, o, hn, hm, z.symm⟩
    rw [upd_ne ne]; exact e
  · rintro ⟨i, ob, e1, m, e2⟩
    obtain ⟨a', h1, q1⟩ := old e1 m
    exact nn ⟨i, a', h1, q1, e2⟩
end

/-! ### what is wanted behind -/
def PostE {α : Type} (r : Rs α) (P : α → Hd → Prop) (E : Exn → Hd → Prop) : Prop := match r with
  | .ok a h => P a h
  | .er e h => E e h
  | .no => False
theorem PostE.of_bnd {α β : Type} {r : Rs α} {f : α → M β} {P : β → Hd → Prop} {E : Exn → Hd → Prop} (h : PostE (r.bnd f) P E) : PostE r (fun a h => PostE (f a h) P E) E := by
  cases r <;> exact h
theorem PostE.mono {α : Type} {r : Rs α} {P P' : α → Hd → Prop} {E E' : Exn → Hd → Prop} (h : PostE r P E) (hp : ∀ a h, P a h → P' a h) (he : ∀ e h, E e h → E' e h) : PostE r P' E' := by
  cases r with
  | ok a h' => exact hp a h' h
  | er e h' => exact he e h' h
  | no => exact h
end U
end

section
set_option maxRecDepth 100000
set_option maxHeartbeats 1000000
/-! By values: what the operators of the small machine say is what the layer's rules ask. -/
namespace U
open PySem L2

section
variable {g : Wd} {io io' : Nat → Addr} {hd hd' : Hd} {H H' : Hp} {L : Nat}
theorem rd_non {v : V} : RD g io L H .non v ↔ v = .non := by rw [RD]
theorem rd_bl {b : Bool} {v : V} : RD g io L H (.bl b) v ↔ v = .bl b := by rw [RD]
theorem rd_int {i : Int} {v : V} : RD g io L H (.int i) v ↔ v = .int i := by rw [RD]
theorem rd_str {t : Tx} {v : V} : RD g io L H (.str t) v ↔ v = .str (tS t) ∧ OkT t := by rw [RD]
theorem rd_tup {ds : List D} {v : V} : RD g io L H (.tup ds) v ↔ ∃ a vs, v = .ref a ∧ SqT g.K H a vs ∧ RDs g io L H ds vs := by rw [RD]
theorem rd_ref {n : Nat} {v : V} : RD g io L H (.ref n) v ↔ n < L ∧ v = .ref (io n) := by rw [RD]
/-- what is wanted of a value behind -/
abbrev PQ (g : Wd) (io : Nat → Addr) (hd : Hd) (H : Hp) (Q : VK) : D → Hd → Prop := fun v h' => ∀ io' H' v', Nxt g io hd H io' h' H' → RH g io' h' H' → RD g io' h'.length H' v v' → Q v' H'
theorem PQ.val {Q : VK} {d : D} {v : V} (R : RH g io hd H) (q : PQ g io hd H Q d hd) (r : RD g io hd.length H d v) : Q v H := q io H v .refl R r
theorem PQ.tup {Q : VK} {ds : List D} {vs : List V} {p : Addr} (R : RH g io hd H) (q : PQ g io hd H Q (.tup ds) hd) (r : RDs g io hd.length H ds vs) (hp : H p = none) : Q (.ref p) (upd H p (.tup vs)) := by
  obtain ⟨R', N⟩ := step_tup (vs := vs) R hp
  exact q io _ _ N R' (rd_tup.mpr ⟨p, vs, rfl, SqT.of upd_same, N.rds r⟩)
theorem PQ.new {Q : VK} {o : O} {u : HO} {p : Addr} (R : RH g io hd H) (q : PQ g io hd H Q (.ref hd.length) (hd ++ [o])) (hp : H p = none)
    (ho : (∀ i, i < hd.length → ext io hd.length p i = io i) → (∀ a vs, SqT g.K H a vs → SqT g.K (upd H p u) a vs) → RO g (ext io hd.length p) (hd.length + 1) (upd H p u) o p) : Q (.ref p) (upd H p u) := by
  obtain ⟨R', N⟩ := step_new (o := o) (u := u) R hp (ho (fun i h => ext_ne (Nat.ne_of_lt h)) (tup_upd (rd_none hp)))
  refine q _ _ _ N R' (rd_ref.mpr ⟨by simp, ?_⟩)
  rw [ext_same]
theorem PQ.newL {Q : VK} {ds : List D} {vs : List V} {p : Addr} (R : RH g io hd H) (q : PQ g io hd H Q (.ref hd.length) (hd ++ [.lst ds])) (r : RDs g io hd.length H ds vs) (hp : H p = none) : Q (.ref p) (upd H p (.lst vs)) :=
  q.new R hp fun ha ht => ⟨vs, upd_same, r.mono (Nat.le_succ _) ha ht⟩
/-- a list that may be written -/
theorem RH.lst {n : Nat} {ds : List D} (R : RH g io hd H) (h : hd[n]? = some (.lst ds)) : ∃ vs, H (io n) = some (.lst vs) ∧ RDs g io hd.length H ds vs := R.obj n _ h
theorem RH.list? {d : D} {v : V} {ds : List D} (R : RH g io hd H) (h : list? hd d = some ds) (r : RD g io hd.length H d v) : ∃ a vs, v = .ref a ∧ SqL g.K H a vs ∧ RDs g io hd.length H ds vs := by
  cases d with
  | ref n =>
    obtain ⟨_, rfl⟩ := rd_ref.mp r
    have h : hd[n]?.bind O.list? = some ds := h
    cases e : hd[n]? with
    | none => rw [e] at h; cases h
    | some o =>
      rw [e] at h
      cases o with
      | lst ds' =>
        cases h
        obtain ⟨vs, e1, q⟩ := R.lst e
        exact ⟨_, vs, rfl, SqL.of e1, q⟩
      | flst ds' =>
        cases h
        obtain ⟨vs, e1, q⟩ := (R.obj n _ e).flst_sq
        exact ⟨_, vs, rfl, e1, q⟩
      | dct _ => cases h
      | ins _ _ => cases h
  | _ => cases h
theorem RH.seq? {d : D} {v : V} {ds : List D} (R : RH g io hd H) (h : seq? hd d = some ds) (r : RD g io hd.length H d v) : ∃ a vs, v = .ref a ∧ (SqL g.K H a vs ∨ SqT g.K H a vs) ∧ RDs g io hd.length H ds vs := by
  cases d with
  | tup es =>
    cases h
    obtain ⟨a, vs, e, q, rr⟩ := rd_tup.mp r
    exact ⟨a, vs, e, .inr q, rr⟩
  | ref n =>
    have h' : U.list? hd (.ref n) = some ds := h
    obtain ⟨a, vs, e, q, rr⟩ := R.list? h' r
    exact ⟨a, vs, e, .inl q, rr⟩
  | _ => cases h
/-- a list is written -/
theorem RH.put {n : Nat} {ds ds' : List D} {vs' : List V} (R : RH g io hd H) (h : hd[n]? = some (.lst ds)) (r : RDs g io hd.length H ds' vs') :
    RH g io (hd.set n (.lst ds')) (upd H (io n) (.lst vs')) ∧ Nxt g io hd H io (hd.set n (.lst ds')) (upd H (io n) (.lst vs')) :=
  step_set R h rfl rfl fun ht => ⟨vs', upd_same, r.mono (Nat.le_refl _) (fun _ _ => rfl) ht⟩

/-! ### data -/
theorem mapO_mem {α β : Type} {f : α → Option β} : ∀ {as : List α} {bs : List β}, mapO f as = some bs → ∀ b ∈ bs, ∃ a ∈ as, f a = some b
  | [], bs, h, b, hb => by simp [mapO] at h; subst h; cases hb
  | a :: r, bs, h, b, hb => by
    unfold mapO at h
    cases e : f a with
    | none => rw [e] at h; cases h
    | some x =>
      rw [e] at h
      cases e2 : mapO f r with
      | none => rw [e2] at h; cases h
      | some xs =>
        rw [e2] at h
        cases h
        rcases List.mem_cons.mp hb with rfl | hb
        · exact ⟨a, List.mem_cons_self, e⟩
        · obtain ⟨a', h1, h2⟩ := mapO_mem e2 b hb
          exact ⟨a', List.mem_cons_of_mem _ h1, h2⟩
theorem dpAll_of {K : PySem.W.Frag} {f : D → Option PyData} (ih : ∀ d p v, f d = some p → RD g io L H d v → Dp K H v p) : ∀ {ds : List D} {ps : List PyData} {vs : List V}, mapO f ds = some ps → RDs g io L H ds vs → DpAll K H vs ps
  | [], ps, vs, h, r => by
    cases (RDs.nil_inv r)
    simp [mapO] at h
    subst h
    exact .nil
  | d :: ds, ps, vs, h, r => by
    obtain ⟨v, us, rfl, r1, r2⟩ := r.cons_inv
    unfold mapO at h
    cases e : f d with
    | none => rw [e] at h; cases h
    | some x =>
      rw [e] at h
      cases e2 : mapO f ds with
      | none => rw [e2] at h; cases h
      | some xs =>
        rw [e2] at h
        cases h
        exact .cons (ih d x v e r1) (dpAll_of ih e2 r2)
/-- data as the layer has them, of bounded depth, their texts well -/
theorem toP_dp (R : RH g io hd H) : ∀ (n : Nat) (d : D) (p : PyData) (v : V), toP n hd d = some p → RD g io hd.length H d v → Dp g.K H v p
  | 0, _, _, _, h, _ => by cases h
  | n + 1, d, p, v, h, r => by
    cases d with
    | non => cases h; rw [rd_non.mp r]; exact .non
    | bl b => cases h; rw [rd_bl.mp r]; exact .bl b
    | int i => cases h; rw [rd_int.mp r]; exact .int i
    | str s => cases h; rw [(rd_str.mp r).1]; exact .str _
    | tup ds =>
      unfold toP at h
      obtain ⟨ps, e, rfl⟩ := Option.map_eq_some_iff.mp h
      obtain ⟨a, vs, rfl, q, rr⟩ := rd_tup.mp r
      exact .tup q (dpAll_of (fun d p v => toP_dp R n d p v) e rr)
    | ref m =>
      unfold toP at h
      obtain ⟨ds, e, h⟩ := Option.bind_eq_some_iff.mp h
      obtain ⟨ps, e2, rfl⟩ := Option.map_eq_some_iff.mp h
      obtain ⟨a, vs, rfl, q, rr⟩ := R.list? e r
      exact .lst q (dpAll_of (fun d p v => toP_dp R n d p v) e2 rr)
theorem shAll {n : Nat} {f : D → Option PyData} (ih : ∀ d p v, f d = some p → RD g io L H d v → p.depth ≤ n ∧ p.canLay0 = true) : ∀ {ds : List D} {ps : List PyData} {vs : List V}, mapO f ds = some ps → RDs g io L H ds vs → PyData.depthAll ps ≤ n ∧ PyData.canLayAll0 ps = true
  | [], ps, vs, h, r => by
    simp [mapO] at h
    subst h
    exact ⟨by simp [PyData.depthAll], by simp [PyData.canLayAll0]⟩
  | d :: ds, ps, vs, h, r => by
    obtain ⟨v, us, rfl, r1, r2⟩ := r.cons_inv
    unfold mapO at h
    cases e : f d with
    | none => rw [e] at h; cases h
    | some x =>
      rw [e] at h
      cases e2 : mapO f ds with
      | none => rw [e2] at h; cases h
      | some xs =>
        rw [e2] at h
        cases h
        obtain ⟨h1, h2⟩ := ih d x v e r1
        obtain ⟨h3, h4⟩ := shAll ih e2 r2
        exact ⟨by simp only [PyData.depthAll]; exact Nat.max_le.mpr ⟨h1, h3⟩, by simp only [PyData.canLayAll0, h2, h4]; rfl⟩
theorem toP_lay (R : RH g io hd H) : ∀ (n : Nat) (d : D) (p : PyData) (v : V), toP n hd d = some p → RD g io hd.length H d v → p.depth ≤ n ∧ p.canLay0 = true
  | 0, _, _, _, h, _ => by cases h
  | n + 1, d, p, v, e, r => by
    cases d with
    | non => cases e; exact ⟨by simp [PyData.depth], by simp [PyData.canLay0]⟩
    | bl b => cases e; exact ⟨by simp [PyData.depth], by simp [PyData.canLay0]⟩
    | int i => cases e; exact ⟨by simp [PyData.depth], by simp [PyData.canLay0]⟩
    | str s =>
      cases e
      refine ⟨by simp [PyData.depth], ?_⟩
      have ok := (rd_str.mp r).2
      simp only [PyData.canLay0]
      unfold PyData.strOk
      simpa [OkT] using ok
    | tup ds =>
      unfold toP at e
      obtain ⟨ps, e1, rfl⟩ := Option.map_eq_some_iff.mp e
      obtain ⟨a, vs, rfl, q, rr⟩ := rd_tup.mp r
      obtain ⟨h1, h2⟩ := shAll (fun d p v => toP_lay R n d p v) e1 rr
      exact ⟨by simp only [PyData.depth]; omega, by simp only [PyData.canLay0]; exact h2⟩
    | ref m =>
      unfold toP at e
      obtain ⟨ds, e0, e⟩ := Option.bind_eq_some_iff.mp e
      obtain ⟨ps, e1, rfl⟩ := Option.map_eq_some_iff.mp e
      obtain ⟨a, vs, rfl, q, rr⟩ := R.list? e0 r
      obtain ⟨h1, h2⟩ := shAll (fun d p v => toP_lay R n d p v) e1 rr
      exact ⟨by simp only [PyData.depth]; omega, by simp only [PyData.canLay0]; exact h2⟩
theorem toP_shaped (R : RH g io hd H) {d : D} {p : PyData} {v : V} (e : toP DEEP hd d = some p) (r : RD g io hd.length H d v) : SeqAt.shaped p = true := by
  obtain ⟨h1, h2⟩ := toP_lay R _ _ _ _ e r
  unfold SeqAt.shaped
  rw [h2, decide_eq_true (Nat.le_trans h1 (by decide))]
  rfl
end
end U
end

section
set_option maxRecDepth 100000
set_option maxHeartbeats 1000000
/-! Operators by values. -/
namespace U
open PySem L2

def toOp : BOp → Operator
  | .add => .Add | .sub => .Sub | .mul => .Mult | .fdiv => .FloorDiv | .mod => .Mod | .pow => .Pow | .shl => .LShift | .shr => .RShift | .band => .BitAnd | .bor => .BitOr | .bxor => .BitXor
def toCmp : COp → CmpOp
  | .eq => .Eq | .ne => .NotEq | .lt => .Lt | .le => .LtE | .gt => .Gt | .ge => .GtE | .is_ => .Is | .isnot => .IsNot | .in_ => .In | .nin => .NotIn

section
variable {g : Wd}
/-- a function of two values keeps to a rule -/
def BV2 (g : Wd) (f : D → D → M D) (r : R2) : Prop := ∀ (io : Nat → Addr) (hd : Hd) (H : Hp) (x y : D) (vx vy : V) (Q : VK) (E : Exn → Hd → Prop), RH g io hd H → RD g io hd.length H x vx → RD g io hd.length H y vy → PostE (f x y hd) (PQ g io hd H Q) E → r vx vy H Q
theorem line_eq : sizeLine = LIM := by rw [sizeLine_eq]
theorem must_post {b : Bool} {α : Type} {f : Unit → M α} {h : Hd} {P : α → Hd → Prop} {E : Exn → Hd → Prop} (q : PostE (bnd (must b) f h) P E) : b = true ∧ PostE (f () h) P E := by
  cases b with
  | true => exact ⟨rfl, q⟩
  | false => exact q.elim
theorem lft_post {α β : Type} {o : Option α} {f : α → M β} {h : Hd} {P : β → Hd → Prop} {E : Exn → Hd → Prop} (q : PostE (bnd (lft o) f h) P E) : ∃ a, o = some a ∧ PostE (f a h) P E := by
  cases o with
  | some a => exact ⟨a, rfl, q⟩
  | none => exact q.elim
theorem okT_append {a b : Tx} (ha : OkT a) (hb : OkT b) : OkT (a ++ b) := fun c hc => (List.mem_append.mp hc).elim (ha c) (hb c)
theorem okT_rep {a : Tx} (ha : OkT a) (n : Nat) : OkT (repT a n) := fun c hc => by
  unfold repT at hc
  obtain ⟨l, hl, hc⟩ := List.mem_flatten.mp hc
  rw [(List.mem_replicate.mp hl).2] at hc
  exact ha c hc
theorem tS_append (a b : Tx) : tS a ++ tS b = tS (a ++ b) := by
  show Str.mk (a.toArray ++ b.toArray) = Str.mk (a ++ b).toArray
  simp
theorem tS_len (a : Tx) : (tS a).length = a.length := by
  show a.toArray.size = _
  simp
theorem len_rep {a : List α} (n : Nat) : (repT a n).length = n * a.length := by simp [repT]
theorem rds_rep {io : Nat → Addr} {L : Nat} {H : Hp} {ds : List D} {vs : List V} (h : RDs g io L H ds vs) : ∀ n, RDs g io L H (repT ds n) (List.replicate n vs).flatten
  | 0 => by simpa [repT] using RDs.nil
  | n + 1 => by
    have e : repT ds (n + 1) = ds ++ repT ds n := by simp [repT, List.replicate_succ]
    rw [e, List.replicate_succ, List.flatten_cons]
    exact h.append (rds_rep h n)
theorem reps_eq (c : Array Nat) : ∀ (k : Nat) (acc : Array Nat), (List.replicate k c).foldl (· ++ ·) acc = acc ++ ((List.replicate k c.toList).flatten).toArray
  | 0, acc => by simp
  | k + 1, acc => by
    rw [List.replicate_succ, List.foldl_cons, reps_eq c k, List.replicate_succ, List.flatten_cons]
    apply Array.ext'
    simp
theorem mul_text (a : Tx) (n : Int) : Txt.mul (tS a) n = tS (repT a n.toNat) := by
  unfold Txt.mul
  by_cases h1 : n < 1
  · rw [if_pos h1, show n.toNat = 0 by omega]; rfl
  · rw [if_neg h1]
    by_cases h2 : (n == 1 || (tS a).length == 0) = true
    · rw [if_pos h2, tS_len] at *
      have h3 : n = 1 ∨ a.length = 0 := by simpa [tS_len] using h2
      rcases h3 with h3 | h3
      · subst h3; simp [repT]
      · obtain rfl := List.length_eq_zero_iff.mp h3
        simp [repT]
    · rw [if_neg h2]
      show Str.mk ((List.replicate n.toNat a.toArray).foldl (· ++ ·) #[]) = _
      rw [reps_eq]
      apply congrArg Str.mk
      simp [repT]
theorem op_mul_str {X : Cx} : OpR X (binaryOp .Mult) (fun x y H Q => ∃ z n, x = .str z ∧ y = .int n ∧ MulOk z n ∧ Q (.str (Txt.mul z n)) H) := by
  intro pins s σ H x y v u Q I rx ry h
  obtain ⟨z, n, rfl, rfl, hok, q⟩ := h
  obtain ⟨t, rfl⟩ := rx
  obtain ⟨t', rfl⟩ := ry
  exact SB.mul hok fun t2 k => ⟨.str _, H, I.tok k, ⟨t2, rfl⟩, q⟩
theorem OpR.imp {X : Cx} {f : Value → Value → Sem Value} {r r' : R2} (h : OpR X f r) (k : ∀ x y H Q, r' x y H Q → r x y H Q) : OpR X f r' :=
  fun pins s σ H x y v u Q I rx ry q => h pins s σ H x y v u Q I rx ry (k _ _ _ _ q)
theorem clear64_mul {i j : Int} (h : mulOk i j = true) : CMul i j := by
  unfold mulOk clear64 at h
  simp only [Bool.or_eq_true, Bool.and_eq_true, decide_eq_true_eq] at h
  exact h
theorem powOk_pow {i j : Int} (h : powOk i j = true) : CPow i j := by
  unfold powOk at h
  simp only [Bool.and_eq_true, decide_eq_true_eq] at h
  exact ⟨h.1.1, h.1.2, h.2⟩
theorem bin_ok {X : Cx} (eK : X.K = g.K) (o : BOp) : ∃ r, OpR X (binaryOp (toOp o)) r ∧ BV2 g (binE o) r := by
  cases o with
  | add =>
    refine ⟨_, op_add.or (op_add_str.or (op_cat.or op_catA)), fun io hd H x y vx vy Q E R rx ry q => ?_⟩
    cases x <;> cases y <;> try exact q.elim
    · rw [rd_int.mp rx, rd_int.mp ry]
      exact .inl ⟨_, _, rfl, rfl, q.val R (rd_int.mpr rfl)⟩
    · obtain ⟨h1, q⟩ := must_post q
      obtain ⟨e1, k1⟩ := rd_str.mp rx
      obtain ⟨e2, k2⟩ := rd_str.mp ry
      rw [e1, e2]
      refine .inr (.inl ⟨_, _, rfl, rfl, by rw [tS_len, tS_len, line_eq]; exact of_decide_eq_true h1, ?_⟩)
      rw [tS_append]
      exact PQ.val R q (rd_str.mpr ⟨rfl, okT_append k1 k2⟩)
    · obtain ⟨h1, q⟩ := must_post q
      obtain ⟨a, us, rfl, s1, r1⟩ := rd_tup.mp rx
      obtain ⟨b, vs, rfl, s2, r2⟩ := rd_tup.mp ry
      rw [← eK] at s1 s2
      refine .inr (.inr (.inr ⟨a, b, us, vs, rfl, rfl, s1, s2, by rw [← r1.len, ← r2.len, line_eq]; exact of_decide_eq_true h1, fun e => ?_, fun _ e => ?_, fun _ _ p hp => PQ.tup R q (r1.append r2) hp⟩))
      · subst e
        have e0 := r1.len
        obtain rfl := List.length_eq_zero_iff.mp e0
        exact PQ.val R q (by rw [List.nil_append]; exact ry)
      · subst e
        have e0 := r2.len
        obtain rfl := List.length_eq_zero_iff.mp e0
        exact PQ.val R q (by rw [List.append_nil]; exact rx)
    · rename_i n m
      have q : PostE (match hd[n]?, hd[m]? with
        | some (.lst as), some (.lst bs) => (bnd (must (decide (as.length + bs.length ≤ LIM))) fun _ => new (.lst (as ++ bs))) hd
        | _, _ => .no) (PQ g io hd H Q) E := q
      split at q
      · rename_i as bs e1 e2
        obtain ⟨h1, q⟩ := must_post q
        obtain ⟨us, w1, r1⟩ := R.lst e1
        obtain ⟨vs, w2, r2⟩ := R.lst e2
        obtain ⟨_, rfl⟩ := rd_ref.mp rx
        obtain ⟨_, rfl⟩ := rd_ref.mp ry
        exact .inr (.inr (.inl ⟨_, _, us, vs, rfl, rfl, w1, w2, by rw [← r1.len, ← r2.len, line_eq]; exact of_decide_eq_true h1, fun p hp => PQ.newL R q (r1.append r2) hp⟩))
      · exact q.elim
  | sub =>
    refine ⟨_, op_sub, fun io hd H x y vx vy Q E R rx ry q => ?_⟩
    cases x <;> cases y <;> try exact q.elim
    rw [rd_int.mp rx, rd_int.mp ry]
    exact ⟨_, _, rfl, rfl, q.val R (rd_int.mpr rfl)⟩
  | mul =>
    refine ⟨_, op_mul.or (op_mul_str.or op_rep), fun io hd H x y vx vy Q E R rx ry q => ?_⟩
    cases x <;> cases y <;> try exact q.elim
    · obtain ⟨h1, q⟩ := must_post q
      rw [rd_int.mp rx, rd_int.mp ry]
      exact .inl ⟨_, _, rfl, rfl, clear64_mul h1, PQ.val R q (rd_int.mpr rfl)⟩
    · obtain ⟨h1, q⟩ := must_post q
      obtain ⟨e1, k1⟩ := rd_str.mp rx
      obtain ⟨h2, h3, h4⟩ := of_decide_eq_true h1
      rw [e1, rd_int.mp ry]
      refine .inr (.inl ⟨_, _, rfl, rfl, PyProof.Rows.mulOk_of 1000 1000 (by rw [tS_len]; exact h4) h3 (by omega) (by decide) (by decide), ?_⟩)
      rw [mul_text]
      exact PQ.val R q (rd_str.mpr ⟨rfl, okT_rep k1 _⟩)
    · rename_i n k
      have q : PostE (match hd[n]? with
        | some (.lst as) => (bnd (must (decide (-(9223372036854775808 : Int) ≤ k ∧ k < 9223372036854775808 ∧ as.length * k.toNat ≤ LIM))) fun _ => new (.lst (repT as k.toNat))) hd
        | _ => .no) (PQ g io hd H Q) E := q
      split at q
      · rename_i as e1
        obtain ⟨h1, q⟩ := must_post q
        obtain ⟨h2, h3, h4⟩ := of_decide_eq_true h1
        obtain ⟨us, w1, r1⟩ := R.lst e1
        obtain ⟨_, rfl⟩ := rd_ref.mp rx
        rw [rd_int.mp ry]
        exact .inr (.inr ⟨_, _, us, rfl, rfl, w1, h2, h3, by rw [← r1.len, line_eq]; exact h4, fun p hp => PQ.newL R q (rds_rep r1 _) hp⟩)
      · exact q.elim
  | fdiv =>
    refine ⟨_, op_fdiv.or op_fdivW, fun io hd H x y vx vy Q E R rx ry q => ?_⟩
    cases x <;> cases y <;> try exact q.elim
    obtain ⟨h1, q⟩ := must_post q
    unfold divOk at h1
    simp only [Bool.or_eq_true, Bool.and_eq_true, decide_eq_true_eq] at h1
    rw [rd_int.mp rx, rd_int.mp ry]
    rcases h1.2 with h2 | h2
    · exact .inl ⟨_, _, rfl, rfl, ⟨h1.1, h2⟩, PQ.val R q (rd_int.mpr rfl)⟩
    · exact .inr ⟨_, _, rfl, rfl, ⟨h1.1, h2⟩, PQ.val R q (rd_int.mpr rfl)⟩
  | mod =>
    refine ⟨_, op_mod, fun io hd H x y vx vy Q E R rx ry q => ?_⟩
    cases x <;> cases y <;> try exact q.elim
    obtain ⟨h1, q⟩ := must_post q
    rw [rd_int.mp rx, rd_int.mp ry]
    exact ⟨_, _, rfl, rfl, of_decide_eq_true h1, PQ.val R q (rd_int.mpr rfl)⟩
  | pow =>
    refine ⟨_, op_pow, fun io hd H x y vx vy Q E R rx ry q => ?_⟩
    cases x <;> cases y <;> try exact q.elim
    obtain ⟨h1, q⟩ := must_post q
    rw [rd_int.mp rx, rd_int.mp ry]
    exact ⟨_, _, rfl, rfl, powOk_pow h1, PQ.val R q (rd_int.mpr rfl)⟩
  | shl =>
    refine ⟨_, op_shl, fun io hd H x y vx vy Q E R rx ry q => ?_⟩
    cases x <;> cases y <;> try exact q.elim
    obtain ⟨h1, q⟩ := must_post q
    rw [rd_int.mp rx, rd_int.mp ry]
    exact ⟨_, _, rfl, rfl, powOk_pow h1, PQ.val R q (rd_int.mpr rfl)⟩
  | shr =>
    refine ⟨_, op_shr, fun io hd H x y vx vy Q E R rx ry q => ?_⟩
    cases x <;> cases y <;> try exact q.elim
    obtain ⟨h1, q⟩ := must_post q
    rw [rd_int.mp rx, rd_int.mp ry]
    exact ⟨_, _, rfl, rfl, of_decide_eq_true h1, PQ.val R q (rd_int.mpr rfl)⟩
  | band =>
    refine ⟨_, op_and, fun io hd H x y vx vy Q E R rx ry q => ?_⟩
    cases x <;> cases y <;> try exact q.elim
    rw [rd_int.mp rx, rd_int.mp ry]
    exact ⟨_, _, rfl, rfl, q.val R (rd_int.mpr rfl)⟩
  | bor =>
    refine ⟨_, op_or, fun io hd H x y vx vy Q E R rx ry q => ?_⟩
    cases x <;> cases y <;> try exact q.elim
    rw [rd_int.mp rx, rd_int.mp ry]
    exact ⟨_, _, rfl, rfl, q.val R (rd_int.mpr rfl)⟩
  | bxor =>
    refine ⟨_, op_xor, fun io hd H x y vx vy Q E R rx ry q => ?_⟩
    cases x <;> cases y <;> try exact q.elim
    rw [rd_int.mp rx, rd_int.mp ry]
    exact ⟨_, _, rfl, rfl, q.val R (rd_int.mpr rfl)⟩
end
end U
end

section
set_option maxRecDepth 100000
set_option maxHeartbeats 1000000
/-! Comparisons, truth, subscripts by values. -/
namespace U
open PySem L2

section
variable {g : Wd} {X : Cx}
theorem op_inT (hu : X.A.units + 65 < cLine) : OpR X (compareOp .In) (fun x y H Q => ∃ d ds, Dp X.K H x d ∧ Dp X.K H y (.tuple ds) ∧ SeqAt.shaped d = true ∧ SeqAt.shaped (.tuple ds) = true ∧ Q (.bl (ds.any fun z => PyData.eqv z d)) H) := by
  intro pins s σ H x y v u Q I rx ry h
  obtain ⟨d, ds, hd, he, sd, se, q⟩ := h
  obtain ⟨as, r1⟩ := Dp.reads I d x v hd rx
  obtain ⟨bs, r2⟩ := Dp.reads I (.tuple ds) y u he ry
  exact SeqAt.in_tuple_reads r2 r1 (SeqAt.canLay_of_shaped se) (SeqAt.canLay_of_shaped sd) (PyProof.Rows.room_in_shaped sd hu) ⟨.bl _, H, I, rfl, q⟩
theorem op_notInT (hu : X.A.units + 65 < cLine) : OpR X (compareOp .NotIn) (fun x y H Q => ∃ d ds, Dp X.K H x d ∧ Dp X.K H y (.tuple ds) ∧ SeqAt.shaped d = true ∧ SeqAt.shaped (.tuple ds) = true ∧ Q (.bl (!ds.any fun z => PyData.eqv z d)) H) := by
  intro pins s σ H x y v u Q I rx ry h
  obtain ⟨d, ds, hd, he, sd, se, q⟩ := h
  obtain ⟨as, r1⟩ := Dp.reads I d x v hd rx
  obtain ⟨bs, r2⟩ := Dp.reads I (.tuple ds) y u he ry
  exact SeqAt.notIn_tuple_reads r2 r1 (SeqAt.canLay_of_shaped se) (SeqAt.canLay_of_shaped sd) (PyProof.Rows.room_in_shaped sd hu) ⟨.bl _, H, I, rfl, q⟩
theorem data_post {io : Nat → Addr} {hd : Hd} {H : Hp} {x : D} {vx : V} {α : Type} {f : PyData → M α} {P : α → Hd → Prop} {E : Exn → Hd → Prop} (R : RH g io hd H) (rx : RD g io hd.length H x vx) (q : PostE (bnd (dataE x) f hd) P E) :
    ∃ p, Dp g.K H vx p ∧ SeqAt.shaped p = true ∧ PostE (f p hd) P E := by
  have q : PostE ((lft (toP DEEP hd x) hd).bnd f) P E := q
  cases e : toP DEEP hd x with
  | none => rw [e] at q; exact q.elim
  | some p =>
    rw [e] at q
    exact ⟨p, toP_dp R _ _ _ _ e rx, toP_shaped R e rx, q⟩
theorem eq_post {io : Nat → Addr} {hd : Hd} {H : Hp} {x y : D} {vx vy : V} {α : Type} {f : Bool → M α} {P : α → Hd → Prop} {E : Exn → Hd → Prop} (R : RH g io hd H) (rx : RD g io hd.length H x vx) (ry : RD g io hd.length H y vy) (q : PostE (bnd (eqE x y) f hd) P E) :
    ∃ p p', Dp g.K H vx p ∧ Dp g.K H vy p' ∧ SeqAt.shaped p = true ∧ SeqAt.shaped p' = true ∧ PostE (f (PyData.eqv p p') hd) P E := by
  have q : PostE (bnd (dataE x) (fun p => bnd (bnd (dataE y) fun q => ret (PyData.eqv p q)) f) hd) P E := by
    have e : bnd (eqE x y) f hd = bnd (dataE x) (fun p => bnd (bnd (dataE y) fun q => ret (PyData.eqv p q)) f) hd := by
      unfold eqE
      simp only [bnd_app]
      cases dataE x hd <;> rfl
    rw [← e]; exact q
  obtain ⟨p, h1, h2, q⟩ := data_post R rx q
  have q : PostE (bnd (dataE y) (fun p' => f (PyData.eqv p p')) hd) P E := by
    have e : bnd (bnd (dataE y) fun q => ret (PyData.eqv p q)) f hd = bnd (dataE y) (fun p' => f (PyData.eqv p p')) hd := by
      simp only [bnd_app]
      cases dataE y hd <;> rfl
    rw [← e]; exact q
  obtain ⟨p', h3, h4, q⟩ := data_post R ry q
  exact ⟨p, p', h1, h3, h2, h4, q⟩
theorem rk_same {a x : D} {k k' : Key} (h1 : RK a k') (rk : RK x k) : D.beq a x = decide (k' = k) := by
  by_cases e : a = x
  · subst e
    have : k' = k := by
      cases a <;> first | exact rk.elim | skip
      · exact Eq.trans h1 (Eq.symm rk)
      · exact Eq.trans h1.1 (Eq.symm rk.1)
    rw [decide_eq_true this, D.beq_refl]
  · have n1 : D.beq a x = false := by
      cases z : D.beq a x with
      | false => rfl
      | true => exact absurd (D.beq_eq z) e
    rw [n1]
    refine (decide_eq_false fun z => e ?_).symm
    subst z
    cases a <;> cases x <;> first | exact rk.elim | exact h1.elim | skip
    · have z : k' = Sum.inl _ := h1
      have z2 : k' = Sum.inl _ := rk
      rw [z] at z2
      rw [Sum.inl.inj z2]
    · have z : k' = Sum.inl _ := h1
      have z2 : k' = Sum.inr _ := rk.1
      rw [z] at z2; cases z2
    · have z : k' = Sum.inr _ := h1.1
      have z2 : k' = Sum.inl _ := rk
      rw [z] at z2; cases z2
    · have z : k' = Sum.inr _ := h1.1
      have z2 : k' = Sum.inr _ := rk.1
      rw [z] at z2
      have e3 := congrArg (fun s : Str => s.cps.toList) (Sum.inr.inj z2)
      simp at e3
      rw [e3]
theorem rk_valV {io : Nat → Addr} {L : Nat} {H : Hp} {x : D} {k : Key} (rk : RK x k) : ∀ {kvs : List (D × D)} {ks : List (Key × V)}, RKs g io L H kvs ks → ROp g io L H (lookK kvs x) (valV ks k)
  | [], ks, h => by cases (show ks = [] from h); exact trivial
  | (a, b) :: r, ks, h => by
    obtain ⟨k', v, q, rfl, h1, h2, h3⟩ := h
    have same := rk_same h1 rk
    unfold lookK valV
    rw [List.find?_cons, List.find?_cons]
    cases hb : D.beq a x with
    | true =>
      rw [hb] at same
      simp only [← same, hb]
      exact h2
    | false =>
      rw [hb] at same
      simp only [← same, hb]
      exact rk_valV rk h3
theorem rk_any {io : Nat → Addr} {L : Nat} {H : Hp} {x : D} {k : Key} (rk : RK x k) : ∀ {kvs : List (D × D)} {ks : List (Key × V)}, RKs g io L H kvs ks → (kvs.any fun p => D.beq p.1 x) = ks.any fun p => decide (p.1 = k)
  | [], ks, h => by cases (show ks = [] from h); rfl
  | (a, b) :: r, ks, h => by
    obtain ⟨k', v, q, rfl, h1, h2, h3⟩ := h
    rw [List.any_cons, List.any_cons, rk_any rk h3, rk_same h1 rk]
theorem rk_map {io : Nat → Addr} {L : Nat} {H : Hp} {x d : D} {k : Key} {v : V} (rk : RK x k) (rv : RD g io L H d v) : ∀ {kvs : List (D × D)} {ks : List (Key × V)}, RKs g io L H kvs ks →
    RKs g io L H (kvs.map fun p => match D.beq p.1 x with | true => (p.1, d) | false => p) (ks.map fun kv => if kv.1 = k then (kv.1, v) else kv)
  | [], ks, h => by cases (show ks = [] from h); rfl
  | (a, b) :: r, ks, h => by
    obtain ⟨k', v', q, rfl, h1, h2, h3⟩ := h
    have same := rk_same h1 rk
    rw [List.map_cons, List.map_cons]
    by_cases e : k' = k
    · rw [decide_eq_true e] at same
      simp only [same, if_pos e]
      exact ⟨k', v, _, rfl, h1, rv, rk_map rk rv h3⟩
    · rw [decide_eq_false e] at same
      simp only [same, if_neg e]
      exact ⟨k', v', _, rfl, h1, h2, rk_map rk rv h3⟩
theorem rk_app {io : Nat → Addr} {L : Nat} {H : Hp} {x d : D} {k : Key} {v : V} (rk : RK x k) (rv : RD g io L H d v) : ∀ {kvs : List (D × D)} {ks : List (Key × V)}, RKs g io L H kvs ks → RKs g io L H (kvs ++ [(x, d)]) (ks ++ [(k, v)])
  | [], ks, h => by cases (show ks = [] from h); exact ⟨k, v, [], rfl, rk, rv, rfl⟩
  | (a, b) :: r, ks, h => by
    obtain ⟨k', v', q, rfl, h1, h2, h3⟩ := h
    exact ⟨k', v', _, rfl, h1, h2, rk_app rk rv h3⟩
theorem rk_put {io : Nat → Addr} {L : Nat} {H : Hp} {x d : D} {k : Key} {v : V} (rk : RK x k) (rv : RD g io L H d v) {kvs : List (D × D)} {ks : List (Key × V)} (h : RKs g io L H kvs ks) : RKs g io L H (putK kvs x d) (L2.putK ks k v) := by
  unfold putK L2.putK
  rw [rk_any rk h]
  cases e : ks.any fun p => decide (p.1 = k) with
  | true => rw [if_pos rfl]; exact rk_map rk rv h
  | false => rw [if_neg (by decide)]; exact rk_app rk rv h
theorem rk_of {io : Nat → Addr} {L : Nat} {H : Hp} {x : D} {vx : V} (hk : keyOk KD x = true) (r : RD g io L H x vx) : ∃ k, RK x k ∧ kV k = vx := by
  cases x with
  | int i => exact ⟨.inl i, rfl, (rd_int.mp r).symm⟩
  | str s => exact ⟨.inr (tS s), ⟨rfl, (rd_str.mp r).2⟩, (rd_str.mp r).1.symm⟩
  | tup ds => cases hk
  | non => cases hk
  | bl _ => cases hk
  | ref _ => cases hk
/-! ### comparisons -/
theorem OpR.eqN {o : CmpOp} {r : R2} {f : Value → Value → Sem Value} (h : f = compareOp o) (k : OpR X (compareOp o) r) : OpR X f r := by rw [h]; exact k
theorem op_inDict (hu : X.A.units + 1 < cLine) : OpR X (compareOp .In) (fun x y H Q => ∃ a o, y = .ref a ∧ DGet H a x o ∧ Q (.bl o.isSome) H) := by
  intro pins s σ H x y v u Q I rx ry h
  obtain ⟨a, o, rfl, dg, q⟩ := h
  obtain rfl : u = Value.ref a := ry
  exact d_in hu I dg rx fun s3 I3 => ⟨.bl o.isSome, H, I3, rfl, q⟩
theorem op_notInDict (hu : X.A.units + 1 < cLine) : OpR X (compareOp .NotIn) (fun x y H Q => ∃ a o, y = .ref a ∧ DGet H a x o ∧ Q (.bl (!o.isSome)) H) := by
  intro pins s σ H x y v u Q I rx ry h
  obtain ⟨a, o, rfl, dg, q⟩ := h
  obtain rfl : u = Value.ref a := ry
  exact d_notIn hu I dg rx fun s3 I3 => ⟨.bl (!o.isSome), H, I3, rfl, q⟩
/-- what 'in' says, by the three rules; neg: not in -/
def rInU (K : PySem.W.Frag) (neg : Bool) : R2 := fun x y H Q =>
  (∃ (c : Nat) (z : Str), x = .str ⟨#[c]⟩ ∧ y = .str z ∧ Q (.bl (if neg then !decide (c ∈ z.cps.toList) else decide (c ∈ z.cps.toList))) H) ∨
  (∃ a o, y = .ref a ∧ DGet H a x o ∧ Q (.bl (if neg then !o.isSome else o.isSome)) H) ∨
  (∃ d ds, Dp K H x d ∧ Dp K H y (.list ds) ∧ SeqAt.shaped d = true ∧ SeqAt.shaped (.list ds) = true ∧ Q (.bl (if neg then !ds.any fun z => PyData.eqv z d else ds.any fun z => PyData.eqv z d)) H) ∨
  (∃ d ds, Dp K H x d ∧ Dp K H y (.tuple ds) ∧ SeqAt.shaped d = true ∧ SeqAt.shaped (.tuple ds) = true ∧ Q (.bl (if neg then !ds.any fun z => PyData.eqv z d else ds.any fun z => PyData.eqv z d)) H)
theorem op_inU (hu : X.A.units + 65 < cLine) : OpR X (compareOp .In) (rInU X.K false) :=
  op_in_sign.or ((op_inDict (by omega)).or ((op_inD hu).or (op_inT hu)))
theorem op_notInU (hu : X.A.units + 65 < cLine) : OpR X (compareOp .NotIn) (rInU X.K true) :=
  op_notIn_sign.or ((op_notInDict (by omega)).or ((op_notInD hu).or (op_notInT hu)))
theorem okT_one {c : Nat} {t : Tx} (h : OkT t) (hc : c ∈ t) : OkT [c] := fun d hd => by
  rw [List.mem_singleton.mp hd]
  exact h c hc
theorem inE_ok {io : Nat → Addr} {hd : Hd} {H : Hp} {x y : D} {vx vy : V} {Q : VK} {E : Exn → Hd → Prop} (neg : Bool) (R : RH g io hd H) (rx : RD g io hd.length H x vx) (ry : RD g io hd.length H y vy)
    (q : PostE (bnd (inE x y) (fun b => ret (.bl (if neg then !b else b))) hd) (PQ g io hd H Q) E) : rInU g.K neg vx vy H Q := by
  have fin : ∀ b : Bool, PostE ((ret (D.bl (if neg then !b else b)) : M D) hd) (PQ g io hd H Q) E → Q (.bl (if neg then !b else b)) H := fun b q => PQ.val R q (rd_bl.mpr rfl)
  have viaData : ∀ {k : PyData → PyData → M Bool}, inE x y = bnd (dataE x) (fun p => bnd (dataE y) fun q => k p q) → PostE (bnd (inE x y) (fun b => ret (.bl (if neg then !b else b))) hd) (PQ g io hd H Q) E →
      ∃ p p', Dp g.K H vx p ∧ Dp g.K H vy p' ∧ SeqAt.shaped p = true ∧ SeqAt.shaped p' = true ∧ PostE (bnd (k p p') (fun b => ret (.bl (if neg then !b else b))) hd) (PQ g io hd H Q) E := by
    intro k e q
    rw [e] at q
    have e2 : bnd (bnd (dataE x) (fun p => bnd (dataE y) fun q => k p q)) (fun b => ret (D.bl (if neg then !b else b))) hd = bnd (dataE x) (fun p => bnd (bnd (dataE y) fun q => k p q) (fun b => ret (D.bl (if neg then !b else b)))) hd := by
      simp only [bnd_app]
      cases dataE x hd <;> rfl
    rw [e2] at q
    obtain ⟨p, h1, h2, q⟩ := data_post R rx q
    have e3 : bnd (bnd (dataE y) fun q => k p q) (fun b => ret (D.bl (if neg then !b else b))) hd = bnd (dataE y) (fun p' => bnd (k p p') (fun b => ret (D.bl (if neg then !b else b)))) hd := by
      simp only [bnd_app]
      cases dataE y hd <;> rfl
    rw [e3] at q
    obtain ⟨p', h3, h4, q⟩ := data_post R ry q
    exact ⟨p, p', h1, h3, h2, h4, q⟩
  cases y with
  | str s =>
    cases x with
    | str t =>
      match t, rx, q with
      | [], _, q => exact q.elim
      | [c], rx, q =>
        obtain ⟨e1, _⟩ := rd_str.mp rx
        obtain ⟨e2, _⟩ := rd_str.mp ry
        refine .inl ⟨c, tS s, e1, e2, ?_⟩
        have e3 : (tS s).cps.toList = s := by simp [tS]
        rw [e3]
        exact fin _ q
      | _ :: _ :: _, _, q => exact q.elim
    | _ => exact q.elim
  | tup ds =>
    obtain ⟨p, p', h1, h2, h3, h4, q⟩ := viaData (k := fun p q => match q with | .tuple ds => ret (ds.any fun z => PyData.eqv z p) | _ => stop) rfl q
    cases p' with
    | tuple es => exact .inr (.inr (.inr ⟨p, es, h1, h2, h3, h4, fin _ q⟩))
    | _ => exact q.elim
  | ref n =>
    have data : ∀ o, hd[n]? = o → (∀ kvs, o ≠ some (.dct kvs)) → rInU g.K neg vx vy H Q := fun o ho hn => by
      have q' : PostE (bnd (bnd (dataE x) (fun p => bnd (dataE (.ref n)) fun q => match q with | .list ds => ret (ds.any fun z => PyData.eqv z p) | _ => stop)) (fun b => ret (.bl (if neg then !b else b))) hd) (PQ g io hd H Q) E := by
        have e : bnd (inE x (.ref n)) (fun b => ret (D.bl (if neg then !b else b))) hd = bnd (bnd (dataE x) (fun p => bnd (dataE (.ref n)) fun q => match q with | .list ds => ret (ds.any fun z => PyData.eqv z p) | _ => stop)) (fun b => ret (.bl (if neg then !b else b))) hd := by
          show Rs.bnd (inE x (.ref n) hd) _ = Rs.bnd _ _
          congr 1
          unfold inE
          dsimp only
          rw [ho]
          cases o with
          | none => rfl
          | some ob => cases ob <;> first | rfl | exact absurd rfl (hn _)
        rw [← e]; exact q
      have e2 : bnd (bnd (dataE x) (fun p => bnd (dataE (.ref n)) fun q => match q with | .list ds => ret (ds.any fun z => PyData.eqv z p) | _ => stop)) (fun b => ret (D.bl (if neg then !b else b))) hd = bnd (dataE x) (fun p => bnd (bnd (dataE (.ref n)) fun q => match q with | .list ds => ret (ds.any fun z => PyData.eqv z p) | _ => stop) (fun b => ret (.bl (if neg then !b else b)))) hd := by
        simp only [bnd_app]
        cases dataE x hd <;> rfl
      rw [e2] at q'
      obtain ⟨p, h1, h2, q'⟩ := data_post R rx q'
      have e3 : bnd (bnd (dataE (.ref n)) fun q => match q with | .list ds => ret (ds.any fun z => PyData.eqv z p) | _ => stop) (fun b => ret (D.bl (if neg then !b else b))) hd = bnd (dataE (.ref n)) (fun p' => bnd (match p' with | .list ds => ret (ds.any fun z => PyData.eqv z p) | _ => stop) (fun b => ret (D.bl (if neg then !b else b)))) hd := by
        simp only [bnd_app]
        cases dataE (.ref n) hd <;> rfl
      rw [e3] at q'
      obtain ⟨p', h3, h4, q'⟩ := data_post R ry q'
      cases p' with
      | list es => exact .inr (.inr (.inl ⟨p, es, h1, h3, h2, h4, fin _ q'⟩))
      | _ => exact q'.elim
    cases ho : hd[n]? with
    | none => exact data _ ho fun _ z => by cases z
    | some ob =>
      cases ob with
      | dct kvs =>
        have q' : PostE (bnd (bnd (must (keyOk KD x)) fun _ => ret (lookK kvs x).isSome) (fun b => ret (D.bl (if neg then !b else b))) hd) (PQ g io hd H Q) E := by
          have e : inE x (.ref n) hd = (bnd (must (keyOk KD x)) fun _ => ret (lookK kvs x).isSome) hd := by
            unfold inE
            dsimp only
            rw [ho]
          have q : PostE (Rs.bnd (inE x (.ref n) hd) (fun b => ret (D.bl (if neg then !b else b)))) (PQ g io hd H Q) E := q
          rw [e] at q
          exact q
        have q' : PostE (bnd (must (keyOk KD x)) (fun _ => ret (D.bl (if neg then !(lookK kvs x).isSome else (lookK kvs x).isSome))) hd) (PQ g io hd H Q) E := by
          have e : bnd (bnd (must (keyOk KD x)) fun _ => ret (lookK kvs x).isSome) (fun b => ret (D.bl (if neg then !b else b))) hd = bnd (must (keyOk KD x)) (fun _ => ret (D.bl (if neg then !(lookK kvs x).isSome else (lookK kvs x).isSome))) hd := by
            simp only [bnd_app]
            cases must (keyOk KD x) hd <;> rfl
          rw [← e]; exact q'
        obtain ⟨hk, q'⟩ := must_post q'
        obtain ⟨_, rfl⟩ := rd_ref.mp ry
        obtain ⟨ks, hks, rks⟩ := R.obj n _ ho
        obtain ⟨k, rk, ek⟩ := rk_of hk rx
        have op := rk_valV rk rks
        refine .inr (.inl ⟨io n, valV ks k, rfl, by rw [← ek]; exact DGet.k hks, ?_⟩)
        have e : (valV ks k).isSome = (lookK kvs x).isSome := by
          cases h1 : lookK kvs x <;> cases h2 : valV ks k <;> rw [h1, h2] at op <;> first | rfl | exact op.elim
        rw [e]
        exact fin _ q'
      | lst _ => exact data _ ho fun _ z => by cases z
      | flst _ => exact data _ ho fun _ z => by cases z
      | ins _ _ => exact data _ ho fun _ z => by cases z
  | _ => exact q.elim
theorem cmp_ok (eK : X.K = g.K) (hu : X.A.units + 65 < cLine) (o : COp) : ∃ r, OpR X (compareOp (toCmp o)) r ∧ BV2 g (cmpE o) r := by
  cases o with
  | eq =>
    refine ⟨_, op_eqD (by omega), fun io hd H x y vx vy Q E R rx ry q => ?_⟩
    obtain ⟨p, p', h1, h2, h3, h4, q⟩ := eq_post R rx ry q
    exact ⟨p, p', by rw [eK]; exact h1, by rw [eK]; exact h2, h3, h4, PQ.val R q (rd_bl.mpr rfl)⟩
  | ne =>
    refine ⟨_, op_neD (by omega), fun io hd H x y vx vy Q E R rx ry q => ?_⟩
    obtain ⟨p, p', h1, h2, h3, h4, q⟩ := eq_post R rx ry q
    exact ⟨p, p', by rw [eK]; exact h1, by rw [eK]; exact h2, h3, h4, PQ.val R q (rd_bl.mpr rfl)⟩
  | lt =>
    refine ⟨_, op_lt.or op_lt_str, fun io hd H x y vx vy Q E R rx ry q => ?_⟩
    cases x <;> cases y <;> try exact q.elim
    · rw [rd_int.mp rx, rd_int.mp ry]
      exact .inl ⟨_, _, rfl, rfl, PQ.val R q (rd_bl.mpr rfl)⟩
    · rw [(rd_str.mp rx).1, (rd_str.mp ry).1]
      exact .inr ⟨_, _, rfl, rfl, PQ.val R q (rd_bl.mpr (by simp [tS]))⟩
  | le =>
    refine ⟨_, op_le, fun io hd H x y vx vy Q E R rx ry q => ?_⟩
    cases x <;> cases y <;> try exact q.elim
    rw [rd_int.mp rx, rd_int.mp ry]
    exact ⟨_, _, rfl, rfl, PQ.val R q (rd_bl.mpr rfl)⟩
  | gt =>
    refine ⟨_, op_gt.or op_gt_str, fun io hd H x y vx vy Q E R rx ry q => ?_⟩
    cases x <;> cases y <;> try exact q.elim
    · rw [rd_int.mp rx, rd_int.mp ry]
      exact .inl ⟨_, _, rfl, rfl, PQ.val R q (rd_bl.mpr rfl)⟩
    · rw [(rd_str.mp rx).1, (rd_str.mp ry).1]
      exact .inr ⟨_, _, rfl, rfl, PQ.val R q (rd_bl.mpr (by simp [tS]))⟩
  | ge =>
    refine ⟨_, op_ge, fun io hd H x y vx vy Q E R rx ry q => ?_⟩
    cases x <;> cases y <;> try exact q.elim
    rw [rd_int.mp rx, rd_int.mp ry]
    exact ⟨_, _, rfl, rfl, PQ.val R q (rd_bl.mpr rfl)⟩
  | is_ =>
    refine ⟨_, op_isN.or op_isBl, fun io hd H x y vx vy Q E R rx ry q => ?_⟩
    cases y with
    | non =>
      refine .inl ⟨rd_non.mp ry, ?_⟩
      cases x with
      | non => rw [rd_non.mp rx]; exact PQ.val R q (rd_bl.mpr (by simp))
      | bl b => rw [rd_bl.mp rx]; exact PQ.val R q (rd_bl.mpr (by simp))
      | int b => rw [rd_int.mp rx]; exact PQ.val R q (rd_bl.mpr (by simp))
      | str b => rw [(rd_str.mp rx).1]; exact PQ.val R q (rd_bl.mpr (by simp))
      | tup ds => obtain ⟨a, vs, e, _⟩ := rd_tup.mp rx; rw [e]; exact PQ.val R q (rd_bl.mpr (by simp))
      | ref n => rw [(rd_ref.mp rx).2]; exact PQ.val R q (rd_bl.mpr (by simp))
    | bl b =>
      cases x with
      | bl a => rw [rd_bl.mp rx, rd_bl.mp ry]; exact .inr ⟨a, b, rfl, rfl, PQ.val R q (rd_bl.mpr rfl)⟩
      | _ => exact q.elim
    | _ => exact q.elim
  | isnot =>
    refine ⟨_, op_notN.or op_notBl, fun io hd H x y vx vy Q E R rx ry q => ?_⟩
    cases y with
    | non =>
      refine .inl ⟨rd_non.mp ry, ?_⟩
      cases x with
      | non => rw [rd_non.mp rx]; exact PQ.val R q (rd_bl.mpr (by simp))
      | bl b => rw [rd_bl.mp rx]; exact PQ.val R q (rd_bl.mpr (by simp))
      | int b => rw [rd_int.mp rx]; exact PQ.val R q (rd_bl.mpr (by simp))
      | str b => rw [(rd_str.mp rx).1]; exact PQ.val R q (rd_bl.mpr (by simp))
      | tup ds => obtain ⟨a, vs, e, _⟩ := rd_tup.mp rx; rw [e]; exact PQ.val R q (rd_bl.mpr (by simp))
      | ref n => rw [(rd_ref.mp rx).2]; exact PQ.val R q (rd_bl.mpr (by simp))
    | bl b =>
      cases x with
      | bl a => rw [rd_bl.mp rx, rd_bl.mp ry]; exact .inr ⟨a, b, rfl, rfl, PQ.val R q (rd_bl.mpr rfl)⟩
      | _ => exact q.elim
    | _ => exact q.elim
  | in_ =>
    refine ⟨_, op_inU hu, fun io hd H x y vx vy Q E R rx ry q => ?_⟩
    rw [eK]
    exact inE_ok false R rx ry q
  | nin =>
    refine ⟨_, op_notInU hu, fun io hd H x y vx vy Q E R rx ry q => ?_⟩
    rw [eK]
    exact inE_ok true R rx ry q
end
end U
end

section
set_option maxRecDepth 100000
set_option maxHeartbeats 1000000
/-! Truth, subscripts, built-in functions and methods by values. -/
namespace U
open PySem L2

section
variable {g : Wd} {X : Cx} {io : Nat → Addr} {hd : Hd} {H : Hp}
theorem isEmpty_len {α β : Type} {a : List α} {b : List β} (h : a.length = b.length) : a.isEmpty = b.isEmpty := by
  cases a <;> cases b <;> simp at h <;> rfl
theorem rks_len {io : Nat → Addr} {L : Nat} : ∀ {kvs : List (D × D)} {ks : List (Key × V)}, RKs g io L H kvs ks → kvs.length = ks.length
  | [], ks, h => by cases (show ks = [] from h); rfl
  | _ :: r, ks, h => by
    obtain ⟨k, v, q, rfl, _, _, h3⟩ := h
    simp [rks_len h3]
/-- what is wanted of a truth behind -/
abbrev PB (g : Wd) (io : Nat → Addr) (hd : Hd) (H : Hp) (Q : Bool → Hp → Prop) : Bool → Hd → Prop := fun b h' => ∀ io' H', Nxt g io hd H io' h' H' → RH g io' h' H' → Q b H'
theorem tru_post {x : D} {vx : V} {Q : Bool → Hp → Prop} {E : Exn → Hd → Prop} (R : RH g io hd H) (rx : RD g io hd.length H x vx) (q : PostE (truE x hd) (PB g io hd H Q) E) : ∃ k, TruV g.K vx H k ∧ Q k H := by
  have fin : ∀ {b : Bool}, PB g io hd H Q b hd → Q b H := fun q => q io H .refl R
  cases x with
  | non => rw [rd_non.mp rx]; exact ⟨_, rfl, fin q⟩
  | bl b => rw [rd_bl.mp rx]; exact ⟨_, rfl, fin q⟩
  | int i => rw [rd_int.mp rx]; exact ⟨_, rfl, fin q⟩
  | str s =>
    obtain ⟨h1, q⟩ := must_post q
    rw [(rd_str.mp rx).1]
    have hl := of_decide_eq_true h1
    refine ⟨_, ⟨by rw [tS_len, line_eq]; exact hl, rfl⟩, ?_⟩
    rw [tS_len]
    have q := fin q
    have e : ((s.length : Int) != 0) = (s.length != 0) := by
      cases s <;> simp
      omega
    rw [e]; exact q
  | tup ds =>
    obtain ⟨a, vs, e, hs, r⟩ := rd_tup.mp rx
    rw [e]
    refine ⟨_, .inr (.inl ⟨vs, hs, rfl⟩), ?_⟩
    rw [← isEmpty_len r.len]
    exact fin q
  | ref n =>
    obtain ⟨_, rfl⟩ := rd_ref.mp rx
    have q : PostE (match hd[n]? with
      | some (.lst ds) => .ok (!ds.isEmpty) hd
      | some (.flst ds) => .ok (!ds.isEmpty) hd
      | _ => .no) (PB g io hd H Q) E := q
    split at q
    · rename_i ds e
      obtain ⟨vs, h1, r⟩ := R.lst e
      refine ⟨_, .inl ⟨vs, SqL.of h1, rfl⟩, ?_⟩
      rw [← isEmpty_len r.len]
      exact fin q
    · rename_i ds e
      obtain ⟨vs, h1, r⟩ := (R.obj n _ e).flst_sq
      refine ⟨_, .inl ⟨vs, h1, rfl⟩, ?_⟩
      rw [← isEmpty_len r.len]
      exact fin q
    · exact q.elim

/-! ### subscripts -/
theorem ix_dict (hu : X.A.units + 1 < cLine) : IxR X (fun x y H Q => ∃ a v, x = .ref a ∧ DGet H a y (some v) ∧ Q v H) := by
  intro value slice pins s σ H x y v u Q I rx ry h hs
  obtain ⟨a, w, rfl, dg, q⟩ := h
  obtain rfl : v = Value.ref a := rx
  exact PyProof.Rows.tail_any (dict_typeIs I dg) PySem.F.slot_dict_getitem.lookup (d_getItem hu I dg ry fun w' s3 I3 rw' => ⟨w, H, I3, rw', q⟩) hs
theorem ixD_eq : ixD = ixN := rfl
theorem atI_of {ds : List D} {vs : List V} {k : Int} {d : D} {L : Nat} (h : ((ixD ds.length k).bind fun j => ds[j]?) = some d) (r : RDs g io L H ds vs) : ∃ v, atI vs k = some v ∧ RD g io L H d v := by
  obtain ⟨j, h1, h2⟩ := Option.bind_eq_some_iff.mp h
  obtain ⟨v, h3, h4⟩ := r.get h2
  refine ⟨v, ?_, h4⟩
  unfold atI
  rw [← r.len, ← ixD_eq, h1]
  exact h3
theorem idx_ok (eK : X.K = g.K) (hu : X.A.units + 1 < cLine) : ∃ r, IxR X r ∧ BV2 g idxE r := by
  refine ⟨_, ix_seq.or (ix_dict hu), fun io hd H x y vx vy Q E R rx ry q => ?_⟩
  unfold rIx rIxL rIxT
  rw [eK]
  cases x with
  | ref n =>
    obtain ⟨_, rfl⟩ := rd_ref.mp rx
    unfold idxE at q
    dsimp only at q
    split at q
    · rename_i ds e
      cases y with
      | int k =>
        obtain ⟨vs, h1, r⟩ := R.lst e
        dsimp only at q
        cases hq : (ixD ds.length k).bind fun j => ds[j]? with
        | none => rw [hq] at q; exact q.elim
        | some d =>
          rw [hq] at q
          obtain ⟨v, h2, h3⟩ := atI_of hq r
          exact .inl (.inl ⟨_, vs, k, v, rfl, rd_int.mp ry, SqL.of h1, h2, PQ.val R q h3⟩)
      | _ => exact q.elim
    · rename_i ds e
      cases y with
      | int k =>
        obtain ⟨vs, h1, r⟩ := (R.obj n _ e).flst_sq
        dsimp only at q
        cases hq : (ixD ds.length k).bind fun j => ds[j]? with
        | none => rw [hq] at q; exact q.elim
        | some d =>
          rw [hq] at q
          obtain ⟨v, h2, h3⟩ := atI_of hq r
          exact .inl (.inl ⟨_, vs, k, v, rfl, rd_int.mp ry, h1, h2, PQ.val R q h3⟩)
      | _ => exact q.elim
    · rename_i kvs e
      obtain ⟨hk, q⟩ := must_post q
      obtain ⟨ks, hks, rks⟩ := R.obj n _ e
      obtain ⟨k, rk, ek⟩ := rk_of hk ry
      have op := rk_valV rk rks
      cases hl : lookK kvs y with
      | none => rw [hl] at q; exact q.elim
      | some d =>
        rw [hl] at q op
        cases h2 : valV ks k with
        | none => rw [h2] at op; exact op.elim
        | some v =>
          rw [h2] at op
          refine .inr ⟨_, v, rfl, ?_, PQ.val R q op⟩
          rw [← ek, ← h2]
          exact DGet.k hks
    · exact q.elim
  | tup ds =>
    obtain ⟨a, vs, e, hs, r⟩ := rd_tup.mp rx
    cases y with
    | int k =>
      have q : PostE (lft ((ixD ds.length k).bind fun j => ds[j]?) hd) (PQ g io hd H Q) E := q
      cases hq : (ixD ds.length k).bind fun j => ds[j]? with
      | none => rw [hq] at q; exact q.elim
      | some d =>
        rw [hq] at q
        obtain ⟨v, h2, h3⟩ := atI_of hq r
        exact .inl (.inr (.inl ⟨_, vs, k, v, e, rd_int.mp ry, hs, h2, PQ.val R q h3⟩))
    | _ => exact q.elim
  | str s =>
    cases y with
    | int k =>
      obtain ⟨h1, q⟩ := must_post q
      obtain ⟨c, h2, q⟩ := lft_post q
      obtain ⟨e1, ok⟩ := rd_str.mp rx
      refine .inl (.inr (.inr ⟨tS s, k, c, e1, rd_int.mp ry, by rw [tS_len, line_eq]; exact of_decide_eq_true h1, ?_, ?_⟩))
      · have e3 : (tS s).cps.toList = s := by simp [tS]
        rw [e3]
        unfold atI
        rw [← ixD_eq]
        exact h2
      · obtain ⟨j, _, hj⟩ := Option.bind_eq_some_iff.mp h2
        exact PQ.val R q (rd_str.mpr ⟨rfl, okT_one ok (List.mem_of_getElem? hj)⟩)
    | _ => exact q.elim
  | _ => exact q.elim
/-- slices -/
theorem sIx_eq (n d : Nat) : ∀ o, sIx n d o = HT.sIx n d o := fun o => by
  cases o with
  | none => rfl
  | some i =>
    show (if 0 ≤ i then min i.toNat n else (i + n).toNat) = (if i < 0 then (i + (n : Int)).toNat else min i.toNat n)
    by_cases h : 0 ≤ i
    · rw [if_pos h, if_neg (by omega)]
    · rw [if_neg h, if_pos (by omega)]
theorem cut_eqV (vs : List V) (lo hi : Option Int) : cut vs lo hi = cutV vs lo hi := by
  unfold cut cutV
  rw [sIx_eq, sIx_eq]
theorem cut_eqS (s : Tx) (lo hi : Option Int) : tS (cut s lo hi) = cutS (tS s) lo hi := by
  unfold cut cutS
  rw [sIx_eq, sIx_eq, tS_len]
theorem rds_cut {ds : List D} {vs : List V} {L : Nat} (r : RDs g io L H ds vs) (lo hi : Option Int) : RDs g io L H (cut ds lo hi) (cutV vs lo hi) := by
  rw [← cut_eqV]
  unfold cut
  rw [← r.len]
  exact (r.drop _).take _
theorem okT_cut {s : Tx} (ok : OkT s) (lo hi : Option Int) : OkT (cut s lo hi) := fun c hc => ok c (List.mem_of_mem_drop (List.mem_of_mem_take hc))
theorem cut_all {α : Type} {xs : List α} {lo hi : Option Int} (h : HT.sIx xs.length 0 lo = 0 ∧ HT.sIx xs.length xs.length hi = xs.length) : cut xs lo hi = xs := by
  unfold cut
  rw [sIx_eq, sIx_eq, h.1, h.2]
  simp
theorem slc_ok (eK : X.K = g.K) : ∃ r, SlR X r ∧ ∀ (io : Nat → Addr) (hd : Hd) (H : Hp) (x : D) (vx : V) (lo hi : Option Int) (Q : VK) (E : Exn → Hd → Prop), RH g io hd H → RD g io hd.length H x vx →
    PostE (slcD x lo hi hd) (PQ g io hd H Q) E → r vx lo hi H Q := by
  refine ⟨_, sl_list.or (sl_tupA.or sl_str), fun io hd H x vx lo hi Q E R rx q => ?_⟩
  unfold rSlL rSlA
  rw [eK]
  cases x with
  | str s =>
    obtain ⟨h1, q⟩ := must_post q
    obtain ⟨e1, ok⟩ := rd_str.mp rx
    refine .inr (.inr ⟨tS s, e1, by rw [tS_len, line_eq]; exact of_decide_eq_true h1, ?_⟩)
    rw [← cut_eqS]
    exact PQ.val R q (rd_str.mpr ⟨rfl, okT_cut ok _ _⟩)
  | tup ds =>
    obtain ⟨a, vs, e, hs, r⟩ := rd_tup.mp rx
    refine .inr (.inl ⟨a, vs, e, hs, fun h => ?_, fun _ p hp => PQ.tup R q (rds_cut r lo hi) hp⟩)
    have q : PQ g io hd H Q (.tup (cut ds lo hi)) hd := q
    rw [← r.len] at h
    rw [cut_all h] at q
    rw [← e]
    exact PQ.val R q rx
  | ref n =>
    obtain ⟨ds, h1, q⟩ := lft_post q
    obtain ⟨a, vs, e, hs, r⟩ := R.list? h1 rx
    exact .inl ⟨a, vs, e, hs, fun p hp => PQ.newL R q (rds_cut r lo hi) hp⟩
  | _ => exact q.elim
end
end U
end

section
set_option maxRecDepth 100000
set_option maxHeartbeats 1000000
/-! Built-in functions and methods by values. -/
namespace U
open PySem L2

section
variable {g : Wd} {X : Cx} {io : Nat → Addr} {hd : Hd} {H : Hp}
/-- a function of values keeps to a rule -/
def BVL (g : Wd) (f : List D → M D) (r : List V → Hp → VK → Prop) : Prop := ∀ (io : Nat → Addr) (hd : Hd) (H : Hp) (xs : List D) (vs : List V) (Q : VK) (E : Exn → Hd → Prop), RH g io hd H → RDs g io hd.length H xs vs → PostE (f xs hd) (PQ g io hd H Q) E → r vs H Q
theorem lists_post {α : Type} {x : D} {f : List D → M α} {P : α → Hd → Prop} {E : Exn → Hd → Prop} (q : PostE (bnd (lft (list? hd x)) f hd) P E) : ∃ ds, list? hd x = some ds ∧ PostE (f ds hd) P E := lft_post q
theorem one_inv {d : D} {L : Nat} {vs : List V} (h : RDs g io L H [d] vs) : ∃ v, vs = [v] ∧ RD g io L H d v := by
  obtain ⟨v, us, rfl, r, q⟩ := h.cons_inv
  exact ⟨v, by rw [q.nil_inv], r⟩
theorem two_inv {d e : D} {L : Nat} {vs : List V} (h : RDs g io L H [d, e] vs) : ∃ v w, vs = [v, w] ∧ RD g io L H d v ∧ RD g io L H e w := by
  obtain ⟨v, us, rfl, r, q⟩ := h.cons_inv
  obtain ⟨w, rfl, r2⟩ := one_inv q
  exact ⟨v, w, rfl, r, r2⟩
theorem ints_rds {L : Nat} : ∀ {ds : List D} {is : List Int} {vs : List V}, ints? ds = some is → RDs g io L H ds vs → vs = is.map V.int
  | [], is, vs, h, r => by simp [ints?] at h; subst h; rw [r.nil_inv]; rfl
  | d :: ds, is, vs, h, r => by
    cases d with
    | int i =>
      unfold ints? at h
      obtain ⟨js, h1, rfl⟩ := Option.map_eq_some_iff.mp h
      obtain ⟨v, us, rfl, r1, r2⟩ := r.cons_inv
      rw [rd_int.mp r1, ints_rds h1 r2]
      rfl
    | _ => cases h
theorem bools_rds {L : Nat} : ∀ {ds : List D} {is : List Bool} {vs : List V}, bools? ds = some is → RDs g io L H ds vs → vs = is.map V.bl
  | [], is, vs, h, r => by simp [bools?] at h; subst h; rw [r.nil_inv]; rfl
  | d :: ds, is, vs, h, r => by
    cases d with
    | bl i =>
      unfold bools? at h
      obtain ⟨js, h1, rfl⟩ := Option.map_eq_some_iff.mp h
      obtain ⟨v, us, rfl, r1, r2⟩ := r.cons_inv
      rw [rd_bl.mp r1, bools_rds h1 r2]
      rfl
    | _ => cases h
theorem texts_rds {L : Nat} : ∀ {ds : List D} {is : List Tx} {vs : List V}, texts? ds = some is → RDs g io L H ds vs → vs = (is.map tS).map V.str ∧ ∀ t ∈ is, OkT t
  | [], is, vs, h, r => by simp [texts?] at h; subst h; rw [r.nil_inv]; exact ⟨rfl, by simp⟩
  | d :: ds, is, vs, h, r => by
    cases d with
    | str i =>
      unfold texts? at h
      obtain ⟨js, h1, rfl⟩ := Option.map_eq_some_iff.mp h
      obtain ⟨v, us, rfl, r1, r2⟩ := r.cons_inv
      obtain ⟨e, ok⟩ := texts_rds h1 r2
      rw [(rd_str.mp r1).1, e]
      exact ⟨rfl, fun t ht => (List.mem_cons.mp ht).elim (fun z => by rw [z]; exact (rd_str.mp r1).2) (ok t)⟩
    | _ => cases h
theorem rds_ints {L : Nat} : ∀ (is : List Int), RDs g io L H (is.map D.int) (is.map V.int)
  | [] => .nil
  | i :: is => .cons (rd_int.mpr rfl) (rds_ints is)
theorem rds_texts {L : Nat} : ∀ {ts : List Tx}, (∀ t ∈ ts, OkT t) → RDs g io L H (ts.map D.str) ((ts.map tS).map V.str)
  | [], _ => .nil
  | t :: ts, h => .cons (rd_str.mpr ⟨rfl, h t List.mem_cons_self⟩) (rds_texts fun u hu => h u (List.mem_cons_of_mem _ hu))
/-! ### sorted -/
theorem insT_perm (a : Tx) : ∀ l, (insT a l).Perm (a :: l)
  | [] => .refl _
  | b :: r => by
    unfold insT
    split
    · exact ((insT_perm a r).cons b).trans (.swap a b r)
    · exact .refl _
theorem sortT_perm : ∀ l, (sortT l).Perm l
  | [] => .refl _
  | a :: r => (insT_perm a (sortT r)).trans ((sortT_perm r).cons a)
theorem insT_sorted (a : Tx) : ∀ {l : List Tx}, l.Pairwise (fun x y => ¬ y < x) → (insT a l).Pairwise (fun x y => ¬ y < x)
  | [], _ => by simp [insT]
  | b :: r, h => by
    unfold insT
    have hb := (List.pairwise_cons.mp h).1
    split
    · rename_i hlt
      refine List.pairwise_cons.mpr ⟨fun c hc => ?_, insT_sorted a (List.Pairwise.of_cons h)⟩
      rcases List.mem_cons.mp ((insT_perm a r).mem_iff.mp hc) with rfl | hc
      · exact fun z => List.lt_irrefl _ (List.lt_trans z hlt)
      · exact hb c hc
    · rename_i hnl
      refine List.pairwise_cons.mpr ⟨fun c hc => ?_, h⟩
      rcases List.mem_cons.mp hc with rfl | hc
      · exact hnl
      · intro z
        have h1 : a ≤ b := List.not_lt.mp hnl
        have h2 : b ≤ c := List.not_lt.mp (hb c hc)
        exact List.not_lt.mpr (List.le_trans h1 h2) z
theorem sortT_sorted : ∀ l, (sortT l).Pairwise (fun x y => ¬ y < x)
  | [] => .nil
  | a :: r => insT_sorted a (sortT_sorted r)
theorem insI_perm (a : Int) : ∀ l, (insI a l).Perm (a :: l)
  | [] => .refl _
  | b :: r => by
    unfold insI
    split
    · exact ((insI_perm a r).cons b).trans (.swap a b r)
    · exact .refl _
theorem sortI_perm : ∀ l, (sortI l).Perm l
  | [] => .refl _
  | a :: r => (insI_perm a (sortI r)).trans ((sortI_perm r).cons a)
theorem insI_sorted (a : Int) : ∀ {l : List Int}, l.Pairwise (· ≤ ·) → (insI a l).Pairwise (· ≤ ·)
  | [], _ => by simp [insI]
  | b :: r, h => by
    unfold insI
    have hb := (List.pairwise_cons.mp h).1
    split
    · rename_i hlt
      refine List.pairwise_cons.mpr ⟨fun c hc => ?_, insI_sorted a (List.Pairwise.of_cons h)⟩
      rcases List.mem_cons.mp ((insI_perm a r).mem_iff.mp hc) with rfl | hc
      · omega
      · exact hb c hc
    · rename_i hnl
      refine List.pairwise_cons.mpr ⟨fun c hc => ?_, h⟩
      rcases List.mem_cons.mp hc with rfl | hc
      · omega
      · have := hb c hc
        omega
theorem sortI_sorted : ∀ l, (sortI l).Pairwise (· ≤ ·)
  | [] => .nil
  | a :: r => insI_sorted a (sortI_sorted r)
theorem sortI_unique {ns ns' : List Int} (h : ns'.Perm ns) (s : ns'.Pairwise (· ≤ ·)) : ns' = sortI ns :=
  List.Perm.eq_of_pairwise (fun a b _ _ h1 h2 => by omega) s (sortI_sorted ns) (h.trans (sortI_perm ns).symm)
theorem risingS_pw : ∀ {p : Str} {l : List Str}, PyProof.Rows.risingS p l = true → (p :: l).Pairwise (fun a b => ¬ b.cps.toList < a.cps.toList)
  | p, [], _ => by simp
  | p, x :: r, h => by
    unfold PyProof.Rows.risingS at h
    rw [Bool.and_eq_true, PyProof.Rows.ltCps_eq] at h
    have h1 : ¬ x.cps.toList < p.cps.toList := by simpa using h.1
    have ih := risingS_pw h.2
    refine List.pairwise_cons.mpr ⟨fun c hc => ?_, ih⟩
    rcases List.mem_cons.mp hc with rfl | hc
    · exact h1
    · intro z
      have h2 : p.cps.toList ≤ x.cps.toList := List.not_lt.mp h1
      have h3 : x.cps.toList ≤ c.cps.toList := List.not_lt.mp (List.rel_of_pairwise_cons ih hc)
      exact List.not_lt.mpr (List.le_trans h2 h3) z
theorem sortT_unique {ts : List Tx} {ys : List Str} (h : ys.Perm (ts.map tS)) (s : PyProof.Rows.sortedS ys = true) : ys = (sortT ts).map tS := by
  have s' : ys.Pairwise (fun a b => ¬ b.cps.toList < a.cps.toList) := by
    cases ys with
    | nil => exact .nil
    | cons p l => exact risingS_pw s
  refine List.Perm.eq_of_pairwise (le := fun a b => ¬ b.cps.toList < a.cps.toList) (fun a b _ _ h1 h2 => ?_) s' ?_ (h.trans ((sortT_perm ts).map tS).symm)
  · have e : a.cps.toList = b.cps.toList := List.le_antisymm (List.not_lt.mp h1) (List.not_lt.mp h2)
    cases a; cases b
    simp at e
    rw [e]
  · rw [List.pairwise_map]
    refine (sortT_sorted ts).imp fun {a b} hh => ?_
    simpa [tS] using hh
/-! ### join -/
theorem join_eq (s : Tx) : ∀ ts : List Tx, Str.join (tS s) (ts.map tS) = tS (joinT s ts)
  | [] => rfl
  | [a] => rfl
  | a :: b :: r => by
    have ih := join_eq s (b :: r)
    show tS a ++ tS s ++ Str.join (tS s) ((b :: r).map tS) = tS (a ++ s ++ joinT s (b :: r))
    rw [ih, tS_append, tS_append]
theorem okT_join {s : Tx} (hs : OkT s) : ∀ {ts : List Tx}, (∀ t ∈ ts, OkT t) → OkT (joinT s ts)
  | [], _ => fun _ h => by cases h
  | [a], h => h a (by simp)
  | a :: b :: r, h => okT_append (okT_append (h a (by simp)) hs) (okT_join hs fun t ht => h t (List.mem_cons_of_mem _ ht))
theorem sum_lens : ∀ ts : List Tx, ((ts.map tS).map (·.length)).sum = sumLen ts
  | [] => rfl
  | t :: ts => by
    rw [List.map_cons, List.map_cons, List.sum_cons, sum_lens ts, tS_len]
    rfl
/-! ### numbers as texts -/
theorem okT_show (i : Int) : OkT (showI i) := fun c hc => by
  unfold showI at hc
  obtain ⟨ch, _, rfl⟩ := List.mem_map.mp hc
  have h := ch.valid
  have h2 : ch.toNat < 0x110000 := by
    rcases h with h | h
    · have : ch.toNat < 0xd800 := h
      omega
    · exact h.2
  exact h2
theorem show_eq (i : Int) : (((toString i : String)) : Str) = tS (showI i) := Str.ofString_eq_toList _

/-! ### isinstance -/
def tyN : Ty → Option String
  | .int => some "int" | .str => some "str" | .bool => some "bool" | .list => some "list" | .tuple => some "tuple" | .dict => some "dict"
  | _ => none
theorem tyX_sq {a : Addr} {vs : List V} (h : SqL g.K H a vs) : TyX g.K H (.ref a) (.type "list") := by
  rcases h with (h | ⟨o, h⟩) | ⟨o, its, n, hk, hc, _⟩
  · exact .base (.lst h)
  · exact .base (.frz h)
  · exact .kList hk hc
theorem tyX_sqT {a : Addr} {vs : List V} (h : SqT g.K H a vs) : TyX g.K H (.ref a) (.type "tuple") := by
  rcases h with (h | ⟨o, h⟩) | ⟨o, its, n, hk, hc, _⟩
  · exact .base (.tup h)
  · exact .fTuple h
  · exact .kTuple hk hc
theorem isi_ok {T : Tab} (t : Ty) (n : String) (hn : tyN t = some n) {x : D} {vx : V} {Q : VK} {E : Exn → Hd → Prop} (R : RH g io hd H) (rx : RD g io hd.length H x vx) (q : PostE (bnd (isiE T x t) (fun b => ret (.bl b)) hd) (PQ g io hd H Q) E) :
    rIsi g.K [vx, .ty n] H Q := by
  have fin : ∀ (ty : String) (b : Bool), TyX g.K H vx (.type ty) → kitB ty n = some b → PostE ((ret (.bl b) : M D) hd) (PQ g io hd H Q) E → rIsi g.K [vx, .ty n] H Q := fun ty b h1 h2 q =>
    ⟨vx, .ty n, .type ty, .type n, b, rfl, .ty n, h1, kit_ty h2, PQ.val R q (rd_bl.mpr rfl)⟩
  cases x with
  | non => rw [rd_non.mp rx] at fin ⊢; cases t <;> cases hn <;> exact fin "NoneType" _ (.base .non) (by decide +kernel) q
  | bl b => rw [rd_bl.mp rx] at fin ⊢; cases t <;> cases hn <;> exact fin "bool" _ (.base (.bl b)) (by decide +kernel) q
  | int i => rw [rd_int.mp rx] at fin ⊢; cases t <;> cases hn <;> exact fin "int" _ (.base (.int i)) (by decide +kernel) q
  | str s => rw [(rd_str.mp rx).1] at fin ⊢; cases t <;> cases hn <;> exact fin "str" _ (.base (.str _)) (by decide +kernel) q
  | tup ds =>
    obtain ⟨a, vs, rfl, hs, _⟩ := rd_tup.mp rx
    cases t <;> cases hn <;> exact fin "tuple" _ (tyX_sqT hs) (by decide +kernel) q
  | ref m =>
    obtain ⟨_, rfl⟩ := rd_ref.mp rx
    cases ho : hd[m]? with
    | none =>
      have q : PostE (Rs.bnd (isiE T (.ref m) t hd) (fun b => ret (D.bl b))) (PQ g io hd H Q) E := q
      unfold isiE at q; dsimp only at q; rw [ho] at q; exact q.elim
    | some o =>
      have q : PostE (Rs.bnd (isiE T (.ref m) t hd) (fun b => ret (D.bl b))) (PQ g io hd H Q) E := q
      unfold isiE at q; dsimp only at q; rw [ho] at q
      cases o with
      | lst ds =>
        obtain ⟨vs, h1, _⟩ := R.lst ho
        cases t <;> cases hn <;> exact fin "list" _ (.base (.lst h1)) (by decide +kernel) q
      | flst ds =>
        obtain ⟨vs, h1, _⟩ := (R.obj m _ ho).flst_sq
        cases t <;> cases hn <;> exact fin "list" _ (tyX_sq h1) (by decide +kernel) q
      | dct kvs =>
        obtain ⟨ks, h1, _⟩ := R.obj m _ ho
        cases t <;> cases hn <;> exact fin "dict" _ (.base (.dK h1)) (by decide +kernel) q
      | ins _ _ => exact q.elim
end
end U
end

section
set_option maxRecDepth 100000
set_option maxHeartbeats 1000000
/-! Built-in functions and methods by values: the rules. -/
namespace U
open PySem L2

section
variable {g : Wd} {X : Cx}
/-- which value a built-in's name is -/
def biV : Bi → Option Value
  | .len => some (.builtin "len") | .int => some (.type "int") | .str => some (.type "str") | .list => some (.type "list") | .tuple => some (.type "tuple") | .sorted => some (.builtin "sorted")
  | .min => some (.builtin "min") | .max => some (.builtin "max") | .any => some (.builtin "any") | .sum => some (.builtin "sum") | .abs => some (.builtin "abs")
  | _ => none
theorem maxL_mem : ∀ {is : List Int} {m : Int}, maxL is = some m → m ∈ is ∧ ∀ y ∈ is, y ≤ m
  | [], m, h => by cases h
  | [a], m, h => by cases h; simp
  | a :: b :: r, m, h => by
    have h : (maxL (b :: r)).map (fun c => if a < c then c else a) = some m := h
    obtain ⟨c, h1, h2⟩ := Option.map_eq_some_iff.mp h
    obtain ⟨h3, h4⟩ := maxL_mem h1
    by_cases hc : a < c
    · rw [if_pos hc] at h2
      subst h2
      refine ⟨List.mem_cons_of_mem _ h3, fun y hy => ?_⟩
      rcases List.mem_cons.mp hy with rfl | hy
      · omega
      · exact h4 y hy
    · rw [if_neg hc] at h2
      subst h2
      refine ⟨List.mem_cons_self, fun y hy => ?_⟩
      rcases List.mem_cons.mp hy with rfl | hy
      · omega
      · have := h4 y hy
        omega
theorem minL_mem : ∀ {is : List Int} {m : Int}, minL is = some m → m ∈ is ∧ ∀ y ∈ is, m ≤ y
  | [], m, h => by cases h
  | [a], m, h => by cases h; simp
  | a :: b :: r, m, h => by
    have h : (minL (b :: r)).map (fun c => if c < a then c else a) = some m := h
    obtain ⟨c, h1, h2⟩ := Option.map_eq_some_iff.mp h
    obtain ⟨h3, h4⟩ := minL_mem h1
    by_cases hc : c < a
    · rw [if_pos hc] at h2
      subst h2
      refine ⟨List.mem_cons_of_mem _ h3, fun y hy => ?_⟩
      rcases List.mem_cons.mp hy with rfl | hy
      · omega
      · exact h4 y hy
    · rw [if_neg hc] at h2
      subst h2
      refine ⟨List.mem_cons_self, fun y hy => ?_⟩
      rcases List.mem_cons.mp hy with rfl | hy
      · omega
      · have := h4 y hy
        omega
theorem ints_post {α : Type} {hd : Hd} {x : D} {f : List Int → M α} {P : α → Hd → Prop} {E : Exn → Hd → Prop} (q : PostE (bnd (lft ((list? hd x).bind ints?)) f hd) P E) : ∃ ds is, list? hd x = some ds ∧ ints? ds = some is ∧ PostE (f is hd) P E := by
  obtain ⟨is, h, q⟩ := lft_post q
  obtain ⟨ds, h1, h2⟩ := Option.bind_eq_some_iff.mp h
  exact ⟨ds, is, h1, h2, q⟩
theorem rks_keys {io : Nat → Addr} {L : Nat} {H : Hp} : ∀ {kvs : List (D × D)} {ks : List (Key × V)}, RKs g io L H kvs ks → RDs g io L H (kvs.map (·.1)) (ks.map fun kv => kV kv.1)
  | [], ks, r => by
    have r : ks = [] := r
    subst r
    exact .nil
  | p :: kvs, ks, r => by
    obtain ⟨k, v, q, rfl, h1, _, r⟩ := r
    refine .cons ?_ (rks_keys r)
    obtain ⟨d, dv⟩ := p
    cases d with
    | int i => have h1 : k = .inl i := h1; subst h1; exact rd_int.mpr rfl
    | str s => obtain ⟨h1, h2⟩ := (show k = .inr (tS s) ∧ OkT s from h1); subst h1; exact rd_str.mpr ⟨rfl, h2⟩
    | _ => exact (show False from h1).elim
theorem blt_ok {T : Tab} (eK : X.K = g.K) (hc : X.calm = true) (b : Bi) (v : Value) (hv : biV b = some v) : ∃ r, CallR X v r ∧ BVL g (bltE T b) r := by
  cases b with
  | len =>
    cases hv
    refine ⟨_, call_len.or call_lenD, fun io hd H xs vs Q E R rs q => ?_⟩
    rw [eK]
    match xs, rs, q with
    | [x], rs, q =>
      obtain ⟨v, rfl, r⟩ := one_inv rs
      cases x with
      | str s =>
        obtain ⟨h1, q⟩ := must_post q
        rw [(rd_str.mp r).1]
        refine .inl ⟨_, s.length, rfl, ⟨by rw [tS_len, line_eq]; exact of_decide_eq_true h1, by rw [tS_len]⟩, PQ.val R q (rd_int.mpr rfl)⟩
      | tup ds =>
        obtain ⟨a, us, rfl, hs, r2⟩ := rd_tup.mp r
        exact .inl ⟨_, ds.length, rfl, .inr ⟨us, hs, r2.len⟩, PQ.val R q (rd_int.mpr rfl)⟩
      | ref n =>
        obtain ⟨_, rfl⟩ := rd_ref.mp r
        unfold bltE at q
        dsimp only at q
        split at q
        · rename_i ds e
          obtain ⟨us, h1, r2⟩ := R.lst e
          exact .inl ⟨_, ds.length, rfl, .inl ⟨us, SqL.of h1, r2.len⟩, PQ.val R q (rd_int.mpr rfl)⟩
        · rename_i ds e
          obtain ⟨us, h1, r2⟩ := (R.obj n _ e).flst_sq
          exact .inl ⟨_, ds.length, rfl, .inl ⟨us, h1, r2.len⟩, PQ.val R q (rd_int.mpr rfl)⟩
        · rename_i kvs e
          obtain ⟨ks, h1, r2⟩ := R.obj n _ e
          refine .inr ⟨_, ks, rfl, h1, ?_⟩
          rw [← rks_len r2]
          exact PQ.val R q (rd_int.mpr rfl)
        · exact q.elim
      | _ => exact q.elim
    | [], _, q => exact q.elim
    | _ :: _ :: _, _, q => exact q.elim
  | int =>
    cases hv
    refine ⟨_, call_int1.or call_int_str, fun io hd H xs vs Q E R rs q => ?_⟩
    match xs, rs, q with
    | [x], rs, q =>
      obtain ⟨v, rfl, r⟩ := one_inv rs
      cases x with
      | int i => rw [rd_int.mp r]; exact .inl (.inl ⟨i, rfl, PQ.val R q (rd_int.mpr rfl)⟩)
      | bl k => rw [rd_bl.mp r]; exact .inl (.inr ⟨k, rfl, PQ.val R q (rd_int.mpr rfl)⟩)
      | str s =>
        obtain ⟨h1, q⟩ := must_post q
        obtain ⟨i, h2, q⟩ := lft_post q
        rw [(rd_str.mp r).1]
        exact .inr ⟨tS s, i, rfl, h2, by rw [tS_len]; exact of_decide_eq_true h1, PQ.val R q (rd_int.mpr rfl)⟩
      | _ => exact q.elim
    | [], _, q => exact q.elim
    | _ :: _ :: _, _, q => exact q.elim
  | str =>
    cases hv
    refine ⟨_, call_str_int.or SkE.call_str_str, fun io hd H xs vs Q E R rs q => ?_⟩
    match xs, rs, q with
    | [x], rs, q =>
      obtain ⟨v, rfl, r⟩ := one_inv rs
      cases x with
      | int i =>
        obtain ⟨h1, q⟩ := must_post q
        rw [rd_int.mp r]
        refine .inl ⟨i, rfl, of_decide_eq_true h1, ?_⟩
        rw [show_eq]
        exact PQ.val R q (rd_str.mpr ⟨rfl, okT_show i⟩)
      | str s =>
        rw [(rd_str.mp r).1]
        exact .inr ⟨tS s, rfl, PQ.val R q (rd_str.mpr ⟨rfl, (rd_str.mp r).2⟩)⟩
      | _ => exact q.elim
    | [], _, q => exact q.elim
    | _ :: _ :: _, _, q => exact q.elim
  | list =>
    cases hv
    refine ⟨_, call_list_of.or (call_list_dK hc), fun io hd H xs vs Q E R rs q => ?_⟩
    rw [eK]
    match xs, rs, q with
    | [x], rs, q =>
      obtain ⟨v, rfl, r⟩ := one_inv rs
      obtain ⟨ds, h1, q⟩ := lft_post q
      unfold ksq? at h1
      split at h1
      · rename_i p hp
        cases h1
        cases x with
        | ref n =>
          obtain ⟨_, rfl⟩ := rd_ref.mp r
          unfold dct? at hp
          dsimp only at hp
          split at hp
          · rename_i kvs e
            cases hp
            obtain ⟨ks, h2, r2⟩ := R.obj n _ e
            exact .inr ⟨io n, ks, rfl, h2, fun p hp => PQ.newL R q (rks_keys r2) hp⟩
          · cases hp
        | _ => cases hp
      · obtain ⟨a, us, rfl, hs, r2⟩ := R.seq? h1 r
        exact .inl ⟨a, us, rfl, hs, fun p hp => PQ.newL R q r2 hp⟩
    | [], _, q => exact q.elim
    | _ :: _ :: _, _, q => exact q.elim
  | tuple =>
    cases hv
    refine ⟨_, call_tuple_of, fun io hd H xs vs Q E R rs q => ?_⟩
    rw [eK]
    match xs, rs, q with
    | [x], rs, q =>
      obtain ⟨v, rfl, r⟩ := one_inv rs
      obtain ⟨ds, h1, q2⟩ := lft_post q
      cases x with
      | tup es =>
        cases h1
        obtain ⟨a, us, rfl, hs, r2⟩ := rd_tup.mp r
        exact ⟨a, us, rfl, .inr ⟨hs, PQ.val R q2 r⟩⟩
      | ref n =>
        have h1 : list? hd (.ref n) = some ds := h1
        obtain ⟨a, us, rfl, hs, r2⟩ := R.list? h1 r
        exact ⟨a, us, rfl, .inl ⟨hs, fun p hp => PQ.tup R q2 r2 hp⟩⟩
      | _ => cases h1
    | [], _, q => exact q.elim
    | _ :: _ :: _, _, q => exact q.elim
  | sorted =>
    cases hv
    refine ⟨_, cr_sorted.or cr_sortedS, fun io hd H xs vs Q E R rs q => ?_⟩
    unfold rSorted rSortedS
    rw [eK]
    match xs, rs, q with
    | [x], rs, q =>
      obtain ⟨v, rfl, r⟩ := one_inv rs
      obtain ⟨ds, h1, q⟩ := lft_post q
      obtain ⟨a, us, rfl, hs, r2⟩ := R.list? h1 r
      cases ht : texts? ds with
      | some ts =>
        rw [ht] at q
        obtain ⟨h3, q⟩ := must_post q
        obtain ⟨e, ok⟩ := texts_rds ht r2
        subst e
        refine .inr ⟨a, ts.map tS, rfl, hs, by rw [List.length_map]; exact of_decide_eq_true h3, fun ys p hp hsd hn => ?_⟩
        rw [sortT_unique hp hsd]
        exact PQ.newL R q (rds_texts fun t hm => ok t ((sortT_perm ts).mem_iff.mp hm)) hn
      | none =>
        rw [ht] at q
        cases hi : ints? ds with
        | some is =>
          rw [hi] at q
          obtain ⟨h3, q⟩ := must_post q
          have e := ints_rds hi r2
          subst e
          refine .inl ⟨a, is, rfl, hs, of_decide_eq_true h3, fun ys p hp hsd hn => ?_⟩
          rw [sortI_unique hp hsd]
          exact PQ.newL R q (rds_ints _) hn
        | none => rw [hi] at q; exact q.elim
    | [], _, q => exact q.elim
    | _ :: _ :: _, _, q => exact q.elim
  | min =>
    cases hv
    refine ⟨_, (call_min2 hc).or (cr_min hc), fun io hd H xs vs Q E R rs q => ?_⟩
    unfold rMin
    rw [eK]
    match xs, rs, q with
    | [], _, q => exact q.elim
    | [x], rs, q =>
      obtain ⟨v, rfl, r⟩ := one_inv rs
      have q : PostE (bnd (lft ((list? hd x).bind ints?)) (fun is => bnd (lft (minL is)) fun i => ret (.int i)) hd) (PQ g io hd H Q) E := by
        cases x <;> exact q
      obtain ⟨ds, is, h1, h2, q⟩ := ints_post q
      obtain ⟨i, h3, q⟩ := lft_post q
      obtain ⟨a, us, rfl, hs, r2⟩ := R.list? h1 r
      have e := ints_rds h2 r2
      subst e
      refine .inr ⟨a, is, rfl, hs, by cases is; cases h3; simp, fun m hm hall => ?_⟩
      obtain ⟨h4, h5⟩ := minL_mem h3
      have : m = i := by have := hall i h4; have := h5 m hm; omega
      rw [this]
      exact PQ.val R q (rd_int.mpr rfl)
    | [x, y], rs, q =>
      obtain ⟨v, w, rfl, r1, r2⟩ := two_inv rs
      cases x with
      | int i =>
        cases y with
        | int j =>
          rw [rd_int.mp r1, rd_int.mp r2]
          exact .inl ⟨i, j, rfl, PQ.val R q (rd_int.mpr rfl)⟩
        | _ => exact q.elim
      | _ => exact q.elim
    | x :: y :: _ :: _, _, q => cases x <;> first | exact q.elim | (cases y <;> exact q.elim)
  | max =>
    cases hv
    refine ⟨_, (call_max2 hc).or (cr_max hc), fun io hd H xs vs Q E R rs q => ?_⟩
    unfold rMax
    rw [eK]
    match xs, rs, q with
    | [], _, q => exact q.elim
    | [x], rs, q =>
      obtain ⟨v, rfl, r⟩ := one_inv rs
      have q : PostE (bnd (lft ((list? hd x).bind ints?)) (fun is => bnd (lft (maxL is)) fun i => ret (.int i)) hd) (PQ g io hd H Q) E := by
        cases x <;> exact q
      obtain ⟨ds, is, h1, h2, q⟩ := ints_post q
      obtain ⟨i, h3, q⟩ := lft_post q
      obtain ⟨a, us, rfl, hs, r2⟩ := R.list? h1 r
      have e := ints_rds h2 r2
      subst e
      refine .inr ⟨a, is, rfl, hs, by cases is; cases h3; simp, fun m hm hall => ?_⟩
      obtain ⟨h4, h5⟩ := maxL_mem h3
      have : m = i := by have := hall i h4; have := h5 m hm; omega
      rw [this]
      exact PQ.val R q (rd_int.mpr rfl)
    | [x, y], rs, q =>
      obtain ⟨v, w, rfl, r1, r2⟩ := two_inv rs
      cases x with
      | int i =>
        cases y with
        | int j =>
          rw [rd_int.mp r1, rd_int.mp r2]
          exact .inl ⟨i, j, rfl, PQ.val R q (rd_int.mpr rfl)⟩
        | _ => exact q.elim
      | _ => exact q.elim
    | x :: y :: _ :: _, _, q => cases x <;> first | exact q.elim | (cases y <;> exact q.elim)
  | any =>
    cases hv
    refine ⟨_, cr_any hc, fun io hd H xs vs Q E R rs q => ?_⟩
    unfold rAny
    rw [eK]
    match xs, rs, q with
    | [x], rs, q =>
      obtain ⟨v, rfl, r⟩ := one_inv rs
      obtain ⟨bs, h, q⟩ := lft_post q
      obtain ⟨ds, h1, h2⟩ := Option.bind_eq_some_iff.mp h
      obtain ⟨a, us, rfl, hs, r2⟩ := R.list? h1 r
      have e := bools_rds h2 r2
      subst e
      exact ⟨a, bs, rfl, hs, PQ.val R q (rd_bl.mpr rfl)⟩
    | [], _, q => exact q.elim
    | _ :: _ :: _, _, q => exact q.elim
  | sum =>
    cases hv
    refine ⟨_, cr_sum hc, fun io hd H xs vs Q E R rs q => ?_⟩
    unfold rSum
    rw [eK]
    match xs, rs, q with
    | [x], rs, q =>
      obtain ⟨v, rfl, r⟩ := one_inv rs
      obtain ⟨ds, is, h1, h2, q⟩ := ints_post q
      obtain ⟨a, us, rfl, hs, r2⟩ := R.list? h1 r
      have e := ints_rds h2 r2
      subst e
      exact ⟨a, is, rfl, hs, PQ.val R q (rd_int.mpr rfl)⟩
    | [], _, q => exact q.elim
    | _ :: _ :: _, _, q => exact q.elim
  | abs =>
    cases hv
    refine ⟨_, call_abs, fun io hd H xs vs Q E R rs q => ?_⟩
    match xs, rs, q with
    | [], _, q => exact q.elim
    | [x], rs, q =>
      obtain ⟨v, rfl, r⟩ := one_inv rs
      cases x with
      | int i =>
        rw [rd_int.mp r]
        exact ⟨i, rfl, PQ.val R q (rd_int.mpr rfl)⟩
      | _ => exact q.elim
    | x :: _ :: _, _, q => cases x <;> exact q.elim
  | dict => cases hv
  | isi t => cases hv
  | sset => cases hv
  | rvs => cases hv
  | lset => cases hv

/-! ### methods -/
/-- a method of values keeps to a rule -/
def BVM (g : Wd) (f : D → List D → M D) (K : PySem.W.Frag) (T : String) (r : V → List V → Hp → VK → Prop) : Prop := ∀ (io : Nat → Addr) (hd : Hd) (H : Hp) (x : D) (vx : V) (xs : List D) (vs : List V) (Q : VK) (E : Exn → Hd → Prop),
  RH g io hd H → RD g io hd.length H x vx → RDs g io hd.length H xs vs → PostE (f x xs hd) (PQ g io hd H Q) E → r vx vs H Q
theorem lst_post {α : Type} {io : Nat → Addr} {hd : Hd} {H : Hp} {x : D} {vx : V} {f : Nat × List D → M α} {P : α → Hd → Prop} {E : Exn → Hd → Prop} (R : RH g io hd H) (rx : RD g io hd.length H x vx) (q : PostE (bnd (lft (lst? hd x)) f hd) P E) :
    ∃ n ds vs, hd[n]? = some (.lst ds) ∧ vx = .ref (io n) ∧ H (io n) = some (.lst vs) ∧ RDs g io hd.length H ds vs ∧ PostE (f (n, ds) hd) P E := by
  obtain ⟨p, h, q⟩ := lft_post q
  cases x with
  | ref n =>
    unfold lst? at h
    dsimp only at h
    split at h
    · rename_i ds e
      cases h
      obtain ⟨vs, h1, r⟩ := R.lst e
      exact ⟨n, ds, vs, e, (rd_ref.mp rx).2, h1, r, q⟩
    · cases h
  | _ => cases h
theorem put_post {α : Type} {hd : Hd} {n : Nat} {o : O} {f : Unit → M α} {P : α → Hd → Prop} {E : Exn → Hd → Prop} (q : PostE (bnd (put n o) f hd) P E) : PostE (f () (hd.set n o)) P E := by
  unfold put at q
  simp only [bnd_app] at q
  cases h : decide (n < hd.length) with
  | true => rw [h] at q; exact q
  | false => rw [h] at q; exact q.elim
theorem PQ.wr {Q : VK} {io : Nat → Addr} {hd : Hd} {H : Hp} {n : Nat} {ds ds' : List D} {vs' : List V} {d : D} {v : V} (R : RH g io hd H) (h : hd[n]? = some (.lst ds)) (r : RDs g io hd.length H ds' vs') (q : PQ g io hd H Q d (hd.set n (.lst ds')))
    (rd : RD g io hd.length H d v) : Q v (upd H (io n) (.lst vs')) := by
  obtain ⟨R', N⟩ := R.put h r
  exact q io _ v N R' (N.rd rd)
theorem okTx_ok {t : Tx} (h : okTx t = true) : OkT t := fun c hc => of_decide_eq_true (List.all_eq_true.mp h c hc)
theorem ne_len {b : Tx} (h : b ≠ []) : (b.length == 0) = false := by cases b <;> simp at h ⊢
/-- which method of which type -/
def bmI : Bm → Option (String × String)
  | .pop => some ("list", "list.pop") | .startswith => some ("str", "str.startswith") | .endswith => some ("str", "str.endswith") | .find => some ("str", "str.find") | .upper => some ("str", "str.upper") | .strip => some ("str", "str.strip") | .split => some ("str", "str.split") | .partition => some ("str", "str.partition")
  | .append => some ("list", "list.append") | .extend => some ("list", "list.extend") | .reverse => some ("list", "list.reverse") | .clear => some ("list", "list.clear") | .index => some ("list", "list.index") | .join => some ("str", "str.join")
  | _ => none
theorem findIdx_first {α : Type} {p : α → Bool} : ∀ {l : List α} {j : Nat}, l.findIdx? p = some j → ∃ z, l[j]? = some z ∧ p z = true ∧ ∀ m z', m < j → l[m]? = some z' → p z' = false
  | [], j, h => by simp at h
  | a :: r, j, h => by
    rw [List.findIdx?_cons] at h
    cases hp : p a with
    | true =>
      rw [hp] at h
      cases h
      exact ⟨a, rfl, hp, fun m z' hm => absurd hm (Nat.not_lt_zero _)⟩
    | false =>
      rw [hp] at h
      simp only [Bool.false_eq_true, if_false] at h
      obtain ⟨k, h1, rfl⟩ := Option.map_eq_some_iff.mp h
      obtain ⟨z, h2, h3, h4⟩ := findIdx_first h1
      refine ⟨z, by simpa using h2, h3, fun m z' hm e => ?_⟩
      cases m with
      | zero => simp at e; subst e; exact hp
      | succ m => exact h4 m z' (by omega) (by simpa using e)
theorem bmt_ok (eK : X.K = g.K) (hu : X.A.units + 65 < cLine) (b : Bm) (T id : String) (hv : bmI b = some (T, id)) : ∃ r, MtR X id r ∧ BVM g (bmtE b) X.K T r := by
  cases b with
  | append =>
    cases hv
    refine ⟨_, mt_append, fun io hd H x vx xs vs Q E R rx rs q => ?_⟩
    match xs, rs, q with
    | [y], rs, q =>
      obtain ⟨w, rfl, ry⟩ := one_inv rs
      obtain ⟨n, ds, us, h1, rfl, h2, r, q⟩ := lst_post R rx q
      obtain ⟨h3, q⟩ := must_post q
      have q := put_post q
      exact ⟨_, us, w, rfl, rfl, h2, by rw [← r.len, line_eq]; exact of_decide_eq_true h3, PQ.wr R h1 (r.append (.one ry)) q (rd_non.mpr rfl)⟩
    | [], _, q => exact q.elim
    | _ :: _ :: _, _, q => exact q.elim
  | extend =>
    cases hv
    refine ⟨_, mt_extend, fun io hd H x vx xs vs Q E R rx rs q => ?_⟩
    match xs, rs, q with
    | [y], rs, q =>
      obtain ⟨w, rfl, ry⟩ := one_inv rs
      obtain ⟨n, ds, us, h1, rfl, h2, r, q⟩ := lst_post R rx q
      obtain ⟨m, es, ws, h3, rfl, h4, r2, q⟩ := lst_post R ry q
      obtain ⟨h5, q⟩ := must_post q
      have q := put_post q
      exact ⟨_, _, us, ws, rfl, rfl, h2, h4, by rw [← r.len, ← r2.len, line_eq]; exact of_decide_eq_true h5, PQ.wr R h1 (r.append r2) q (rd_non.mpr rfl)⟩
    | [], _, q => exact q.elim
    | _ :: _ :: _, _, q => exact q.elim
  | reverse =>
    cases hv
    refine ⟨_, mt_reverse, fun io hd H x vx xs vs Q E R rx rs q => ?_⟩
    match xs, rs, q with
    | [], rs, q =>
      obtain ⟨n, ds, us, h1, rfl, h2, r, q⟩ := lst_post R rx q
      have q := put_post q
      exact ⟨_, us, rfl, rs.nil_inv, h2, PQ.wr R h1 r.reverse q (rd_non.mpr rfl)⟩
    | _ :: _, _, q => exact q.elim
  | clear =>
    cases hv
    refine ⟨_, mt_clear, fun io hd H x vx xs vs Q E R rx rs q => ?_⟩
    match xs, rs, q with
    | [], rs, q =>
      obtain ⟨n, ds, us, h1, rfl, h2, r, q⟩ := lst_post R rx q
      have q := put_post q
      exact ⟨_, us, rfl, rs.nil_inv, h2, PQ.wr R h1 .nil q (rd_non.mpr rfl)⟩
    | _ :: _, _, q => exact q.elim
  | index =>
    cases hv
    refine ⟨_, mt_indexD hu, fun io hd H x vx xs vs Q E R rx rs q => ?_⟩
    match xs, rs, q with
    | [y], rs, q =>
      obtain ⟨w, rfl, ry⟩ := one_inv rs
      obtain ⟨p, h1, h2, q⟩ := data_post R rx q
      obtain ⟨p', h3, h4, q⟩ := data_post R ry q
      rw [← eK] at h1 h3
      cases p with
      | list ds =>
        obtain ⟨j, h5, q⟩ := lft_post q
        obtain ⟨z, h6, h7, h8⟩ := findIdx_first h5
        cases h1 with
        | lst hs ha => exact ⟨_, w, p', ds, j, z, rfl, rfl, .lst hs ha, h3, h2, h4, h6, h7, h8, PQ.val R q (rd_int.mpr rfl)⟩
      | _ => exact q.elim
    | [], _, q => exact q.elim
    | _ :: _ :: _, _, q => exact q.elim
  | join =>
    cases hv
    refine ⟨_, mt_join, fun io hd H x vx xs vs Q E R rx rs q => ?_⟩
    rw [eK]
    match xs, rs, q with
    | [y], rs, q =>
      obtain ⟨w, rfl, ry⟩ := one_inv rs
      cases x with
      | str s =>
        obtain ⟨e1, ok⟩ := rd_str.mp rx
        obtain ⟨ts, h, q⟩ := lft_post q
        obtain ⟨ds, h1, h2⟩ := Option.bind_eq_some_iff.mp h
        obtain ⟨h3, q⟩ := must_post q
        obtain ⟨a, us, rfl, hs, r2⟩ := R.seq? h1 ry
        obtain ⟨e, okt⟩ := texts_rds h2 r2
        subst e
        refine ⟨tS s, a, ts.map tS, e1, rfl, hs, ?_, ?_⟩
        · rw [sum_lens, tS_len, List.length_map, Nat.mul_comm]
          exact of_decide_eq_true h3
        · show Q (.str (Builtin.Str.glued (tS s) (ts.map tS))) H
          rw [StrLaws.glued_eq_join, join_eq]
          exact PQ.val R q (rd_str.mpr ⟨rfl, okT_join ok okt⟩)
      | _ => exact q.elim
    | [], _, q => exact q.elim
    | _ :: _ :: _, _, q => exact q.elim
  | pop =>
    cases hv
    refine ⟨_, mt_pop, fun io hd H x vx xs vs Q E R rx rs q => ?_⟩
    match xs, rs, q with
    | [], rs, q =>
      obtain ⟨n, ds, us, h1, rfl, h2, r, q⟩ := lst_post R rx q
      obtain ⟨y, h3, q⟩ := lft_post q
      have q := put_post q
      obtain ⟨w, h4, ry⟩ := r.get h3
      exact ⟨_, us, w, rfl, rs.nil_inv, h2, by rw [← r.len]; exact h4, PQ.wr R h1 r.dropLast q ry⟩
    | _ :: _, _, q => exact q.elim
  | startswith =>
    cases hv
    refine ⟨_, mt_startswith, fun io hd H x vx xs vs Q E R rx rs q => ?_⟩
    match xs, rs, q with
    | [.str b], rs, q =>
      obtain ⟨w, rfl, ry⟩ := one_inv rs
      cases x with
      | str s =>
        rw [(rd_str.mp rx).1, (rd_str.mp ry).1]
        exact ⟨_, _, rfl, rfl, PQ.val R q (rd_bl.mpr rfl)⟩
      | _ => exact q.elim
    | [], _, q => exact q.elim
    | a :: _ :: _, _, q => cases a <;> exact q.elim
    | [.non], _, q => exact q.elim
    | [.bl _], _, q => exact q.elim
    | [.int _], _, q => exact q.elim
    | [.tup _], _, q => exact q.elim
    | [.ref _], _, q => exact q.elim
  | endswith =>
    cases hv
    refine ⟨_, mt_endswith, fun io hd H x vx xs vs Q E R rx rs q => ?_⟩
    match xs, rs, q with
    | [.str b], rs, q =>
      obtain ⟨w, rfl, ry⟩ := one_inv rs
      cases x with
      | str s =>
        rw [(rd_str.mp rx).1, (rd_str.mp ry).1]
        exact ⟨_, _, rfl, rfl, PQ.val R q (rd_bl.mpr rfl)⟩
      | _ => exact q.elim
    | [], _, q => exact q.elim
    | a :: _ :: _, _, q => cases a <;> exact q.elim
    | [.non], _, q => exact q.elim
    | [.bl _], _, q => exact q.elim
    | [.int _], _, q => exact q.elim
    | [.tup _], _, q => exact q.elim
    | [.ref _], _, q => exact q.elim
  | find =>
    cases hv
    refine ⟨_, mt_find, fun io hd H x vx xs vs Q E R rx rs q => ?_⟩
    match xs, rs, q with
    | [.str b], rs, q =>
      obtain ⟨w, rfl, ry⟩ := one_inv rs
      cases x with
      | str s =>
        rw [(rd_str.mp rx).1, (rd_str.mp ry).1]
        exact ⟨_, _, rfl, rfl, PQ.val R q (rd_int.mpr rfl)⟩
      | _ => exact q.elim
    | [], _, q => exact q.elim
    | a :: _ :: _, _, q => cases a <;> exact q.elim
    | [.non], _, q => exact q.elim
    | [.bl _], _, q => exact q.elim
    | [.int _], _, q => exact q.elim
    | [.tup _], _, q => exact q.elim
    | [.ref _], _, q => exact q.elim
  | upper =>
    cases hv
    refine ⟨_, mt_upper, fun io hd H x vx xs vs Q E R rx rs q => ?_⟩
    match xs, rs, q with
    | [], rs, q =>
      cases x with
      | str s =>
        obtain ⟨h1, q⟩ := must_post q
        rw [Bool.and_eq_true] at h1
        rw [(rd_str.mp rx).1]
        exact ⟨_, rfl, rs.nil_inv, by rw [tS_len]; exact of_decide_eq_true h1.1, PQ.val R q (rd_str.mpr ⟨rfl, okTx_ok h1.2⟩)⟩
      | _ => exact q.elim
    | _ :: _, _, q => exact q.elim
  | strip =>
    cases hv
    refine ⟨_, mt_stripChars, fun io hd H x vx xs vs Q E R rx rs q => ?_⟩
    match xs, rs, q with
    | [.str b], rs, q =>
      obtain ⟨w, rfl, ry⟩ := one_inv rs
      cases x with
      | str s =>
        obtain ⟨h1, q⟩ := must_post q
        rw [Bool.and_eq_true] at h1
        rw [(rd_str.mp rx).1, (rd_str.mp ry).1]
        exact ⟨_, _, rfl, rfl, by rw [tS_len, line_eq]; exact of_decide_eq_true h1.1, PQ.val R q (rd_str.mpr ⟨rfl, okTx_ok h1.2⟩)⟩
      | _ => exact q.elim
    | [], _, q => exact q.elim
    | a :: _ :: _, _, q => cases a <;> exact q.elim
    | [.non], _, q => exact q.elim
    | [.bl _], _, q => exact q.elim
    | [.int _], _, q => exact q.elim
    | [.tup _], _, q => exact q.elim
    | [.ref _], _, q => exact q.elim
  | split =>
    cases hv
    refine ⟨_, mt_split, fun io hd H x vx xs vs Q E R rx rs q => ?_⟩
    match xs, rs, q with
    | [.str b], rs, q =>
      obtain ⟨w, rfl, ry⟩ := one_inv rs
      cases x with
      | str s =>
        obtain ⟨h1, q⟩ := must_post q
        rw [Bool.and_eq_true, Bool.and_eq_true] at h1
        rw [(rd_str.mp rx).1, (rd_str.mp ry).1]
        refine ⟨_, _, rfl, rfl, by rw [tS_len]; exact ne_len (by simpa using h1.1.1), by rw [tS_len, line_eq]; exact of_decide_eq_true h1.1.2, fun p hp => ?_⟩
        refine PQ.newL R q ?_ hp
        have e : (Txt.split (tS s) (tS b)).map V.str = ((splitT s b).map tS).map V.str := by
          unfold splitT
          rw [List.map_map, List.map_map, show ((V.str ∘ tS) ∘ txOf) = V.str from funext fun s => rfl]
          rfl
        rw [e]
        exact rds_texts fun t ht => okTx_ok (List.all_eq_true.mp h1.2 t ht)
      | _ => exact q.elim
    | [], _, q => exact q.elim
    | a :: _ :: _, _, q => cases a <;> exact q.elim
    | [.non], _, q => exact q.elim
    | [.bl _], _, q => exact q.elim
    | [.int _], _, q => exact q.elim
    | [.tup _], _, q => exact q.elim
    | [.ref _], _, q => exact q.elim
  | partition =>
    cases hv
    refine ⟨_, mt_partition, fun io hd H x vx xs vs Q E R rx rs q => ?_⟩
    match xs, rs, q with
    | [.str b], rs, q =>
      obtain ⟨w, rfl, ry⟩ := one_inv rs
      cases x with
      | str s =>
        obtain ⟨h1, q⟩ := must_post q
        rw [Bool.and_eq_true, Bool.and_eq_true] at h1
        rw [(rd_str.mp rx).1, (rd_str.mp ry).1]
        refine ⟨_, _, rfl, rfl, by rw [tS_len]; exact ne_len (by simpa using h1.1.1), by rw [tS_len, line_eq]; exact of_decide_eq_true h1.1.2, fun p hp => ?_⟩
        exact PQ.tup R q (rds_texts (ts := partT s b) fun t ht => okTx_ok (List.all_eq_true.mp h1.2 t ht)) hp
      | _ => exact q.elim
    | [], _, q => exact q.elim
    | a :: _ :: _, _, q => cases a <;> exact q.elim
    | [.non], _, q => exact q.elim
    | [.bl _], _, q => exact q.elim
    | [.int _], _, q => exact q.elim
    | [.tup _], _, q => exact q.elim
    | [.ref _], _, q => exact q.elim
  | _ => cases hv
end
end U
end

section
set_option maxRecDepth 100000
set_option maxHeartbeats 1000000
/-! Expressions: what the small machine says of one is what its reading asks. -/
namespace U
open PySem L2

theorem PE.imp {X : Cx} {e : Expr} {t t' : TE} (h : PE X e t) (k : ∀ σ H Q, t' σ H Q → t σ H Q) : PE X e t' := ⟨fun pins s σ H Q I q => h.run pins s σ H Q I (k _ _ _ q)⟩
theorem PT.imp {X : Cx} {e : Expr} {t t' : TT} (h : PT X e t) (k : ∀ σ H Q, t' σ H Q → t σ H Q) : PT X e t' := ⟨fun pins s σ H Q I q => h.run pins s σ H Q I (k _ _ _ q)⟩
theorem PW.imp {X : Cx} {e : Expr} {t t' : TT} (h : PW X e t) (k : ∀ σ H Q, t' σ H Q → t σ H Q) : PW X e t' := ⟨fun wh pins s σ H Q I q => h.run wh pins s σ H Q I (k _ _ _ q)⟩
theorem PA.imp {X : Cx} {e : List Expr} {t t' : TA} (h : PA X e t) (k : ∀ σ H Q, t' σ H Q → t σ H Q) : PA X e t' := ⟨fun p pins s σ H Q I q => h.run p pins s σ H Q I (k _ _ _ q)⟩
theorem PO.imp {X : Cx} {e : Option Expr} {t t' : TO} (h : PO X e t) (k : ∀ σ H Q, t' σ H Q → t σ H Q) : PO X e t' := ⟨fun pins s σ H Q I q => h.run pins s σ H Q I (k _ _ _ q)⟩
theorem PS.imp {X : Cx} {e : Stmt} {t t' : TS} (h : PS X e t) (k : ∀ D σ H, t' D σ H → t D σ H) : PS X e t' := ⟨fun pins s σ H D I q => h.run pins s σ H D I (k _ _ _ q)⟩
theorem PSs.imp {X : Cx} {e : List Stmt} {t t' : TS} (h : PSs X e t) (k : ∀ D σ H, t' D σ H → t D σ H) : PSs X e t' := ⟨fun pins s σ H D I q => h.run pins s σ H D I (k _ _ _ q)⟩

/-! ### the readings -/
section
variable (g : Wd) (W : WX)
abbrev PX (io : Nat → Addr) (hd : Hd) (H : Hp) (σ : L2.St) : Exn → Hd → Prop := fun ex h' => ∀ io' H' c d, Nxt g io hd H io' h' H' → RH g io' h' H' → RX g io' h'.length H' ex c d → W c d σ H'
abbrev PL (io : Nat → Addr) (hd : Hd) (H : Hp) (Q : List V → Hp → Prop) : List D → Hd → Prop := fun vs h' => ∀ io' H' us, Nxt g io hd H io' h' H' → RH g io' h' H' → RDs g io' h'.length H' vs us → Q us H'
def rdE (ev : St → M D) : TE := fun σ H Q => ∃ io hd sd, RH g io hd H ∧ RS g io hd.length H sd σ ∧ PostE (ev sd hd) (PQ g io hd H Q) (PX g W io hd H σ)
def rdT (ev : St → M Bool) : TT := fun σ H Q => ∃ io hd sd, RH g io hd H ∧ RS g io hd.length H sd σ ∧ PostE (ev sd hd) (PB g io hd H Q) (PX g W io hd H σ)
def rdA (ev : St → M (List D)) : TA := fun σ H Q => ∃ io hd sd, RH g io hd H ∧ RS g io hd.length H sd σ ∧ PostE (ev sd hd) (PL g io hd H Q) (PX g W io hd H σ)
end
section
variable {g : Wd} {W : WX} {io : Nat → Addr} {hd : Hd} {H : Hp} {σ : L2.St} {sd : St}
theorem PX.tr {io1 : Nat → Addr} {h1 : Hd} {H1 : Hp} {ex : Exn} {h2 : Hd} (n : Nxt g io hd H io1 h1 H1) (q : PX g W io hd H σ ex h2) : PX g W io1 h1 H1 σ ex h2 := fun io' H' c d n2 r x => q io' H' c d (n.trans n2) r x
theorem PQ.tr {io1 : Nat → Addr} {h1 : Hd} {H1 : Hp} {Q : VK} {v : D} {h2 : Hd} (n : Nxt g io hd H io1 h1 H1) (q : PQ g io hd H Q v h2) : PQ g io1 h1 H1 Q v h2 := fun io' H' v' n2 r x => q io' H' v' (n.trans n2) r x
theorem PL.tr {io1 : Nat → Addr} {h1 : Hd} {H1 : Hp} {Q : List V → Hp → Prop} {v : List D} {h2 : Hd} (n : Nxt g io hd H io1 h1 H1) (q : PL g io hd H Q v h2) : PL g io1 h1 H1 Q v h2 := fun io' H' v' n2 r x => q io' H' v' (n.trans n2) r x
theorem PB.tr {io1 : Nat → Addr} {h1 : Hd} {H1 : Hp} {Q : Bool → Hp → Prop} {v : Bool} {h2 : Hd} (n : Nxt g io hd H io1 h1 H1) (q : PB g io hd H Q v h2) : PB g io1 h1 H1 Q v h2 := fun io' H' n2 r => q io' H' (n.trans n2) r
/-- an expression, then what goes on with its value -/
theorem rdE.then_ {α : Type} {ev : St → M D} {k : D → M α} {P : α → Hd → Prop} {Q : VK} (R : RH g io hd H) (S : RS g io hd.length H sd σ) (q : PostE (bnd (ev sd) k hd) P (PX g W io hd H σ))
    (h : ∀ x h1 io1 H1 v, Nxt g io hd H io1 h1 H1 → RH g io1 h1 H1 → RS g io1 h1.length H1 sd σ → RD g io1 h1.length H1 x v → PostE (k x h1) P (PX g W io hd H σ) → Q v H1) : rdE g W ev σ H Q :=
  ⟨io, hd, sd, R, S, (PostE.of_bnd q).mono (fun x h1 q1 io1 H1 v n r rv => h x h1 io1 H1 v n r (n.rs S) rv q1) fun _ _ z => z⟩
theorem rdT.then_ {α : Type} {ev : St → M Bool} {k : Bool → M α} {P : α → Hd → Prop} {Q : Bool → Hp → Prop} (R : RH g io hd H) (S : RS g io hd.length H sd σ) (q : PostE (bnd (ev sd) k hd) P (PX g W io hd H σ))
    (h : ∀ x h1 io1 H1, Nxt g io hd H io1 h1 H1 → RH g io1 h1 H1 → RS g io1 h1.length H1 sd σ → PostE (k x h1) P (PX g W io hd H σ) → Q x H1) : rdT g W ev σ H Q :=
  ⟨io, hd, sd, R, S, (PostE.of_bnd q).mono (fun x h1 q1 io1 H1 n r => h x h1 io1 H1 n r (n.rs S) q1) fun _ _ z => z⟩
theorem rdA.then_ {α : Type} {ev : St → M (List D)} {k : List D → M α} {P : α → Hd → Prop} {Q : List V → Hp → Prop} (R : RH g io hd H) (S : RS g io hd.length H sd σ) (q : PostE (bnd (ev sd) k hd) P (PX g W io hd H σ))
    (h : ∀ x h1 io1 H1 v, Nxt g io hd H io1 h1 H1 → RH g io1 h1 H1 → RS g io1 h1.length H1 sd σ → RDs g io1 h1.length H1 x v → PostE (k x h1) P (PX g W io hd H σ) → Q v H1) : rdA g W ev σ H Q :=
  ⟨io, hd, sd, R, S, (PostE.of_bnd q).mono (fun x h1 q1 io1 H1 v n r rv => h x h1 io1 H1 v n r (n.rs S) rv q1) fun _ _ z => z⟩
/-- the posts, seen from further on -/
theorem PostE.onQ {io1 : Nat → Addr} {h1 : Hd} {H1 : Hp} {Q : VK} {r : Rs D} (n : Nxt g io hd H io1 h1 H1) (q : PostE r (PQ g io hd H Q) (PX g W io hd H σ)) : PostE r (PQ g io1 h1 H1 Q) (PX g W io1 h1 H1 σ) := q.mono (fun _ _ z => z.tr n) fun _ _ z => z.tr n
theorem PostE.onB {io1 : Nat → Addr} {h1 : Hd} {H1 : Hp} {Q : Bool → Hp → Prop} {r : Rs Bool} (n : Nxt g io hd H io1 h1 H1) (q : PostE r (PB g io hd H Q) (PX g W io hd H σ)) : PostE r (PB g io1 h1 H1 Q) (PX g W io1 h1 H1 σ) := q.mono (fun _ _ z => PB.tr n z) fun _ _ z => z.tr n
theorem PostE.onL {io1 : Nat → Addr} {h1 : Hd} {H1 : Hp} {Q : List V → Hp → Prop} {r : Rs (List D)} (n : Nxt g io hd H io1 h1 H1) (q : PostE r (PL g io hd H Q) (PX g W io hd H σ)) : PostE r (PL g io1 h1 H1 Q) (PX g W io1 h1 H1 σ) := q.mono (fun _ _ z => PL.tr n z) fun _ _ z => z.tr n
end

/-- a def's promise: it does what the small machine says -/
def spS (g : Wd) (f : List D → M D) : Sp := fun vs H Q E => ∃ io hd xs, RH g io hd H ∧ RDs g io hd.length H xs vs ∧ PostE (f xs hd) (PQ g io hd H Q) (fun ex h' => ∀ io' H' c d, Nxt g io hd H io' h' H' → RH g io' h' H' → RX g io' h'.length H' ex c d → E c d H')
/-- the names of the module -/
structure Nm where
  fn : Str → Option Nat
  cst : Str → Option D
  fre : Str → Bool
/-- what a context must bear; n: so many calls deep there is room -/
structure Cn (g : Wd) (F : Nat → List D → M D) (N : Nm) (n : Nat) (X : Cx) : Prop where
  eK : X.K = g.K
  calm : X.calm = true
  room : Room n X.A
  nd : X.N.Nodup
  fn : ∀ x f, N.fn x = some f → X.mg x = some (.ref (g.fa f)) ∧ PySem.W.keepIn X.K (.ref (g.fa f)) = true ∧ ∃ fd ps, FnOk X.prog X.w X.K X.mg X.base (CX X.prog X.w) n (g.fa f) fd ps (spS g (F f)) ∧ Binds X.K fd ps []
  cst : ∀ x d, N.cst x = some d → ∃ u v, X.mg x = some u ∧ RelV v u ∧ ∀ io L H, RD g io L H d v
  fre : ∀ x, N.fre x = true → X.mg x = none
  own : PassesOwn (model X.prog X.w) X.A X.env X.xe
theorem Cn.hu {g : Wd} {F : Nat → List D → M D} {N : Nm} {n : Nat} {X : Cx} (c : Cn g F N n X) : X.A.units + 65 < cLine := by
  have := c.room.un
  omega
def isStar : Expr → Bool
  | .Starred .. => true
  | _ => false
theorem star_cons {e : Expr} {es : List Expr} {env : Env} (h : isStar e = false) : starEach (e :: es) env = (false, eval e env) :: starEach es env := by
  cases e <;> first | rfl | cases h
theorem star_any {env : Env} {pos : Pos} : ∀ {es : List Expr}, (es.all fun e => !isStar e) = true → (backTo pos (starEach es env)).any (·.1) = false
  | [], _ => rfl
  | e :: es, h => by
    rw [List.all_cons, Bool.and_eq_true] at h
    rw [star_cons (by simpa using h.1)]
    show ((false : Bool) || (backTo pos (starEach es env)).any (·.1)) = false
    rw [star_any h.2]
    rfl
theorem star_all {env : Env} {pos : Pos} : ∀ {es : List Expr}, (es.all fun e => !isStar e) = true → ((backTo pos (starEach es env)).all fun x => !x.1) = true
  | [], _ => rfl
  | e :: es, h => by
    rw [List.all_cons, Bool.and_eq_true] at h
    rw [star_cons (by simpa using h.1)]
    show (true && ((backTo pos (starEach es env)).all fun x => !x.1)) = true
    rw [star_all h.2]
    rfl
/-- a receiver that is no call of no arguments (super() is such) -/
def okBase : Expr → Bool
  | .Call (.Name _ _) [] [] _ => false
  | _ => true
theorem base_of {o : Expr} {m : Str} {env : Env} (h : okBase o = true) : attributeBase o m env (eval o env) = eval o env := by
  unfold attributeBase
  split
  · cases h
  · rfl
def isSlice : Expr → Bool
  | .Slice .. => true
  | _ => false
theorem plain_of {e : Expr} (h : isSlice e = false) : PlainIx e := by
  intro o i
  cases e <;> first | rfl | cases h
/-! ### the translation -/
def vis (sc : Scope) (x : Str) : Bool := match sc.names.lookup x with
  | some .local => true
  | some .cell => true
  | some .free => true
  | _ => false
theorem vis_ok {sc : Scope} {x : Str} (h : vis sc x = true) : Vis sc x := by
  unfold vis at h
  split at h
  · rename_i e; exact .inl e
  · rename_i e; exact .inr (.inl e)
  · rename_i e; exact .inr (.inr e)
  · cases h
def glb (sc : Scope) (x : Str) : Bool := match sc.names.lookup x with
  | some .globalImplicit => true
  | _ => false
theorem glb_ok {X : Cx} {sc : Scope} {x : Str} (e : X.env.scope = sc) (h : glb sc x = true) : Gl X x := by
  unfold glb at h
  split at h
  · rename_i z
    show X.env.scope.names.lookup x = _
    rw [e]; exact z
  · cases h
def okName (x : Str) : Bool := !(x == ("__debug__" : Str)) && !(x == ("__classdict__" : Str)) && !(x == ("__name__" : Str))
theorem okName_ok {x : Str} (h : okName x = true) : (x == ("__debug__" : Str)) = false ∧ (x == ("__classdict__" : Str)) = false ∧ x ≠ "__name__" := by
  unfold okName at h
  simp only [Bool.and_eq_true, Bool.not_eq_true'] at h
  exact ⟨h.1.1, h.1.2, fun e => by rw [e] at h; simp at h⟩
def ixOf (ns : List Str) (x : Str) : Option Nat := ns.findIdx? fun y => y == x
theorem ixOf_ok {ns : List Str} {x : Str} {i : Nat} (h : ixOf ns x = some i) : ns[i]? = some x := by
  obtain ⟨z, h1, h2, _⟩ := findIdx_first h
  rw [h1, beq_iff_eq.mp h2]
def trOp : Operator → Option BOp
  | .Add => some .add | .Sub => some .sub | .Mult => some .mul | .FloorDiv => some .fdiv | .Mod => some .mod | .Pow => some .pow | .LShift => some .shl | .RShift => some .shr | .BitAnd => some .band | .BitOr => some .bor | .BitXor => some .bxor
  | _ => none
theorem trOp_ok {o : Operator} {b : BOp} (h : trOp o = some b) : toOp b = o := by
  cases o <;> cases h <;> rfl
def trCmp : CmpOp → COp
  | .Eq => .eq | .NotEq => .ne | .Lt => .lt | .LtE => .le | .Gt => .gt | .GtE => .ge | .Is => .is_ | .IsNot => .isnot | .In => .in_ | .NotIn => .nin
theorem trCmp_ok (o : CmpOp) : toCmp (trCmp o) = o := by cases o <;> rfl
/-- built-in names that are called -/
def biL : List (Str × Bi) := [("len", .len), ("int", .int), ("str", .str), ("list", .list), ("tuple", .tuple), ("sorted", .sorted), ("min", .min), ("max", .max), ("any", .any), ("sum", .sum), ("abs", .abs)]
def tyL : List (Str × Ty) := [("int", .int), ("str", .str), ("bool", .bool), ("list", .list), ("tuple", .tuple), ("dict", .dict)]
def bmL : List (Str × Bm) := [("append", .append), ("extend", .extend), ("reverse", .reverse), ("clear", .clear), ("index", .index), ("join", .join), ("pop", .pop), ("startswith", .startswith), ("endswith", .endswith), ("find", .find), ("upper", .upper), ("strip", .strip), ("split", .split), ("partition", .partition)]
theorem biL_ok : ∀ p ∈ biL, ∃ v, biV p.2 = some v ∧ bootBuiltins p.1 = some v := by
  intro p hp
  simp only [biL, List.mem_cons, List.mem_nil_iff, or_false] at hp
  rcases hp with rfl | rfl | rfl | rfl | rfl | rfl | rfl | rfl | rfl | rfl | rfl <;> exact ⟨_, rfl, by decide +kernel⟩
theorem tyL_ok : ∀ p ∈ tyL, ∃ n, tyN p.2 = some n ∧ bootBuiltins p.1 = some (.type n) := by
  intro p hp
  simp only [tyL, List.mem_cons, List.mem_nil_iff, or_false] at hp
  rcases hp with rfl | rfl | rfl | rfl | rfl | rfl <;> exact ⟨_, rfl, by decide +kernel⟩
/-- what a method's call leans on -/
structure BmOk (p : Str × Bm) (T id : String) : Prop where
  bm : bmI p.2 = some (T, id)
  pa : PlainAttrs T
  slot : Slot T p.1 id
  ty : typeOf (.builtin id) = pure (.type "method_descriptor")
theorem bmL_ok : ∀ p ∈ bmL, ∃ T id, BmOk p T id := by
  intro p hp
  simp only [bmL, List.mem_cons, List.mem_nil_iff, or_false] at hp
  rcases hp with rfl | rfl | rfl | rfl | rfl | rfl | rfl | rfl | rfl | rfl | rfl | rfl | rfl | rfl
  · exact ⟨_, _, rfl, PySem.F.plainAttrs_list, PySem.F.slot_list_append, PySem.F.type_list_append⟩
  · exact ⟨_, _, rfl, PySem.F.plainAttrs_list, PySem.F.slot_list_extend, PySem.F.type_list_extend⟩
  · exact ⟨_, _, rfl, PySem.F.plainAttrs_list, PySem.F.slot_list_reverse, PySem.F.type_list_reverse⟩
  · exact ⟨_, _, rfl, PySem.F.plainAttrs_list, PySem.F.slot_list_clear, PySem.F.type_list_clear⟩
  · exact ⟨_, _, rfl, PySem.F.plainAttrs_list, PySem.F.slot_list_index, PySem.F.type_list_index⟩
  · exact ⟨_, _, rfl, PySem.F.plainAttrs_str, PySem.F.slot_str_join, PySem.F.type_str_join⟩
  · exact ⟨_, _, rfl, PySem.F.plainAttrs_list, PySem.F.slot_list_pop, PySem.F.type_list_pop⟩
  · exact ⟨_, _, rfl, PySem.F.plainAttrs_str, PySem.F.slot_str_startswith, PySem.F.type_str_startswith⟩
  · exact ⟨_, _, rfl, PySem.F.plainAttrs_str, PySem.F.slot_str_endswith, PySem.F.type_str_endswith⟩
  · exact ⟨_, _, rfl, PySem.F.plainAttrs_str, PySem.F.slot_str_find, PySem.F.type_str_find⟩
  · exact ⟨_, _, rfl, PySem.F.plainAttrs_str, PySem.F.slot_str_upper, PySem.F.type_str_upper⟩
  · exact ⟨_, _, rfl, PySem.F.plainAttrs_str, PySem.F.slot_str_strip, PySem.F.type_str_strip⟩
  · exact ⟨_, _, rfl, PySem.F.plainAttrs_str, PySem.F.slot_str_split, PySem.F.type_str_split⟩
  · exact ⟨_, _, rfl, PySem.F.plainAttrs_str, PySem.F.slot_str_partition, PySem.F.type_str_partition⟩
end U
end

section
set_option maxRecDepth 100000
set_option maxHeartbeats 1000000
/-! Walks: what the small machine goes over, as the layer's iterators. -/
namespace U
open PySem L2

theorem PI.imp {X : Cx} {tg e : Expr} {t t' : TI} (h : PI X tg e t) (k : ∀ σ H Q, t' σ H Q → t σ H Q) : PI X tg e t' := ⟨fun pins s σ H Q I q => h.run pins s σ H Q I (k _ _ _ q)⟩
theorem PI.or {X : Cx} {tg e : Expr} {t t' : TI} (h : PI X tg e t) (h' : PI X tg e t') : PI X tg e (fun σ H Q => t σ H Q ∨ t' σ H Q) :=
  ⟨fun pins s σ H Q I q => q.elim (h.run pins s σ H Q I) (h'.run pins s σ H Q I)⟩
section
variable (g : Wd) (W : WX)
/-- J goes over the items, as long as what is guarded stands -/
def IW (io : Nat → Addr) (hd : Hd) (H : Hp) (items : List D) (gs : Gd) (J : L2.It) : Prop :=
  ∃ (G : Hp → Prop) (Y : Nat → Hp → V → Hp → Prop), L2.Walk J items.length G Y ∧
    (∀ io1 h1 H1, Nxt g io hd H io1 h1 H1 → RH g io1 h1 H1 → gdOk gs h1 = true → G H1) ∧
    ∀ i io1 h1 H1 v H2, Nxt g io hd H io1 h1 H1 → RH g io1 h1 H1 → gdOk gs h1 = true → Y i H1 v H2 → ∃ d, items[i]? = some d ∧ RH g io1 h1 H2 ∧ Nxt g io1 h1 H1 io1 h1 H2 ∧ RD g io1 h1.length H2 d v
def rdI (ev : St → M (List D × Gd)) : TI := fun σ H R => ∃ io hd sd, RH g io hd H ∧ RS g io hd.length H sd σ ∧ PostE (ev sd hd) (fun p h' => ∀ io' H' J, Nxt g io hd H io' h' H' → RH g io' h' H' → IW g io' h' H' p.1 p.2 J → R J H') (PX g W io hd H σ)
end
section
variable {g : Wd} {W : WX} {io : Nat → Addr} {hd : Hd} {H : Hp} {σ : L2.St} {sd : St}
theorem gd_at {gs : Gd} {h1 : Hd} {n : Nat} {o : O} (h : gdOk gs h1 = true) (m : (n, o) ∈ gs) : h1[n]? = some o := of_decide_eq_true (List.all_eq_true.mp h (n, o) m)
theorem rds_at {ds : List D} {vs : List V} {L : Nat} {i : Nat} {v : V} (r : RDs g io L H ds vs) (h : vs[i]? = some v) : ∃ d, ds[i]? = some d ∧ RD g io L H d v := by
  have hi : i < ds.length := by rw [r.len]; exact (List.getElem?_eq_some_iff.mp h).1
  obtain ⟨w, h1, h2⟩ := r.get (List.getElem?_eq_some_iff.mpr ⟨hi, rfl⟩)
  rw [h] at h1
  cases h1
  exact ⟨_, List.getElem?_eq_some_iff.mpr ⟨hi, rfl⟩, h2⟩
theorem getElem?_len {α β : Type} {a : List α} {b : List β} (h : a.length = b.length) {i : Nat} {x : α} (hx : a[i]? = some x) : ∃ y, b[i]? = some y := by
  have hi := (List.getElem?_eq_some_iff.mp hx).1
  exact ⟨b[i]'(by omega), by simp [show i < b.length by omega]⟩
/-- a list of ours, guarded: what it is now -/
theorem gd_sq {io1 : Nat → Addr} {h1 : Hd} {H1 : Hp} {n : Nat} {o : O} {ds : List D} {vs : List V} (R : RH g io hd H) (N : Nxt g io hd H io1 h1 H1) (R1 : RH g io1 h1 H1) (ho : hd[n]? = some o) (hl : o.list? = some ds) (r : RDs g io hd.length H ds vs)
    (ho1 : h1[n]? = some o) : ∃ us, SqL g.K H1 (io n) us ∧ RDs g io1 h1.length H1 ds us := by
  have hn : n < hd.length := (List.getElem?_eq_some_iff.mp ho).1
  have e : list? h1 (.ref n) = some ds := by show h1[n]?.bind O.list? = some ds; rw [ho1]; exact hl
  obtain ⟨a, us, e2, hs, r2⟩ := R1.list? e (rd_ref.mpr ⟨Nat.lt_of_lt_of_le hn N.le, rfl⟩)
  cases e2
  rw [← N.agr n hn]
  exact ⟨us, hs, r2⟩
theorem iw_list {n : Nat} {o : O} {ds : List D} {a : Addr} {vs : List V} (R : RH g io hd H) (ho : hd[n]? = some o) (hl : o.list? = some ds) : IW g io hd H ds [(n, o)] (Itl g.K (io n)) := by
  have hlen : n < hd.length := (List.getElem?_eq_some_iff.mp ho).1
  have e : list? hd (.ref n) = some ds := by show hd[n]?.bind O.list? = some ds; rw [ho]; exact hl
  obtain ⟨a, vs, e2, hs, r⟩ := R.list? e (rd_ref.mpr ⟨hlen, rfl⟩)
  refine ⟨fun H1 => ∃ us, us.length = ds.length ∧ SqL g.K H1 (io n) us, fun i H1 x H2 => H2 = H1 ∧ ∀ us, SqL g.K H1 (io n) us → us[i]? = some x, ⟨fun i H1 hi ⟨us, h1, h2⟩ => ⟨us, us[i]'(by omega), h2, by simp [h1, hi]⟩, fun H1 ⟨us, h1, h2⟩ => ⟨us, h2, by omega⟩, fun i H1 x H2 hi _ y => y⟩, fun io1 h1 H1 N R1 hg => ?_, fun i io1 h1 H1 v H2 N R1 hg y => ?_⟩
  · obtain ⟨us, h2, h3⟩ := gd_sq R N R1 ho hl r (gd_at hg (by simp))
    exact ⟨us, h3.len.symm, h2⟩
  · obtain ⟨us, h2, h3⟩ := gd_sq R N R1 ho hl r (gd_at hg (by simp))
    obtain ⟨rfl, y⟩ := y
    obtain ⟨d, h4, h5⟩ := rds_at h3 (y us h2)
    exact ⟨d, h4, R1, .refl, h5⟩
theorem iw_tup {ds : List D} {a : Addr} {vs : List V} (hs : SqT g.K H a vs) (r : RDs g io hd.length H ds vs) : IW g io hd H ds [] (Itt g.K a) := by
  refine ⟨fun H1 => SqT g.K H1 a vs, YAt vs, by rw [r.len]; exact walk_tup, fun io1 h1 H1 N R1 hg => N.tup a vs hs, fun i io1 h1 H1 v H2 N R1 hg y => ?_⟩
  obtain ⟨rfl, y⟩ := y
  obtain ⟨d, h4, h5⟩ := rds_at (N.rds r) y
  exact ⟨d, h4, R1, .refl, h5⟩
theorem iw_str {s : Tx} (ok : OkT s) : IW g io hd H (s.map fun c => .str [c]) [] (Its (tS s)) := by
  have e : (tS s).cps.size = (s.map fun c => D.str [c]).length := by simp [tS]
  refine ⟨fun _ => True, _, by rw [← e]; exact walk_str, fun _ _ _ _ _ _ => trivial, fun i io1 h1 H1 v H2 N R1 hg y => ?_⟩
  obtain ⟨rfl, c, hc, rfl⟩ := y
  have hc' : s[i]? = some c := by simpa [tS] using hc
  exact ⟨.str [c], by simp [hc'], R1, .refl, rd_str.mpr ⟨rfl, okT_one ok (List.mem_of_getElem? hc')⟩⟩
theorem rngL_get : ∀ (n : Nat) (lo : Int) (i : Nat), i < n → (rngL lo n)[i]? = some (.int (lo + i))
  | n + 1, lo, 0, _ => by simp [rngL]
  | n + 1, lo, i + 1, h => by
    show (rngL (lo + 1) n)[i]? = _
    rw [rngL_get n (lo + 1) i (by omega)]
    congr 2
    omega
theorem rngL_len : ∀ (n : Nat) (lo : Int), (rngL lo n).length = n
  | 0, _ => rfl
  | n + 1, lo => by simp [rngL, rngL_len n]
theorem iw_rng {lo : Int} {n : Nat} : IW g io hd H (rngL lo n) [] (Itr lo n) := by
  refine ⟨fun _ => True, fun i H1 x H2 => i < n ∧ H2 = H1 ∧ x = .int (lo + i), ⟨fun i H1 hi _ => by rw [rngL_len] at hi; exact hi, fun _ _ => by show n ≤ _; rw [rngL_len]; exact Nat.le_refl _, fun i H1 x H2 hi _ y => ⟨by rw [rngL_len] at hi; exact hi, y⟩⟩, fun _ _ _ _ _ _ => trivial, fun i io1 h1 H1 v H2 N R1 hg y => ?_⟩
  obtain ⟨hi, rfl, rfl⟩ := y
  exact ⟨_, rngL_get n lo i hi, R1, .refl, rd_int.mpr rfl⟩
theorem enmL_get : ∀ (ds : List D) (k i : Nat) (d : D), ds[i]? = some d → (enmL k ds)[i]? = some (.tup [.int (k + i : Nat), d])
  | [], _, _, _, h => by simp at h
  | x :: ds, k, 0, d, h => by simp at h; subst h; simp [enmL]
  | x :: ds, k, i + 1, d, h => by
    show (enmL (k + 1) ds)[i]? = _
    rw [enmL_get ds (k + 1) i d (by simpa using h), show k + 1 + i = k + (i + 1) by omega]
theorem enmL_len : ∀ (ds : List D) (k : Nat), (enmL k ds).length = ds.length
  | [], _ => rfl
  | x :: ds, k => by simp [enmL, enmL_len ds]
/-- a new pair is laid -/
theorem pair_laid {io1 : Nat → Addr} {h1 : Hd} {H1 : Hp} {T : Addr} {x y : V} {d e : D} (R1 : RH g io1 h1 H1) (hT : H1 T = none) (r1 : RD g io1 h1.length H1 d x) (r2 : RD g io1 h1.length H1 e y) :
    RH g io1 h1 (upd H1 T (.tup [x, y])) ∧ Nxt g io1 h1 H1 io1 h1 (upd H1 T (.tup [x, y])) ∧ RD g io1 h1.length (upd H1 T (.tup [x, y])) (.tup [d, e]) (.ref T) := by
  obtain ⟨R2, N2⟩ := step_tup (vs := [x, y]) R1 hT
  exact ⟨R2, N2, rd_tup.mpr ⟨T, [x, y], rfl, SqT.of upd_same, N2.rds (.cons r1 (.one r2))⟩⟩
theorem iw_enm {n : Nat} {o : O} {ds : List D} (R : RH g io hd H) (ho : hd[n]? = some o) (hl : o.list? = some ds) : IW g io hd H (enmL 0 ds) [(n, o)] (Ite g.K (io n)) := by
  have hlen : n < hd.length := (List.getElem?_eq_some_iff.mp ho).1
  have e : list? hd (.ref n) = some ds := by show hd[n]?.bind O.list? = some ds; rw [ho]; exact hl
  obtain ⟨a, vs, e2, hs, r⟩ := R.list? e (rd_ref.mpr ⟨hlen, rfl⟩)
  refine ⟨fun H1 => ∃ us, us.length = ds.length ∧ SqL g.K H1 (io n) us, fun i H1 v H2 => ∃ T x, v = .ref T ∧ H1 T = none ∧ H2 = upd H1 T (.tup [.int (i : Nat), x]) ∧ ∀ us, SqL g.K H1 (io n) us → us[i]? = some x,
    ⟨fun i H1 hi ⟨us, h1, h2⟩ => ?_, fun H1 ⟨us, h1, h2⟩ => ⟨us, h2, by rw [enmL_len]; omega⟩, fun i H1 x H2 hi _ y => y⟩, fun io1 h1 H1 N R1 hg => ?_, fun i io1 h1 H1 v H2 N R1 hg y => ?_⟩
  · rw [enmL_len] at hi
    exact ⟨us, us[i]'(by omega), h2, by simp [h1, hi]⟩
  · obtain ⟨us, h2, h3⟩ := gd_sq R N R1 ho hl r (gd_at hg (by simp))
    exact ⟨us, h3.len.symm, h2⟩
  · obtain ⟨us, h2, h3⟩ := gd_sq R N R1 ho hl r (gd_at hg (by simp))
    obtain ⟨T, x, rfl, hT, rfl, y⟩ := y
    obtain ⟨d, h4, h5⟩ := rds_at h3 (y us h2)
    obtain ⟨a1, a2, a3⟩ := pair_laid (d := .int (i : Nat)) R1 hT (rd_int.mpr rfl) h5
    refine ⟨.tup [.int (i : Nat), d], ?_, a1, a2, a3⟩
    have z := enmL_get ds 0 i d h4
    rw [Nat.zero_add] at z
    exact z
theorem zipL_get : ∀ (ds es : List D) (i : Nat) (d e : D), ds[i]? = some d → es[i]? = some e → (zipL ds es)[i]? = some (.tup [d, e])
  | [], _, _, _, _, h, _ => by simp at h
  | _ :: _, [], _, _, _, _, h => by simp at h
  | x :: ds, y :: es, 0, d, e, h1, h2 => by simp at h1 h2; subst h1 h2; simp [zipL]
  | x :: ds, y :: es, i + 1, d, e, h1, h2 => by
    show (zipL ds es)[i]? = _
    exact zipL_get ds es i d e (by simpa using h1) (by simpa using h2)
theorem zipL_len : ∀ (ds es : List D), (zipL ds es).length = min ds.length es.length
  | [], _ => by simp [zipL]
  | _ :: _, [] => by simp [zipL]
  | x :: ds, y :: es => by simp [zipL, zipL_len ds es]
theorem iw_zip {n m : Nat} {o o' : O} {ds es : List D} (R : RH g io hd H) (ho : hd[n]? = some o) (hl : o.list? = some ds) (ho' : hd[m]? = some o') (hl' : o'.list? = some es) : IW g io hd H (zipL ds es) [(n, o), (m, o')] (Itz g.K (io n) (io m)) := by
  have hlen : n < hd.length := (List.getElem?_eq_some_iff.mp ho).1
  have hlen' : m < hd.length := (List.getElem?_eq_some_iff.mp ho').1
  have e : list? hd (.ref n) = some ds := by show hd[n]?.bind O.list? = some ds; rw [ho]; exact hl
  have e' : list? hd (.ref m) = some es := by show hd[m]?.bind O.list? = some es; rw [ho']; exact hl'
  obtain ⟨a, vs, e2, hs, r⟩ := R.list? e (rd_ref.mpr ⟨hlen, rfl⟩)
  obtain ⟨b, ws, e3, hs', r'⟩ := R.list? e' (rd_ref.mpr ⟨hlen', rfl⟩)
  refine ⟨fun H1 => (∃ us, us.length = ds.length ∧ SqL g.K H1 (io n) us) ∧ ∃ us, us.length = es.length ∧ SqL g.K H1 (io m) us, fun i H1 v H2 => ∃ T x y, v = .ref T ∧ H1 T = none ∧ H2 = upd H1 T (.tup [x, y]) ∧ (∀ us, SqL g.K H1 (io n) us → us[i]? = some x) ∧ ∀ us, SqL g.K H1 (io m) us → us[i]? = some y,
    ⟨fun i H1 hi ⟨⟨us, h1, h2⟩, us', h1', h2'⟩ => ?_, fun H1 ⟨⟨us, h1, h2⟩, us', h1', h2'⟩ => ⟨us, us', h2, h2', by rw [zipL_len]; omega⟩, fun i H1 x H2 hi _ y => y⟩, fun io1 h1 H1 N R1 hg => ?_, fun i io1 h1 H1 v H2 N R1 hg y => ?_⟩
  · rw [zipL_len] at hi
    exact ⟨us, us', us[i]'(by omega), us'[i]'(by omega), h2, h2', by simp [show i < us.length by omega], by simp [show i < us'.length by omega]⟩
  · obtain ⟨us, h2, h3⟩ := gd_sq R N R1 ho hl r (gd_at hg (by simp))
    obtain ⟨us', h2', h3'⟩ := gd_sq R N R1 ho' hl' r' (gd_at hg (by simp))
    exact ⟨⟨us, h3.len.symm, h2⟩, us', h3'.len.symm, h2'⟩
  · obtain ⟨us, h2, h3⟩ := gd_sq R N R1 ho hl r (gd_at hg (by simp))
    obtain ⟨us', h2', h3'⟩ := gd_sq R N R1 ho' hl' r' (gd_at hg (by simp))
    obtain ⟨T, x, z, rfl, hT, rfl, y, y'⟩ := y
    obtain ⟨d, h4, h5⟩ := rds_at h3 (y us h2)
    obtain ⟨d', h4', h5'⟩ := rds_at h3' (y' us' h2')
    obtain ⟨a1, a2, a3⟩ := pair_laid R1 hT h5 h5'
    exact ⟨.tup [d, d'], zipL_get ds es i d d' h4 h4', a1, a2, a3⟩
theorem iw_zipT {ds es : List D} {a b : Addr} {vs ws : List V} (hs : SqT g.K H a vs) (r : RDs g io hd.length H ds vs) (hs' : SqT g.K H b ws) (r' : RDs g io hd.length H es ws) : IW g io hd H (zipL ds es) [] (RZ.ItzT g.K a b) := by
  have h1 := r.len
  have h2 := r'.len
  refine ⟨fun H1 => SqT g.K H1 a vs ∧ SqT g.K H1 b ws, fun i H1 v H2 => ∃ T x y, v = .ref T ∧ H1 T = none ∧ H2 = upd H1 T (.tup [x, y]) ∧ (∀ us, SqT g.K H1 a us → us[i]? = some x) ∧ ∀ us, SqT g.K H1 b us → us[i]? = some y,
    ⟨fun i H1 hi ⟨q1, q2⟩ => ?_, fun H1 ⟨q1, q2⟩ => ⟨vs, ws, q1, q2, by rw [zipL_len]; omega⟩, fun i H1 x H2 hi _ y => y⟩, fun io1 h1 H1 N R1 hg => ⟨N.tup a vs hs, N.tup b ws hs'⟩, fun i io1 h1 H1 v H2 N R1 hg y => ?_⟩
  · rw [zipL_len] at hi
    exact ⟨vs, ws, vs[i]'(by omega), ws[i]'(by omega), q1, q2, by simp [show i < vs.length by omega], by simp [show i < ws.length by omega]⟩
  · obtain ⟨T, x, z, rfl, hT, rfl, y, y'⟩ := y
    obtain ⟨d, h4, h5⟩ := rds_at (N.rds r) (y vs (N.tup a vs hs))
    obtain ⟨d', h4', h5'⟩ := rds_at (N.rds r') (y' ws (N.tup b ws hs'))
    obtain ⟨a1, a2, a3⟩ := pair_laid R1 hT h5 h5'
    exact ⟨.tup [d, d'], zipL_get ds es i d d' h4 h4', a1, a2, a3⟩
theorem iw_rev {n : Nat} {o : O} {ds : List D} (R : RH g io hd H) (ho : hd[n]? = some o) (hl : o.list? = some ds) : IW g io hd H ds.reverse [(n, o)] (Itv g.K (io n) ds.length) := by
  have hlen : n < hd.length := (List.getElem?_eq_some_iff.mp ho).1
  have e : list? hd (.ref n) = some ds := by show hd[n]?.bind O.list? = some ds; rw [ho]; exact hl
  obtain ⟨a, vs, e2, hs, r⟩ := R.list? e (rd_ref.mpr ⟨hlen, rfl⟩)
  refine ⟨fun H1 => ∃ us, us.length = ds.length ∧ SqL g.K H1 (io n) us, fun i H1 x H2 => i < ds.length ∧ H2 = H1 ∧ ∀ us, SqL g.K H1 (io n) us → us[ds.length - 1 - i]? = some x,
    ⟨fun i H1 hi ⟨us, h1, h2⟩ => ?_, fun H1 _ => by show ds.length ≤ _; rw [List.length_reverse]; exact Nat.le_refl _, fun i H1 x H2 hi _ y => ⟨by rw [List.length_reverse] at hi; exact hi, y⟩⟩, fun io1 h1 H1 N R1 hg => ?_, fun i io1 h1 H1 v H2 N R1 hg y => ?_⟩
  · rw [List.length_reverse] at hi
    exact ⟨hi, us, us[ds.length - 1 - i]'(by omega), h2, by simp [show ds.length - 1 - i < us.length by omega]⟩
  · obtain ⟨us, h2, h3⟩ := gd_sq R N R1 ho hl r (gd_at hg (by simp))
    exact ⟨us, h3.len.symm, h2⟩
  · obtain ⟨us, h2, h3⟩ := gd_sq R N R1 ho hl r (gd_at hg (by simp))
    obtain ⟨hi, rfl, y⟩ := y
    obtain ⟨d, h4, h5⟩ := rds_at h3 (y us h2)
    exact ⟨d, by rw [List.getElem?_reverse hi]; exact h4, R1, .refl, h5⟩
theorem iw_revT {ds : List D} {a : Addr} {vs : List V} (hs : SqT g.K H a vs) (r : RDs g io hd.length H ds vs) : IW g io hd H ds.reverse [] (RT.ItvT g.K a ds.length) := by
  have h1 := r.len
  refine ⟨fun H1 => SqT g.K H1 a vs, fun i H1 x H2 => i < ds.length ∧ H2 = H1 ∧ ∀ us, SqT g.K H1 a us → us[ds.length - 1 - i]? = some x,
    ⟨fun i H1 hi q => ?_, fun H1 _ => by show ds.length ≤ _; rw [List.length_reverse]; exact Nat.le_refl _, fun i H1 x H2 hi _ y => ⟨by rw [List.length_reverse] at hi; exact hi, y⟩⟩, fun io1 h1 H1 N R1 hg => N.tup a vs hs, fun i io1 h1 H1 v H2 N R1 hg y => ?_⟩
  · rw [List.length_reverse] at hi
    exact ⟨hi, vs, vs[ds.length - 1 - i]'(by omega), q, by simp [show ds.length - 1 - i < vs.length by omega]⟩
  · obtain ⟨hi, rfl, y⟩ := y
    obtain ⟨d, h4, h5⟩ := rds_at (N.rds r) (y vs (N.tup a vs hs))
    exact ⟨d, by rw [List.getElem?_reverse hi]; exact h4, R1, .refl, h5⟩
end
end U
end

section
set_option maxRecDepth 100000
set_option maxHeartbeats 1000000
/-! The translation of expressions and targets, and that it is right. -/
namespace U
open PySem L2

/-! ### targets -/
def trTg (ns : List Str) (ok : Str → Bool) : Nat → Expr → Option Tg
  | 0, _ => none
  | n + 1, e => match e with
    | .Name x _ => if ok x then (ixOf ns x).map .nm else none
    | .Tuple es _ _ => if (es.all fun e => !isStar e) then (mapO (trTg ns ok n) es).map .tp else none
    | _ => none
mutual
def Tg.sl : Tg → List Nat
  | .nm i => [i]
  | .tp ts => Tg.sls ts
def Tg.sls : List Tg → List Nat
  | [] => []
  | t :: ts => Tg.sl t ++ Tg.sls ts
end
/-- nothing but these slots is new -/
def Chg (vs : List Nat) (σ σ' : L2.St) : Prop := σ'.length = σ.length ∧ ∀ j, j ∉ vs → σ'[j]? = σ[j]?
theorem Chg.refl {vs : List Nat} {σ : L2.St} : Chg vs σ σ := ⟨rfl, fun _ _ => rfl⟩
theorem Chg.app {vs ws : List Nat} {σ σ' σ2 : L2.St} (a : Chg vs σ σ') (b : Chg ws σ' σ2) : Chg (vs ++ ws) σ σ2 := ⟨b.1.trans a.1, fun j h => by
  rw [List.mem_append, not_or] at h
  exact (b.2 j h.2).trans (a.2 j h.1)⟩
theorem Chg.set {i : Nat} {σ : L2.St} {v : Option V} : Chg [i] σ (σ.set i v) := ⟨by simp, fun j h => by
  rw [List.mem_singleton] at h
  exact List.getElem?_set_ne (Ne.symm h)⟩
theorem wipe_get (σ : L2.St) (j : Nat) : ∀ vs : List Nat, (L2.wipe σ vs)[j]? = if j ∈ vs then (if j < σ.length then some none else none) else σ[j]?
  | [] => by simp [L2.wipe]
  | v :: vs => by
    unfold L2.wipe
    by_cases h : v = j
    · subst h
      by_cases hl : v < σ.length
      · rw [List.getElem?_set_self (by rw [L2.wipe_length]; exact hl)]; simp [hl]
      · rw [List.getElem?_eq_none (by rw [List.length_set, L2.wipe_length]; omega)]; simp [hl]
    · rw [List.getElem?_set_ne h, wipe_get σ j vs]
      have h' : ¬ j = v := fun e => h e.symm
      simp [h']
theorem Chg.wipe {ws vs : List Nat} {σ σ2 : L2.St} (c : Chg ws (L2.wipe σ vs) σ2) (h : ∀ j ∈ ws, j ∈ vs) : L2.wipe σ2 vs = L2.wipe σ vs := by
  have hl : σ2.length = σ.length := c.1.trans (L2.wipe_length σ vs)
  refine List.ext_getElem? fun j => ?_
  rw [wipe_get, wipe_get, hl]
  by_cases hj : j ∈ vs
  · simp [hj]
  · rw [if_neg hj, if_neg hj, c.2 j fun z => hj (h j z), wipe_get, if_neg hj]
section
variable {g : Wd}
def rdG (g : Wd) (t : Tg) : TG := fun v σ H Q => ∃ io hd sd d sd', RH g io hd H ∧ RS g io hd.length H sd σ ∧ RD g io hd.length H d v ∧ asg t d sd = some sd' ∧ ∀ σ', RS g io hd.length H sd' σ' → Chg t.sl σ σ' → Q σ' H
def rdGs (g : Wd) (ts : List Tg) : TGs := fun vs σ H Q => ∃ io hd sd ds sd', RH g io hd H ∧ RS g io hd.length H sd σ ∧ RDs g io hd.length H ds vs ∧ asgs ts ds sd = some sd' ∧ ∀ σ', RS g io hd.length H sd' σ' → Chg (Tg.sls ts) σ σ' → Q σ' H
theorem PG.imp {X : Cx} {e : Expr} {t t' : TG} (h : PG X e t) (k : ∀ v σ H Q, t' v σ H Q → t v σ H Q) : PG X e t' := ⟨fun pins s σ H v u Q I r q => h.run pins s σ H v u Q I r (k _ _ _ _ q)⟩
theorem PGs.imp {X : Cx} {e : List Expr} {t t' : TGs} (h : PGs X e t) (k : ∀ v σ H Q, t' v σ H Q → t v σ H Q) : PGs X e t' := ⟨fun pins s σ H v u Q I r q => h.run pins s σ H v u Q I r (k _ _ _ _ q)⟩
theorem RS.set {io : Nat → Addr} {L : Nat} {H : Hp} {sd : St} {σ : L2.St} {d : D} {v : V} (i : Nat) (S : RS g io L H sd σ) (r : RD g io L H d v) : RS g io L H (sd.set i (some d)) (σ.set i (some v)) := by
  refine ⟨by simp [S.1], fun j e h => ?_⟩
  by_cases hj : i = j
  · subst hj
    by_cases hl : i < sd.length
    · rw [List.getElem?_set_self hl] at h
      cases h
      exact ⟨v, by rw [List.getElem?_set_self (by rw [← S.1]; exact hl)], r⟩
    · rw [List.getElem?_eq_none (by simpa using hl)] at h
      cases h
  · rw [List.getElem?_set_ne hj] at h
    obtain ⟨w, h1, h2⟩ := S.2 j e h
    exact ⟨w, by rw [List.getElem?_set_ne hj]; exact h1, h2⟩
theorem RS.unset {io : Nat → Addr} {L : Nat} {H : Hp} {sd : St} {σ : L2.St} (i : Nat) (S : RS g io L H sd σ) : RS g io L H (sd.set i none) (σ.set i none) := by
  refine ⟨by simp [S.1], fun j e h => ?_⟩
  by_cases hj : i = j
  · subst hj
    by_cases hl : i < sd.length
    · rw [List.getElem?_set_self hl] at h
      cases h
    · rw [List.getElem?_eq_none (by simpa using hl)] at h
      cases h
  · rw [List.getElem?_set_ne hj] at h
    obtain ⟨w, h1, h2⟩ := S.2 j e h
    exact ⟨w, by rw [List.getElem?_set_ne hj]; exact h1, h2⟩
theorem RS.wipe {io : Nat → Addr} {L : Nat} {H : Hp} {sd : St} {σ : L2.St} (S : RS g io L H sd σ) : ∀ vs, RS g io L H (wp sd vs) (L2.wipe σ vs)
  | [] => S
  | v :: vs => RS.unset v (RS.wipe S vs)
theorem assign_cons {e : Expr} {es : List Expr} {env : Env} (h : isStar e = false) : assignEach (e :: es) env = (false, assign e env) :: assignEach es env := by
  cases e <;> first | rfl | cases h
theorem assign_len {env : Env} : ∀ {es : List Expr}, (es.all fun e => !isStar e) = true → (assignEach es env).length = es.length ∧ (assignEach es env).findIdx? (·.1) = none
  | [], _ => ⟨rfl, rfl⟩
  | e :: es, h => by
    rw [List.all_cons, Bool.and_eq_true] at h
    obtain ⟨h1, h2⟩ := assign_len (env := env) h.2
    rw [assign_cons (by simpa using h.1)]
    refine ⟨by simp [h1], ?_⟩
    rw [List.findIdx?_cons, h2]
    rfl
theorem mapO_len {α β : Type} {f : α → Option β} : ∀ {as : List α} {bs : List β}, mapO f as = some bs → as.length = bs.length
  | [], bs, h => by simp [mapO] at h; subst h; rfl
  | a :: r, bs, h => by
    unfold mapO at h
    cases e : f a with
    | none => rw [e] at h; cases h
    | some x =>
      rw [e] at h
      cases e2 : mapO f r with
      | none => rw [e2] at h; cases h
      | some xs => rw [e2] at h; cases h; simp [mapO_len e2]
theorem asgs_len : ∀ {ts : List Tg} {ds : List D} {sd sd' : St}, asgs ts ds sd = some sd' → ts.length = ds.length
  | [], [], _, _, _ => rfl
  | [], _ :: _, _, _, h => by cases h
  | _ :: _, [], _, _, h => by cases h
  | t :: ts, d :: ds, sd, sd', h => by
    unfold asgs at h
    obtain ⟨s1, _, h2⟩ := Option.bind_eq_some_iff.mp h
    simp [asgs_len h2]
theorem trTgs_ok {X : Cx} {ns : List Str} {f : Expr → Option Tg} (ih : ∀ e t, f e = some t → PG X e (rdG g t)) : ∀ {es : List Expr} {ts : List Tg}, mapO f es = some ts → (es.all fun e => !isStar e) = true → PGs X es (rdGs g ts)
  | [], ts, h, _ => by
    simp [mapO] at h
    subst h
    refine PGs.imp pgs_nil fun vs σ H Q ⟨io, hd, sd, ds, sd', R, S, r, e, k⟩ => ?_
    cases ds with
    | nil => cases e; exact ⟨r.nil_inv, k σ S .refl⟩
    | cons _ _ => cases e
  | e :: es, ts, h, hs => by
    unfold mapO at h
    cases e1 : f e with
    | none => rw [e1] at h; cases h
    | some t =>
      rw [e1] at h
      cases e2 : mapO f es with
      | none => rw [e2] at h; cases h
      | some ts' =>
        rw [e2] at h
        cases h
        rw [List.all_cons, Bool.and_eq_true] at hs
        refine PGs.imp (pgs_cons (ih e t e1) (trTgs_ok (ns := ns) ih e2 hs.2) (by rw [assign_cons (by simpa using hs.1)]; rfl)) fun vs σ H Q ⟨io, hd, sd, ds, sd', R, S, r, e, k⟩ => ?_
        cases ds with
        | nil => cases e
        | cons d ds =>
          obtain ⟨v, us, rfl, r1, r2⟩ := r.cons_inv
          obtain ⟨s1, h1, h2⟩ := Option.bind_eq_some_iff.mp (show (asg t d sd).bind (fun σ' => asgs ts' ds σ') = some sd' from e)
          exact ⟨v, us, rfl, io, hd, sd, d, s1, R, S, r1, h1, fun σ' S' C' => ⟨io, hd, s1, ds, sd', R, S', r2, h2, fun σ2 S2 C2 => k σ2 S2 (by rw [Tg.sls]; exact C'.app C2)⟩⟩
theorem trTg_ok {X : Cx} {ns : List Str} {ok : Str → Bool} (eK : X.K = g.K) (hc : X.calm = true) (hN : X.N = ns) (nd : X.N.Nodup) (hok : ∀ x, ok x = true → Loc X.env.scope x ∧ (X.fn x = true ∨ X.env.scope.names.lookup x = some .local)) :
    ∀ (n : Nat) (e : Expr) (t : Tg), trTg ns ok n e = some t → PG X e (rdG g t)
  | 0, _, _, h => by cases h
  | n + 1, e, t, h => by
    unfold trTg at h
    cases e with
    | Name x p =>
      dsimp only at h
      split at h
      · rename_i hx
        obtain ⟨i, h1, rfl⟩ := Option.map_eq_some_iff.mp h
        obtain ⟨l1, l2⟩ := hok x hx
        refine PG.imp (pg_name (i := i) nd (by rw [hN]; exact ixOf_ok h1) l1 l2) fun v σ H Q ⟨io, hd, sd, d, sd', R, S, r, e, k⟩ => ?_
        have e : (if i < sd.length then some (sd.set i (some d)) else none) = some sd' := e
        split at e
        · cases e; exact k _ (S.set i r) (by rw [Tg.sl]; exact .set)
        · cases e
      · cases h
    | Tuple es kk p =>
      dsimp only at h
      split at h
      · rename_i hs
        obtain ⟨ts, h1, rfl⟩ := Option.map_eq_some_iff.mp h
        obtain ⟨a1, a2⟩ := assign_len (env := X.env) hs
        refine PG.imp (pg_tup (n := es.length) hc (trTgs_ok (ns := ns) (fun e t => trTg_ok eK hc hN nd hok n e t) h1 hs) a1 a2) fun v σ H Q ⟨io, hd, sd, d, sd', R, S, r, e, k⟩ => ?_
        cases d with
        | tup ds =>
          obtain ⟨a, us, rfl, q, r2⟩ := rd_tup.mp r
          have e : asgs ts ds sd = some sd' := e
          exact ⟨a, us, rfl, by rw [eK]; exact q, by rw [← r2.len, ← asgs_len e, mapO_len h1], io, hd, sd, ds, sd', R, S, r2, e, fun σ' S' C' => k σ' S' (by rw [Tg.sl]; exact C')⟩
        | _ => cases e
      · cases h
    | _ => cases h
end

/-! ### loose lists: a comprehension's, while it grows -/
section
variable {g : Wd} {io : Nat → Addr} {hd : Hd} {H : Hp}
theorem step_loose {p : Addr} {u : HO} (R : RH g io hd H) (hp : H p = none ∨ ∃ u, Lo u ∧ H p = some u) (hn : ¬ Ours hd io p) :
    RH g io hd (upd H p u) ∧ ∀ a vs, SqT g.K H a vs → SqT g.K (upd H p u) a vs := by
  have kt : ∀ a vs, SqT g.K H a vs → SqT g.K (upd H p u) a vs := by
    refine tup_upd ?_
    rcases hp with h | ⟨xs, ⟨_, rfl⟩ | ⟨_, rfl⟩, h⟩
    · exact rd_none h
    · exact rd_of h (fun _ z => nomatch z) fun _ _ z => nomatch z
    · exact rd_of h (fun _ z => nomatch z) fun _ _ z => nomatch z
  refine ⟨⟨R.inj, fun i o e => ?_⟩, kt⟩
  cases hm : o.mut with
  | true =>
    have ne : io i ≠ p := fun z => hn ⟨i, o, e, hm, z⟩
    exact (R.obj i o e).mono_ne (Nat.le_refl _) (fun _ _ => rfl) kt fun w hw => by rw [upd_ne ne]; exact hw
  | false =>
    cases o with
    | flst ds =>
      refine RO.mono_f (Nat.le_refl _) (fun _ _ => rfl) kt (fun ob w hw => ?_) (R.obj i _ e)
      have ne : io i ≠ p := fun z => by
        rw [z] at hw
        rcases hp with h | ⟨xs, ⟨_, rfl⟩ | ⟨_, rfl⟩, h⟩ <;> rw [h] at hw <;> cases hw
      rw [upd_ne ne]; exact hw
    | _ => cases hm
theorem not_ours {p : Addr} (R : RH g io hd H) (hp : H p = none) : ¬ Ours hd io p := fun ⟨i, o, e, m, z⟩ => by
  obtain ⟨w, hw, _⟩ := (R.obj i o e).there m
  rw [z, hp] at hw
  cases hw
end
end U
end

section
set_option maxRecDepth 100000
set_option maxHeartbeats 1000000
/-! Expressions, form by form: the small machine's step is what the layer's rule asks. -/
namespace U
open PySem L2

section
variable {g : Wd} {W : WX} {T : Tab} {F : Nat → List D → M D} {X : Cx} {ns : List Str}
variable {a b c e : Expr} {es : List Expr} {ca cb cc ce : CE} {ces : CEs} {p pos : Pos}
abbrev rE (g : Wd) (W : WX) (T : Tab) (F : Nat → List D → M D) (c : CE) : TE := rdE g W (evE T F c)
abbrev rT (g : Wd) (W : WX) (T : Tab) (F : Nat → List D → M D) (c : CT) : TT := rdT g W (evT T F c)
abbrev rA (g : Wd) (W : WX) (T : Tab) (F : Nat → List D → M D) (c : CEs) : TA := rdA g W (evEs T F c)
theorem x_var {x : Str} {i : Nat} (hN : X.N = ns) (h : okName x = true) (hv : vis X.env.scope x = true) (hi : ixOf ns x = some i) : PE X (.Name x p) (rE g W T F (.var i)) := by
  refine PE.imp (pe_var (by rw [hN]; exact ixOf_ok hi) (vis_ok hv) (okName_ok h).1 (okName_ok h).2.1) fun σ H Q ⟨io, hd, sd, R, S, q⟩ => ?_
  have q : PostE (lft (sd[i]?.bind id) hd) (PQ g io hd H Q) (PX g W io hd H σ) := q
  cases e : sd[i]? with
  | none => rw [e] at q; exact q.elim
  | some o =>
    cases o with
    | none => rw [e] at q; exact q.elim
    | some d =>
      rw [e] at q
      obtain ⟨v, e2, r⟩ := S.2 i d e
      exact ⟨v, e2, PQ.val R q r⟩
theorem x_cst {d : D} {v : V} (h : PE X e (tC v)) (r : ∀ io L H, RD g io L H d v) : PE X e (rE g W T F (.cst d)) :=
  PE.imp h fun σ H Q ⟨io, hd, sd, R, S, q⟩ => PQ.val R (show PQ g io hd H Q d hd from q) (r _ _ _)
theorem x_bin {o : Operator} {o' : BOp} (eK : X.K = g.K) (h : trOp o = some o') (ha : PE X a (rE g W T F ca)) (hb : PE X b (rE g W T F cb)) : PE X (.BinOp a o b pos) (rE g W T F (.bin o' ca cb)) := by
  obtain ⟨r, ho, hr⟩ := bin_ok eK o'
  rw [trOp_ok h] at ho
  refine PE.imp (pe_op ho ha hb) fun σ H Q ⟨io, hd, sd, R, S, q⟩ => ?_
  refine rdE.then_ R S q fun x h1 io1 H1 vx n1 R1 S1 rx q1 => ?_
  refine rdE.then_ R1 S1 (q1.onQ n1) fun y h2 io2 H2 vy n2 R2 S2 ry q2 => ?_
  exact hr io2 h2 H2 x y vx vy Q _ R2 (n2.rd rx) ry (q2.onQ n2)
theorem x_neg (ha : PE X a (rE g W T F ca)) : PE X (.UnaryOp .USub a pos) (rE g W T F (.neg ca)) := by
  refine PE.imp (pe_un un_neg ha) fun σ H Q ⟨io, hd, sd, R, S, q⟩ => ?_
  refine rdE.then_ R S q fun x h1 io1 H1 vx n1 R1 S1 rx q1 => ?_
  cases x with
  | int i => exact ⟨i, rd_int.mp rx, PQ.val R1 (PQ.tr n1 q1) (rd_int.mpr rfl)⟩
  | _ => exact q1.elim
theorem x_not (ha : PE X a (rE g W T F ca)) : PE X (.UnaryOp .Not a pos) (rE g W T F (.not ca)) := by
  refine PE.imp (pe_not ha) fun σ H Q ⟨io, hd, sd, R, S, q⟩ => ?_
  refine rdE.then_ R S q fun x h1 io1 H1 vx n1 R1 S1 rx q1 => ?_
  cases x with
  | bl k => exact ⟨k, rd_bl.mp rx, PQ.val R1 (PQ.tr n1 q1) (rd_bl.mpr rfl)⟩
  | _ => exact q1.elim
theorem x_and {rest : List Expr} (ha : PE X a (rE g W T F ca)) (hb : PE X (.BoolOp .And (b :: rest) pos) (rE g W T F cb)) : PE X (.BoolOp .And (a :: b :: rest) pos) (rE g W T F (.and ca cb)) := by
  refine PE.imp (pe_and ha hb) fun σ H Q ⟨io, hd, sd, R, S, q⟩ => ?_
  refine rdE.then_ R S q fun x h1 io1 H1 vx n1 R1 S1 rx q1 => ?_
  cases x with
  | bl k =>
    cases k with
    | true =>
      refine ⟨true, rd_bl.mp rx, ?_⟩
      rw [if_pos rfl]
      exact ⟨io1, h1, sd, R1, S1, q1.onQ n1⟩
    | false =>
      refine ⟨false, rd_bl.mp rx, ?_⟩
      rw [if_neg (by decide)]
      exact PQ.val R1 (PQ.tr n1 q1) (rd_bl.mpr rfl)
  | _ => exact q1.elim
theorem x_or {rest : List Expr} (ha : PE X a (rE g W T F ca)) (hb : PE X (.BoolOp .Or (b :: rest) pos) (rE g W T F cb)) : PE X (.BoolOp .Or (a :: b :: rest) pos) (rE g W T F (.or ca cb)) := by
  refine PE.imp (pe_or ha hb) fun σ H Q ⟨io, hd, sd, R, S, q⟩ => ?_
  refine rdE.then_ R S q fun x h1 io1 H1 vx n1 R1 S1 rx q1 => ?_
  cases x with
  | bl k =>
    cases k with
    | false =>
      refine ⟨false, rd_bl.mp rx, ?_⟩
      rw [if_neg (by decide)]
      exact ⟨io1, h1, sd, R1, S1, q1.onQ n1⟩
    | true =>
      refine ⟨true, rd_bl.mp rx, ?_⟩
      rw [if_pos rfl]
      exact PQ.val R1 (PQ.tr n1 q1) (rd_bl.mpr rfl)
  | _ => exact q1.elim
theorem x_ite {ct : CT} (hc : PT X c (rT g W T F ct)) (ha : PE X a (rE g W T F ca)) (hb : PE X b (rE g W T F cb)) : PE X (.IfExp c a b pos) (rE g W T F (.ite ct ca cb)) := by
  refine PE.imp (pe_ifExp hc ha hb) fun σ H Q ⟨io, hd, sd, R, S, q⟩ => ?_
  refine rdT.then_ R S q fun k h1 io1 H1 n1 R1 S1 q1 => ?_
  cases k with
  | true => rw [if_pos rfl]; exact ⟨io1, h1, sd, R1, S1, q1.onQ n1⟩
  | false => rw [if_neg (by decide)]; exact ⟨io1, h1, sd, R1, S1, q1.onQ n1⟩
theorem x_cmp {o : CmpOp} (eK : X.K = g.K) (hu : X.A.units + 65 < cLine) (ha : PE X a (rE g W T F ca)) (hb : PE X b (rE g W T F cb)) (hm : behindInMarks o b = false) : PE X (.Compare a [o] [b] pos) (rE g W T F (.cmp (trCmp o) ca cb)) := by
  obtain ⟨r, ho, hr⟩ := cmp_ok eK hu (trCmp o)
  rw [trCmp_ok] at ho
  refine PE.imp (pe_cmpR ho ha hb hm) fun σ H Q ⟨io, hd, sd, R, S, q⟩ => ?_
  refine rdE.then_ R S q fun x h1 io1 H1 vx n1 R1 S1 rx q1 => ?_
  refine rdE.then_ R1 S1 (q1.onQ n1) fun y h2 io2 H2 vy n2 R2 S2 ry q2 => ?_
  exact hr io2 h2 H2 x y vx vy Q _ R2 (n2.rd rx) ry (q2.onQ n2)
/-- nothing raised -/
def ner {α : Type} : Rs α → Prop
  | .er _ _ => False
  | _ => True
theorem ner_bnd {α β : Type} {m : M α} {f : α → M β} {h : Hd} (h1 : ner (m h)) (h2 : ∀ a h', ner (f a h')) : ner (bnd m f h) := by
  simp only [bnd_app]
  cases e : m h with
  | ok a h' => exact h2 a h'
  | er _ _ => rw [e] at h1; exact h1
  | no => trivial
theorem ner_lft {α : Type} (o : Option α) (h : Hd) : ner (lft o h) := by cases o <;> trivial
theorem ner_must (b : Bool) (h : Hd) : ner (must b h) := by cases b <;> trivial
theorem ner_data (x : D) (h : Hd) : ner (dataE x h) := ner_lft _ _
theorem ner_eq (x y : D) (h : Hd) : ner (eqE x y h) := ner_bnd (ner_data _ _) fun _ _ => ner_bnd (ner_data _ _) fun _ _ => trivial
theorem ner_in (x y : D) (h : Hd) : ner (inE x y h) := by
  unfold inE
  cases y with
  | str s =>
    dsimp only
    split <;> trivial
  | ref n =>
    dsimp only
    split
    · exact ner_bnd (ner_must _ _) fun _ _ => trivial
    · exact ner_bnd (ner_data _ _) fun _ _ => ner_bnd (ner_data _ _) fun q _ => by cases q <;> trivial
  | tup ds => exact ner_bnd (ner_data _ _) fun _ _ => ner_bnd (ner_data _ _) fun q _ => by cases q <;> trivial
  | _ => trivial
/-- a comparison tells a truth -/
def isBl : Rs D → Prop
  | .ok v _ => ∃ k, v = .bl k
  | .er _ _ => False
  | .no => True
theorem isBl_bnd {α : Type} {m : M α} {f : α → Bool} {h : Hd} (hm : ner (m h)) : isBl (bnd m (fun a => ret (.bl (f a))) h) := by
  simp only [bnd_app]
  cases e : m h with
  | ok a h' => exact ⟨_, rfl⟩
  | er _ _ => rw [e] at hm; exact hm
  | no => trivial
theorem cmpE_bl (o : COp) (x y : D) (h : Hd) : isBl (cmpE o x y h) := by
  cases o with
  | eq => exact isBl_bnd (ner_eq x y h)
  | ne => exact isBl_bnd (ner_eq x y h)
  | in_ => exact isBl_bnd (ner_in x y h)
  | nin => exact isBl_bnd (ner_in x y h)
  | is_ =>
    unfold cmpE
    cases y <;> dsimp only <;> first | exact ⟨_, rfl⟩ | trivial | skip
    cases x <;> dsimp only <;> first | exact ⟨_, rfl⟩ | trivial
  | isnot =>
    unfold cmpE
    cases y <;> dsimp only <;> first | exact ⟨_, rfl⟩ | trivial | skip
    cases x <;> dsimp only <;> first | exact ⟨_, rfl⟩ | trivial
  | _ =>
    unfold cmpE
    cases x <;> cases y <;> dsimp only <;> first | exact ⟨_, rfl⟩ | trivial
/-- a comparison, then its truth -/
theorem cmp_tru {o : COp} {x y : D} {h : Hd} {io : Nat → Addr} {hd : Hd} {H : Hp} {Q : Bool → Hp → Prop} {E : Exn → Hd → Prop} (q : PostE (bnd (cmpE o x y) truE h) (PB g io hd H Q) E) : PostE (cmpE o x y h) (PQ g io hd H fun z H' => ∃ k, z = .bl k ∧ Q k H') E := by
  have w := cmpE_bl o x y h
  simp only [bnd_app] at q
  cases e : cmpE o x y h with
  | ok v h1 =>
    rw [e] at w q
    obtain ⟨k, rfl⟩ := w
    intro io' H' v' n R r
    exact ⟨k, rd_bl.mp r, q io' H' n R⟩
  | er _ _ => rw [e] at w; exact w.elim
  | no => rw [e] at q; exact q.elim
theorem t_cmp {o : CmpOp} (eK : X.K = g.K) (hu : X.A.units + 65 < cLine) (ha : PE X a (rE g W T F ca)) (hb : PE X b (rE g W T F cb)) (hm : behindInMarks o b = false) : PT X (.Compare a [o] [b] pos) (rT g W T F (.val (.cmp (trCmp o) ca cb))) := by
  obtain ⟨r, ho, hr⟩ := cmp_ok eK hu (trCmp o)
  rw [trCmp_ok] at ho
  refine PT.imp (pt_cmpR ho ha hb hm) fun σ H Q ⟨io, hd, sd, R, S, q⟩ => ?_
  have q : PostE (bnd (evE T F ca sd) (fun x => bnd (bnd (evE T F cb sd) fun y => cmpE (trCmp o) x y) truE) hd) (PB g io hd H Q) (PX g W io hd H σ) := by
    have q : PostE (bnd (bnd (evE T F ca sd) fun x => bnd (evE T F cb sd) fun y => cmpE (trCmp o) x y) truE hd) (PB g io hd H Q) (PX g W io hd H σ) := q
    simp only [bnd_app] at q ⊢
    cases e : evE T F ca sd hd <;> rw [e] at q <;> exact q
  refine rdE.then_ R S q fun x h1 io1 H1 vx n1 R1 S1 rx q1 => ?_
  have q1 : PostE (bnd (evE T F cb sd) (fun y => bnd (cmpE (trCmp o) x y) truE) h1) (PB g io hd H Q) (PX g W io hd H σ) := by
    simp only [bnd_app] at q1 ⊢
    cases e : evE T F cb sd h1 <;> rw [e] at q1 <;> exact q1
  refine rdE.then_ R1 S1 (q1.onB n1) fun y h2 io2 H2 vy n2 R2 S2 ry q2 => ?_
  exact hr io2 h2 H2 x y vx vy _ _ R2 (n2.rd rx) ry (cmp_tru (q2.onB n2))
theorem x_chn {o o' : CmpOp} (eK : X.K = g.K) (hu : X.A.units + 65 < cLine) (ha : PE X a (rE g W T F ca)) (hb : PE X b (rE g W T F cb)) (hc : PE X c (rE g W T F cc)) (hm : lastMarks [o, o'] [b, c] = false) :
    PE X (.Compare a [o, o'] [b, c] pos) (rE g W T F (.chn (trCmp o) (trCmp o') ca cb cc)) := by
  obtain ⟨r, ho, hr⟩ := cmp_ok eK hu (trCmp o)
  obtain ⟨r', ho', hr'⟩ := cmp_ok eK hu (trCmp o')
  rw [trCmp_ok] at ho ho'
  refine PE.imp (pe_chain ho ho' ha hb hc hm) fun σ H Q ⟨io, hd, sd, R, S, q⟩ => ?_
  refine rdE.then_ R S q fun x h1 io1 H1 vx n1 R1 S1 rx q1 => ?_
  refine rdE.then_ R1 S1 (q1.onQ n1) fun y h2 io2 H2 vy n2 R2 S2 ry q2 => ?_
  refine hr io2 h2 H2 x y vx vy _ (PX g W io2 h2 H2 σ) R2 (n2.rd rx) ry ((PostE.of_bnd (q2.onQ n2)).mono (fun z h3 q3 io3 H3 vz n3 R3 rz => ?_) fun _ _ z => z)
  cases z with
  | bl k =>
    refine ⟨k, rd_bl.mp rz, ?_⟩
    cases k with
    | true =>
      rw [if_pos rfl]
      refine rdE.then_ R3 (n3.rs S2) (q3.onQ n3) fun w h4 io4 H4 vw n4 R4 S4 rw' q4 => ?_
      exact hr' io4 h4 H4 y w vy vw Q _ R4 ((n3.trans n4).rd ry) rw' (q4.onQ n4)
    | false =>
      rw [if_neg (by decide)]
      exact PQ.val R3 (PQ.tr n3 q3) (rd_bl.mpr rfl)
  | _ => exact q3.elim
theorem t_chn {o o' : CmpOp} (eK : X.K = g.K) (hu : X.A.units + 65 < cLine) (ha : PE X a (rE g W T F ca)) (hb : PE X b (rE g W T F cb)) (hc : PE X c (rE g W T F cc)) (hm : lastMarks [o, o'] [b, c] = false) :
    PT X (.Compare a [o, o'] [b, c] pos) (rT g W T F (.val (.chn (trCmp o) (trCmp o') ca cb cc))) := by
  obtain ⟨r, ho, hr⟩ := cmp_ok eK hu (trCmp o)
  obtain ⟨r', ho', hr'⟩ := cmp_ok eK hu (trCmp o')
  rw [trCmp_ok] at ho ho'
  refine PT.imp (pt_chain ho ho' ha hb hc hm) fun σ H Q ⟨io, hd, sd, R, S, q⟩ => ?_
  -- the value, then its truth
  have vq : ∀ {h : Hd} {m : M D} {io' hd' H'}, (match m h with | .ok v _ => ∃ k, v = D.bl k | .er _ _ => True | .no => True) → PostE (bnd m truE h) (PB g io' hd' H' Q) (PX g W io' hd' H' σ) → PostE (m h) (PQ g io' hd' H' fun z H2 => ∃ k, z = .bl k ∧ Q k H2) (PX g W io' hd' H' σ) := fun {h m io' hd' H'} w q => by
    simp only [bnd_app] at q
    cases e : m h with
    | ok v h1 =>
      rw [e] at w q
      obtain ⟨k, rfl⟩ := w
      intro io2 H2 v' n R r
      exact ⟨k, rd_bl.mp r, q io2 H2 n R⟩
    | er _ _ => rw [e] at q; exact q
    | no => rw [e] at q; exact q.elim
  have q : PostE (evE T F (.chn (trCmp o) (trCmp o') ca cb cc) sd hd) (PQ g io hd H fun z H2 => ∃ k, z = .bl k ∧ Q k H2) (PX g W io hd H σ) := by
    refine vq ?_ q
    show match (bnd (evE T F ca sd) fun x => bnd (evE T F cb sd) fun y => bnd (cmpE (trCmp o) x y) fun r => match r with
      | .bl true => bnd (evE T F cc sd) fun z => cmpE (trCmp o') y z
      | .bl false => ret (.bl false)
      | _ => stop) hd with | .ok v _ => ∃ k, v = D.bl k | .er _ _ => True | .no => True
    simp only [bnd_app]
    cases e1 : evE T F ca sd hd with
    | ok x h1 =>
      simp only [bnd_ok, bnd_app]
      cases e2 : evE T F cb sd h1 with
      | ok y h2 =>
        simp only [bnd_ok, bnd_app]
        have w := cmpE_bl (trCmp o) x y h2
        cases e3 : cmpE (trCmp o) x y h2 with
        | ok z h3 =>
          rw [e3] at w
          obtain ⟨k, rfl⟩ := w
          cases k with
          | true =>
            simp only [bnd_ok, bnd_app]
            cases e4 : evE T F cc sd h3 with
            | ok z h4 =>
              simp only [bnd_ok]
              have w := cmpE_bl (trCmp o') y z h4
              cases e5 : cmpE (trCmp o') y z h4 with
              | ok _ _ => rw [e5] at w; exact w
              | _ => trivial
            | _ => trivial
          | false => simp only [bnd_ok, ret_app]; exact ⟨_, rfl⟩
        | _ => trivial
      | _ => trivial
    | _ => trivial
  refine rdE.then_ R S q fun x h1 io1 H1 vx n1 R1 S1 rx q1 => ?_
  refine rdE.then_ R1 S1 (q1.onQ n1) fun y h2 io2 H2 vy n2 R2 S2 ry q2 => ?_
  refine hr io2 h2 H2 x y vx vy _ (PX g W io2 h2 H2 σ) R2 (n2.rd rx) ry ((PostE.of_bnd (q2.onQ n2)).mono (fun z h3 q3 io3 H3 vz n3 R3 rz => ?_) fun _ _ z => z)
  cases z with
  | bl k =>
    refine ⟨k, rd_bl.mp rz, ?_⟩
    cases k with
    | true =>
      rw [if_pos rfl]
      refine rdE.then_ R3 (n3.rs S2) (q3.onQ n3) fun w h4 io4 H4 vw n4 R4 S4 rw' q4 => ?_
      exact hr' io4 h4 H4 y w vy vw _ _ R4 ((n3.trans n4).rd ry) rw' (q4.onQ n4)
    | false =>
      rw [if_neg (by decide)]
      exact PQ.val R3 (PQ.tr n3 q3) (rd_bl.mpr rfl)
  | _ => exact q3.elim

/-! ### argument lists, displays -/
theorem x_nil : PA X [] (rA g W T F .nil) := PA.imp pa_nil fun σ H Q ⟨io, hd, sd, R, S, q⟩ => (show PL g io hd H Q [] hd from q) io H [] .refl R .nil
theorem x_cons (hs : isStar e = false) (he : PE X e (rE g W T F ce)) (hes : PA X es (rA g W T F ces)) : PA X (e :: es) (rA g W T F (.cons ce ces)) := by
  refine PA.imp (pa_cons he hes (star_cons hs)) fun σ H Q ⟨io, hd, sd, R, S, q⟩ => ?_
  refine rdE.then_ R S q fun x h1 io1 H1 vx n1 R1 S1 rx q1 => ?_
  refine rdA.then_ R1 S1 (q1.onL n1) fun xs h2 io2 H2 vs n2 R2 S2 rs q2 => ?_
  exact (show PL g io1 h1 H1 Q (x :: xs) h2 from q2) io2 H2 (vx :: vs) n2 R2 (.cons (n2.rd rx) rs)
theorem x_tup {k : Nat} (h : PA X es (rA g W T F ces)) : PE X (.Tuple es k pos) (rE g W T F (.tup ces)) := by
  refine PE.imp (pe_tup h) fun σ H Q ⟨io, hd, sd, R, S, q⟩ => ?_
  refine rdA.then_ R S q fun xs h1 io1 H1 vs n1 R1 S1 rs q1 => ?_
  obtain ⟨h2, q2⟩ := must_post q1
  exact ⟨by rw [← rs.len, line_eq]; exact of_decide_eq_true h2, fun p hp => PQ.tup R1 (PQ.tr n1 q2) rs hp⟩
theorem x_lst (h : PA X es (rA g W T F ces)) : PE X (.List es pos) (rE g W T F (.lst ces)) := by
  refine PE.imp (pe_lst h) fun σ H Q ⟨io, hd, sd, R, S, q⟩ => ?_
  refine rdA.then_ R S q fun xs h1 io1 H1 vs n1 R1 S1 rs q1 => ?_
  obtain ⟨h2, q2⟩ := must_post q1
  exact ⟨by rw [← rs.len, line_eq]; exact of_decide_eq_true h2, fun p hp => PQ.newL R1 (PQ.tr n1 q2) rs hp⟩
/-- a loose object becomes ours -/
theorem own_any {io io1 : Nat → Addr} {hd h1 : Hd} {H H1 : Hp} {D' : Addr} {o : O} (hD : H D' = none) (n : Nxt g io hd H io1 h1 H1) (R : RH g io1 h1 H1) (hn : ¬ Ours h1 io1 D') (ro : RO g (ext io1 h1.length D') (h1.length + 1) H1 o D') :
    RH g (ext io1 h1.length D') (h1 ++ [o]) H1 ∧ Nxt g io hd H (ext io1 h1.length D') (h1 ++ [o]) H1 := by
  have ag : ∀ i, i < h1.length → ext io1 h1.length D' i = io1 i := fun i h => ext_ne (Nat.ne_of_lt h)
  have hlen : (h1 ++ [o]).length = h1.length + 1 := by simp
  have at_ : ∀ {i : Nat} {ob : O}, (h1 ++ [o])[i]? = some ob → (h1[i]? = some ob ∧ i < h1.length) ∨ (i = h1.length ∧ ob = o) := fun {i ob} e => by
    by_cases hi : i < h1.length
    · rw [List.getElem?_append_left hi] at e
      exact .inl ⟨e, hi⟩
    · have h2 : i = h1.length := by
        have := (List.getElem?_eq_some_iff.mp e).1
        rw [hlen] at this
        omega
      subst h2
      exact .inr ⟨rfl, by simpa using e.symm⟩
  refine ⟨⟨fun i j a b e1 e2 m1 m2 e => ?_, fun i ob e => ?_⟩, ⟨by rw [hlen]; exact Nat.le_succ_of_le n.le, fun i h => (ag i (Nat.lt_of_lt_of_le h n.le)).trans (n.agr i h), n.tup, fun a xs l e nn => ?_⟩⟩
  · rcases at_ e1 with ⟨g1, l1⟩ | ⟨rfl, rfl⟩
    · rcases at_ e2 with ⟨g2, l2⟩ | ⟨rfl, rfl⟩
      · rw [ag i l1, ag j l2] at e
        exact R.inj i j a b g1 g2 m1 m2 e
      · rw [ag i l1, ext_same] at e
        exact (hn ⟨i, a, g1, m1, e⟩).elim
    · rcases at_ e2 with ⟨g2, l2⟩ | ⟨rfl, rfl⟩
      · rw [ag j l2, ext_same] at e
        exact (hn ⟨j, b, g2, m2, e.symm⟩).elim
      · rfl
  · rw [hlen]
    rcases at_ e with ⟨g1, l1⟩ | ⟨rfl, rfl⟩
    · rw [ag i l1]
      exact (R.obj i ob g1).mono_ne (Nat.le_succ _) ag (fun _ _ z => z) fun _ z => z
    · rw [ext_same]
      exact ro
  · obtain ⟨k1, k2⟩ := n.frm a xs l e nn
    refine ⟨k1, ?_⟩
    rintro ⟨i, ob, e1, m, e2⟩
    rcases at_ e1 with ⟨g1, l1⟩ | ⟨rfl, rfl⟩
    · rw [ag i l1] at e2
      exact k2 ⟨i, ob, g1, m, e2⟩
    · rw [ext_same] at e2
      subst e2
      rw [hD] at e
      cases e
/-- the readings of a display's pairs -/
def trsOf (g : Wd) (W : WX) (T : Tab) (F : Nat → List D → M D) : CEs → List (TE × TE)
  | .cons k (.cons v r) => (rE g W T F k, rE g W T F v) :: trsOf g W T F r
  | _ => []
def flatP {α : Type} : List (α × α) → List α
  | [] => []
  | (a, b) :: r => a :: b :: flatP r
def evC : CEs → Bool
  | .nil => true
  | .cons _ (.cons _ r) => evC r
  | _ => false
theorem pairs_of : ∀ (n : Nat) {ces : CEs} {sd : St} {hd : Hd} {io : Nat → Addr} {H : Hp} {σ : L2.St} {Q : List (V × V) → Hp → Prop}, sizeOf ces ≤ n → evC ces = true → RH g io hd H → RS g io hd.length H sd σ →
    PostE (evEs T F ces sd hd) (fun xs h' => ∃ kvs, pairs? xs = some kvs ∧ ∀ io' H' (ps : List (V × V)), Nxt g io hd H io' h' H' → RH g io' h' H' → RDs g io' h'.length H' (flatP kvs) (flatP ps) → ps.length = kvs.length → Q ps H') (PX g W io hd H σ) → tPairs (trsOf g W T F ces) σ H Q
  | 0, ces, sd, hd, io, H, σ, Q, hz, he, R, S, q => by cases ces <;> simp at hz
  | n + 1, .nil, sd, hd, io, H, σ, Q, hz, he, R, S, q => by
    obtain ⟨kvs, e, q⟩ := q
    cases e
    exact q io H [] .refl R .nil rfl
  | n + 1, .cons k .nil, sd, hd, io, H, σ, Q, hz, he, R, S, q => by cases he
  | n + 1, .cons k (.cons v r), sd, hd, io, H, σ, Q, hz, he, R, S, q => by
    have q1 : PostE (bnd (evE T F k sd) (fun x => bnd (evEs T F (.cons v r) sd) fun xs => ret (x :: xs)) hd) _ _ := q
    show rE g W T F k σ H fun x H1 => rE g W T F v σ H1 fun y H2 => tPairs (trsOf g W T F r) σ H2 fun ps H3 => Q ((x, y) :: ps) H3
    refine rdE.then_ R S q1 fun x h1 io1 H1 vx n1 R1 S1 rx q1 => ?_
    have q2 := (PostE.of_bnd q1).mono (fun _ _ z => z) fun _ _ z => PX.tr n1 z
    have q2 : PostE (bnd (evE T F v sd) (fun x => bnd (evEs T F r sd) fun xs => ret (x :: xs)) h1) _ _ := q2
    refine rdE.then_ R1 S1 q2 fun y h2 io2 H2 vy n2 R2 S2 ry q2 => ?_
    have q3 := (PostE.of_bnd q2).mono (fun _ _ z => z) fun _ _ z => PX.tr n2 z
    refine pairs_of n (by simp at hz ⊢; omega) he R2 S2 (q3.mono (fun xs h3 z => ?_) fun _ _ z => z)
    obtain ⟨kvs, e, z⟩ := z
    have e : (pairs? xs).map ((x, y) :: ·) = some kvs := e
    obtain ⟨kvs', e1, rfl⟩ := Option.map_eq_some_iff.mp e
    refine ⟨kvs', e1, fun io' H' ps n3 R3 rs hl => z io' H' ((vx, vy) :: ps) (n1.trans (n2.trans n3)) R3 ?_ (by simp [hl])⟩
    exact .cons ((n2.trans n3).rd rx) (.cons (n3.rd ry) rs)
theorem flat_rks {io : Nat → Addr} {L : Nat} {H : Hp} : ∀ {kvs : List (D × D)} {ps : List (V × V)}, (kvs.all fun p => keyOk KD p.1) = true → RDs g io L H (flatP kvs) (flatP ps) → ps.length = kvs.length → ∃ ks : List (Key × V), ps = ks.map (fun kv => (kV kv.1, kv.2)) ∧ RKs g io L H kvs ks
  | [], [], _, _, _ => ⟨[], rfl, rfl⟩
  | [], _ :: _, _, _, h => by cases h
  | _ :: _, [], _, _, h => by cases h
  | (k, v) :: kvs, (x, y) :: ps, hk, r, hl => by
    rw [List.all_cons, Bool.and_eq_true] at hk
    obtain ⟨a, us, e, r1, r⟩ := r.cons_inv
    cases e
    obtain ⟨b, us, e, r2, r⟩ := r.cons_inv
    cases e
    obtain ⟨ks, rfl, rs⟩ := flat_rks hk.2 r (by simpa using hl)
    obtain ⟨kk, h1, h2⟩ := rk_of hk.1 r1
    exact ⟨(kk, y) :: ks, by rw [← h2]; rfl, kk, y, ks, rfl, h1, r2, rs⟩
theorem mrg_rks {io : Nat → Addr} {L : Nat} {H : Hp} : ∀ {kvs : List (D × D)} {ks : List (Key × V)} {acc : List (D × D)} {acc' : List (Key × V)}, RKs g io L H kvs ks → RKs g io L H acc acc' → RKs g io L H (kvs.foldl (fun acc kv => putK acc kv.1 kv.2) acc) (mergeK acc' ks)
  | [], ks, acc, acc', r, q => by
    have r : ks = [] := r
    subst r
    exact q
  | p :: kvs, ks, acc, acc', r, q => by
    obtain ⟨k, v, ks', rfl, h1, h2, r⟩ := r
    exact mrg_rks (kvs := kvs) (ks := ks') (acc := putK acc p.1 p.2) (acc' := L2.putK acc' k v) r (rk_put h1 h2 q)
theorem x_dct {keys : List (Option Expr)} {values : List Expr} (h : PPs X pos keys values (trsOf g W T F ces)) (hall : keys.all (·.isSome) = true) (hl : keys.length = values.length) (h0 : keys ≠ []) (h15 : keys.length ≤ 15) (he : evC ces = true) : PE X (.Dict keys values pos) (rE g W T F (.dct ces)) := by
  refine PE.imp (pe_disp h hall hl h0 h15) fun σ H Q ⟨io, hd, sd, R, S, q⟩ p hp => ?_
  have no := not_ours R hp
  obtain ⟨R1, kt⟩ := step_loose (u := .dK []) R (.inl hp) no
  have N1 : Nxt g io hd H io hd (upd H p (.dK [])) := ⟨Nat.le_refl _, fun _ _ => rfl, kt, fun a u l e nn => ⟨by rw [upd_ne (ne_of_none e hp)]; exact e, nn⟩⟩
  have q : PostE (bnd (evEs T F ces sd) (fun xs => bnd (lft (pairs? xs)) fun kvs => bnd (must (decide (kvs.length ≤ 15) && kvs.all fun p => keyOk KD p.1)) fun _ => new (.dct (mrgK kvs))) hd) (PQ g io hd H Q) (PX g W io hd H σ) := q
  refine pairs_of _ (Nat.le_refl _) he R1 (N1.rs S) ((PostE.of_bnd q).mono (fun xs h1 z => ?_) fun _ _ z => PX.tr N1 z)
  obtain ⟨kvs, e1, z⟩ := lft_post z
  obtain ⟨hk, z⟩ := must_post z
  rw [Bool.and_eq_true, decide_eq_true_eq] at hk
  have z : PQ g io hd H Q (.ref h1.length) (h1 ++ [.dct (mrgK kvs)]) := z
  refine ⟨kvs, e1, fun io1 H2 ps n1 R2 rs hl => ?_⟩
  obtain ⟨hd2, no2⟩ := n1.frm p _ (.inr ⟨[], rfl⟩) upd_same no
  obtain ⟨ks, rfl, rk⟩ := flat_rks hk.2 rs hl
  refine ⟨hd2, ks, rfl, by simpa using (show (ks.map fun kv => (kV kv.1, kv.2)).length ≤ 15 by rw [hl]; exact hk.1), ?_⟩
  obtain ⟨R3, kt3⟩ := step_loose (u := .dK (mergeK [] ks)) R2 (.inr ⟨_, .inr ⟨[], rfl⟩, hd2⟩) no2
  have n2 : Nxt g io hd H io1 h1 (upd H2 p (.dK (mergeK [] ks))) :=
    have n0 := N1.trans n1
    ⟨n0.le, n0.agr, fun a vs h => kt3 a vs (n0.tup a vs h), fun a u l e nn => by
      obtain ⟨k1, k2⟩ := n0.frm a u l e nn
      refine ⟨?_, k2⟩
      rw [upd_ne (ne_of_none e hp)]
      exact k1⟩
  obtain ⟨R4, n4⟩ := own_any (o := .dct (mrgK kvs)) hp n2 R3 no2 ⟨_, upd_same, mrg_rks (rk.mono (Nat.le_succ _) (fun i h => ext_ne (Nat.ne_of_lt h)) kt3) rfl⟩
  exact z _ _ _ n4 R4 (rd_ref.mpr ⟨by simp, by rw [ext_same]⟩)
theorem x_dct0 : PE X (.Dict [] [] pos) (rE g W T F (.dct .nil)) := by
  refine PE.imp pe_dnewK fun σ H Q ⟨io, hd, sd, R, S, q⟩ p hp => ?_
  have z : PQ g io hd H Q (.ref hd.length) (hd ++ [.dct []]) := q
  obtain ⟨R1, n1⟩ := step_new (o := .dct []) (u := .dK []) R hp ⟨[], upd_same, rfl⟩
  exact z _ _ _ n1 R1 (rd_ref.mpr ⟨by simp, by rw [ext_same]⟩)
theorem x_idx (eK : X.K = g.K) (hu : X.A.units + 1 < cLine) (ha : PE X a (rE g W T F ca)) (hb : PE X b (rE g W T F cb)) (hs : isSlice b = false) : PE X (.Subscript a b pos) (rE g W T F (.idx ca cb)) := by
  obtain ⟨r, ho, hr⟩ := idx_ok eK hu
  refine PE.imp (pe_ix ho ha hb (plain_of hs)) fun σ H Q ⟨io, hd, sd, R, S, q⟩ => ?_
  refine rdE.then_ R S q fun x h1 io1 H1 vx n1 R1 S1 rx q1 => ?_
  refine rdE.then_ R1 S1 (q1.onQ n1) fun y h2 io2 H2 vy n2 R2 S2 ry q2 => ?_
  exact hr io2 h2 H2 x y vx vy Q _ R2 (n2.rd rx) ry (q2.onQ n2)
/-- an end of a slice -/
def rO (g : Wd) (W : WX) (T : Tab) (F : Nat → List D → M D) (c : CE) : TO := fun σ H Q => ∃ io hd sd, RH g io hd H ∧ RS g io hd.length H sd σ ∧ PostE (bnd (evE T F c sd) (fun d => lft (endC c d)) hd) (fun o h' => ∀ io' H', Nxt g io hd H io' h' H' → RH g io' h' H' → Q o H') (PX g W io hd H σ)
theorem o_none : PO X none (rO g W T F (.cst .non)) := PO.imp po_none fun σ H Q ⟨io, hd, sd, R, S, q⟩ => (show ∀ io' H', Nxt g io hd H io' hd H' → RH g io' hd H' → Q none H' from q) io H .refl R
def isNonC : CE → Bool
  | .cst .non => true
  | _ => false
theorem endC_int {c : CE} (hn : isNonC c = false) {d : D} {o : Option Int} (h : endC c d = some o) : ∃ i, d = .int i ∧ o = some i := by
  unfold endC at h
  split at h
  · cases hn
  · cases h; exact ⟨_, rfl, rfl⟩
  · cases h
theorem o_some (h : PE X e (rE g W T F ce)) (hn : isNonC ce = false) : PO X (some e) (rO g W T F ce) := by
  refine PO.imp (po_some h) fun σ H Q ⟨io, hd, sd, R, S, q⟩ => ?_
  refine rdE.then_ R S q fun x h1 io1 H1 vx n1 R1 S1 rx q1 => ?_
  cases e : endC ce x with
  | none => rw [e] at q1; exact q1.elim
  | some o =>
    rw [e] at q1
    obtain ⟨i, rfl, rfl⟩ := endC_int hn e
    exact ⟨i, rd_int.mp rx, q1 io1 H1 n1 R1⟩
theorem rO.then_ {α : Type} {k : Option Int → M α} {P : α → Hd → Prop} {Q : Option Int → Hp → Prop} {io : Nat → Addr} {hd : Hd} {H : Hp} {σ : L2.St} {sd : St} (R : RH g io hd H) (S : RS g io hd.length H sd σ) (q : PostE (bnd (evE T F ce sd) (fun d => bnd (lft (endC ce d)) k) hd) P (PX g W io hd H σ))
    (h : ∀ o h1 io1 H1, Nxt g io hd H io1 h1 H1 → RH g io1 h1 H1 → RS g io1 h1.length H1 sd σ → PostE (k o h1) P (PX g W io hd H σ) → Q o H1) : rO g W T F ce σ H Q := by
  refine ⟨io, hd, sd, R, S, ?_⟩
  simp only [bnd_app] at q ⊢
  cases e : evE T F ce sd hd with
  | ok d h1 =>
    rw [e] at q
    simp only [bnd_ok, bnd_app] at q ⊢
    cases e2 : endC ce d with
    | none => rw [e2] at q; exact q.elim
    | some o => rw [e2] at q; exact fun io1 H1 n1 R1 => h o h1 io1 H1 n1 R1 (n1.rs S) q
  | er _ _ => rw [e] at q; exact q
  | no => rw [e] at q; exact q.elim
theorem x_slc {lo hi : Option Expr} {cl ch : CE} {p2 : Pos} (eK : X.K = g.K) (ha : PE X a (rE g W T F ca)) (hl : PO X lo (rO g W T F cl)) (hh : PO X hi (rO g W T F ch)) : PE X (.Subscript a (.Slice lo hi none p2) pos) (rE g W T F (.slc ca cl ch)) := by
  obtain ⟨r, ho, hr⟩ := slc_ok (X := X) eK
  refine PE.imp (pe_slice ho ha hl hh) fun σ H Q ⟨io, hd, sd, R, S, q⟩ => ?_
  refine rdE.then_ R S q fun x h1 io1 H1 vx n1 R1 S1 rx q1 => ?_
  refine rO.then_ R1 S1 (q1.onQ n1) fun l h2 io2 H2 n2 R2 S2 q2 => ?_
  refine rO.then_ R2 S2 (q2.onQ n2) fun u h3 io3 H3 n3 R3 S3 q3 => ?_
  exact hr io3 h3 H3 x vx l u Q _ R3 ((n2.trans n3).rd rx) (q3.onQ n3)

theorem x_rvs {k : Nat} {p1 p2 p3 : Pos} (eK : X.K = g.K) (ha : PE X a (rE g W T F ca)) : PE X (.Subscript a (.Slice none none (some (.UnaryOp .USub (.Constant (.int 1) k p1) p2)) p3) pos) (rE g W T F (.blt .rvs (.cons ca .nil))) := by
  refine PE.imp (pe_revL ha) fun σ H Q ⟨io, hd, sd, R, S, q⟩ => ?_
  have q : PostE (bnd (evE T F ca sd) (fun x => fun h => (bnd (lft (list? h x)) fun ds => new (.lst ds.reverse)) h) hd) (PQ g io hd H Q) (PX g W io hd H σ) := by
    have e : evE T F (.blt .rvs (.cons ca .nil)) sd hd = bnd (evE T F ca sd) (fun x => fun h => (bnd (lft (list? h x)) fun ds => new (.lst ds.reverse)) h) hd := by
      show Rs.bnd (Rs.bnd (evE T F ca sd hd) _) _ = Rs.bnd (evE T F ca sd hd) _
      cases evE T F ca sd hd <;> rfl
    rw [← e]; exact q
  refine rdE.then_ R S q fun x h1 io1 H1 vx n1 R1 S1 rx q1 => ?_
  obtain ⟨ds, hl, q1⟩ := lft_post q1
  obtain ⟨b, vs, rfl, hs, r⟩ := R1.list? hl rx
  exact ⟨b, vs, rfl, by rw [eK]; exact hs, fun p hp => PQ.newL R1 (PQ.tr n1 q1) r.reverse hp⟩
/-! ### calls -/
theorem x_call {n : Nat} {N : Nm} {x : Str} {f : Nat} (C : Cn g F N n X) (tk : Takes X W) (ho : okName x = true) (hg : glb X.env.scope x = true) (hf : N.fn x = some f) (hs : (e :: es).all (fun e => !isStar e) = true) (ha : PA X (e :: es) (rA g W T F ces)) :
    PE X (.Call (.Name x p) (e :: es) [] pos) (rE g W T F (.call f ces)) := by
  obtain ⟨hm, hk, fd, ps, Fn, hb⟩ := C.fn x f hf
  rw [List.all_cons, Bool.and_eq_true] at hs
  refine PE.imp (pe_callSD Fn C.room (glb_ok rfl hg) hm hk hb .nil (E := WE W) (fun σ => passAt tk σ) ha (okName_ok ho).1 (star_cons (by simpa using hs.1)) (star_any hs.2)) fun σ H Q ⟨io, hd, sd, R, S, q⟩ => ?_
  refine rdA.then_ R S q fun xs h1 io1 H1 vs n1 R1 S1 rs q1 => ?_
  rw [List.append_nil]
  exact ⟨io1, h1, xs, R1, rs, (q1.onQ n1).mono (fun _ _ z => z) fun _ _ z => z⟩
theorem x_blt {N : Nm} {n : Nat} {x : Str} {b' : Bi} (C : Cn g F N n X) (ho : okName x = true) (hg : glb X.env.scope x = true) (hf : N.fre x = true) (hb : (x, b') ∈ biL) (hs : (e :: es).all (fun e => !isStar e) = true) (ha : PA X (e :: es) (rA g W T F ces)) :
    PE X (.Call (.Name x p) (e :: es) [] pos) (rE g W T F (.blt b' ces)) := by
  obtain ⟨v, hv, hbo⟩ := biL_ok _ hb
  rw [List.all_cons, Bool.and_eq_true] at hs
  obtain ⟨r, hr, hB⟩ := blt_ok (T := T) C.eK C.calm b' v hv
  have fin : ∀ σ H Q, rE g W T F (.blt b' ces) σ H Q → tCB r (rA g W T F ces) σ H Q := fun σ H Q ⟨io, hd, sd, R, S, q⟩ =>
    rdA.then_ R S q fun xs h1 io1 H1 vs n1 R1 S1 rs q1 => hB io1 h1 H1 xs vs Q _ R1 rs (q1.onQ n1)
  have k : (∃ id, v = .builtin id) ∨ ∃ T, v = .type T := by
    cases b' <;> cases hv <;> first | exact .inl ⟨_, rfl⟩ | exact .inr ⟨_, rfl⟩
  rcases k with ⟨id, rfl⟩ | ⟨T', rfl⟩
  · exact PE.imp (pe_callB hr (glb_ok rfl hg) (C.fre x hf) hbo ha (okName_ok ho).2.2 (okName_ok ho).1 (star_cons (by simpa using hs.1)) (star_any hs.2)) fin
  · exact PE.imp (pe_callTy hr (glb_ok rfl hg) (C.fre x hf) hbo ha (okName_ok ho).2.2 (okName_ok ho).1 (star_cons (by simpa using hs.1)) (star_any hs.2)) fin
theorem x_isi {N : Nm} {n : Nat} {x t : Str} {t' : Ty} {p2 : Pos} (C : Cn g F N n X) (hx : x = "isinstance") (hg : glb X.env.scope x = true) (hf : N.fre x = true) (ht : okName t = true) (hgt : glb X.env.scope t = true) (hft : N.fre t = true) (hb : (t, t') ∈ tyL) (hs : isStar e = false)
    (he : PE X e (rE g W T F ce)) : PE X (.Call (.Name x p) [e, .Name t p2] [] pos) (rE g W T F (.blt (.isi t') (.cons ce .nil))) := by
  subst hx
  obtain ⟨nm, hv, hbo⟩ := tyL_ok _ hb
  have pt : PE X (.Name t p2) (tC (.ty nm)) := pe_bltn (glb_ok rfl hgt) (C.fre t hft) hbo rfl (okName_ok ht).2.2 (okName_ok ht).1
  have hs1 : starEach [.Name t p2] X.env = [(false, eval (.Name t p2) X.env)] := by rw [star_cons rfl]; rfl
  refine PE.imp (pe_callB call_isi (glb_ok rfl hg) (C.fre _ hf) (by decide +kernel) (pa_cons he (pa_cons pt pa_nil (by rw [hs1]; rfl)) (star_cons hs)) (by decide) (by decide) (star_cons hs) (star_any (by rfl))) fun σ H Q ⟨io, hd, sd, R, S, q⟩ => ?_
  have q : PostE (bnd (evE T F ce sd) (fun x => bnd (isiE T x t') fun b => ret (.bl b)) hd) (PQ g io hd H Q) (PX g W io hd H σ) := by
    have q : PostE (bnd (bnd (evE T F ce sd) fun x => bnd (ret []) fun xs => ret (x :: xs)) (fun xs => bltE T (.isi t') xs) hd) (PQ g io hd H Q) (PX g W io hd H σ) := q
    simp only [bnd_app] at q ⊢
    cases e : evE T F ce sd hd <;> rw [e] at q <;> exact q
  refine rdE.then_ R S q fun x h1 io1 H1 vx n1 R1 S1 rx q1 => ?_
  rw [C.eK]
  exact isi_ok (T := T) t' nm hv R1 rx (q1.onQ n1)

/-! ### methods of built-in types -/
theorem tyM_ok {b' : Bm} {x : D} {vx : V} {Tn id : String} {α : Type} {io : Nat → Addr} {hd : Hd} {H : Hp} {f : Unit → M α} {P : α → Hd → Prop} {E : Exn → Hd → Prop} (hv : bmI b' = some (Tn, id)) (R : RH g io hd H) (rx : RD g io hd.length H x vx) (q : PostE (bnd (tyM b' x) f hd) P E) :
    tyV g.K Tn vx H ∧ PostE (f () hd) P E := by
  cases x with
  | str s =>
    obtain ⟨rfl, _⟩ := rd_str.mp rx
    obtain ⟨h1, q⟩ := must_post q
    refine ⟨?_, q⟩
    cases b' <;> cases hv <;> first | rfl | cases h1
  | ref n =>
    obtain ⟨_, rfl⟩ := rd_ref.mp rx
    unfold tyM at q
    simp only [bnd_app] at q
    cases ho : hd[n]? with
    | none => rw [ho] at q; exact q.elim
    | some o =>
      rw [ho] at q
      cases o with
      | lst ds =>
        obtain ⟨vs, h1, _⟩ := R.lst ho
        have z : ∃ xs, SqL g.K H (io n) xs := ⟨vs, SqL.of h1⟩
        cases b' <;> cases hv <;> first | exact ⟨.inl ⟨rfl, z⟩, q⟩ | exact q.elim
      | flst ds =>
        obtain ⟨vs, h1, _⟩ := (R.obj n _ ho).flst_sq
        have z : ∃ xs, SqL g.K H (io n) xs := ⟨vs, h1⟩
        cases b' <;> cases hv <;> first | exact ⟨.inl ⟨rfl, z⟩, q⟩ | exact q.elim
      | dct kvs =>
        obtain ⟨ks, h1, _⟩ := R.obj n _ ho
        cases b' <;> cases hv <;> first | exact ⟨.inr (.inr (.inl ⟨rfl, .inl ⟨_, h1⟩⟩)), q⟩ | exact q.elim
      | ins _ _ => exact q.elim
  | _ => exact q.elim
theorem x_bm {o : Expr} {m : Str} {b' : Bm} {apos : Pos} {n : Nat} {N : Nm} (C : Cn g F N n X) (hb : (m, b') ∈ bmL) (ho : okBase o = true) (hl : (apos.endLine == pos.line) = true) (hs : (e :: es).all (fun e => !isStar e) = true) (hn : decide ((e :: es).length < 30) = true)
    (hto : PE X o (rE g W T F ce)) (ha : PA X (e :: es) (rA g W T F ces)) : PE X (.Call (.Attribute o m apos) (e :: es) [] pos) (rE g W T F (.bmt b' ce ces)) := by
  obtain ⟨Tn, id, ok⟩ := bmL_ok _ hb
  obtain ⟨r, hr, hB⟩ := bmt_ok C.eK C.hu b' Tn id ok.bm
  have hs' := hs
  rw [List.all_cons, Bool.and_eq_true] at hs
  refine PE.imp (pe_bm ok.pa ok.slot ok.ty hr hto ha (base_of ho) (by rw [star_all hs']; simp only [Bool.true_and, List.length_nil, List.isEmpty_nil, if_true, Nat.add_zero]; exact hn) hl (star_cons (by simpa using hs.1)) (star_any hs.2)) fun σ H Q ⟨io, hd, sd, R, S, q⟩ => ?_
  refine rdE.then_ R S q fun x h1 io1 H1 vx n1 R1 S1 rx q1 => ?_
  obtain ⟨t1, q1⟩ := tyM_ok ok.bm R1 rx q1
  rw [C.eK]
  refine ⟨t1, ?_⟩
  refine rdA.then_ R1 S1 (q1.onQ n1) fun xs h2 io2 H2 vs n2 R2 S2 rs q2 => ?_
  have := hB io2 h2 H2 x vx xs vs Q _ R2 (n2.rd rx) rs (q2.onQ n2)
  exact this
theorem x_bm0 {o : Expr} {m : Str} {b' : Bm} {apos : Pos} {n : Nat} {N : Nm} (C : Cn g F N n X) (hb : (m, b') ∈ bmL) (ho : okBase o = true) (hl : (apos.endLine == pos.line) = true)
    (hto : PE X o (rE g W T F ce)) : PE X (.Call (.Attribute o m apos) [] [] pos) (rE g W T F (.bmt b' ce .nil)) := by
  obtain ⟨Tn, id, ok⟩ := bmL_ok _ hb
  obtain ⟨r, hr, hB⟩ := bmt_ok C.eK C.hu b' Tn id ok.bm
  refine PE.imp (pe_bm0 ok.pa ok.slot ok.ty hr hto (base_of ho) hl) fun σ H Q ⟨io, hd, sd, R, S, q⟩ => ?_
  refine rdE.then_ R S q fun x h1 io1 H1 vx n1 R1 S1 rx q1 => ?_
  obtain ⟨t1, q1⟩ := tyM_ok ok.bm R1 rx q1
  rw [C.eK]
  refine ⟨t1, ?_⟩
  exact hB io1 h1 H1 x vx [] [] Q _ R1 rx .nil (q1.onQ n1)

/-! ### tests -/
theorem t_and {ta tb : CT} {rest : List Expr} (ha : PT X a (rT g W T F ta)) (hb : PW X (.BoolOp .And (b :: rest) pos) (rT g W T F tb)) : PW X (.BoolOp .And (a :: b :: rest) pos) (rT g W T F (.and ta tb)) := by
  refine PW.imp (pw_and ha hb) fun σ H Q ⟨io, hd, sd, R, S, q⟩ => ?_
  refine rdT.then_ R S q fun k h1 io1 H1 n1 R1 S1 q1 => ?_
  cases k with
  | true => rw [if_pos rfl]; exact ⟨io1, h1, sd, R1, S1, q1.onB n1⟩
  | false => rw [if_neg (by decide)]; exact (PB.tr n1 q1) io1 H1 .refl R1
theorem t_or {ta tb : CT} {rest : List Expr} (ha : PT X a (rT g W T F ta)) (hb : PW X (.BoolOp .Or (b :: rest) pos) (rT g W T F tb)) : PW X (.BoolOp .Or (a :: b :: rest) pos) (rT g W T F (.or ta tb)) := by
  refine PW.imp (pw_or ha hb) fun σ H Q ⟨io, hd, sd, R, S, q⟩ => ?_
  refine rdT.then_ R S q fun k h1 io1 H1 n1 R1 S1 q1 => ?_
  cases k with
  | true => rw [if_pos rfl]; exact (PB.tr n1 q1) io1 H1 .refl R1
  | false => rw [if_neg (by decide)]; exact ⟨io1, h1, sd, R1, S1, q1.onB n1⟩
theorem t_not {ta : CT} (ha : PT X a (rT g W T F ta)) : PT X (.UnaryOp .Not a pos) (rT g W T F (.not ta)) := by
  refine PT.imp (pt_not ha) fun σ H Q ⟨io, hd, sd, R, S, q⟩ => ?_
  exact rdT.then_ R S q fun k h1 io1 H1 n1 R1 S1 q1 => (PB.tr n1 q1) io1 H1 .refl R1
def plainT : Expr → Bool
  | .UnaryOp .. => false
  | .BoolOp .. => false
  | .IfExp .. => false
  | .Compare .. => false
  | _ => true
theorem t_val (eK : X.K = g.K) (ha : PE X a (rE g W T F ca)) (h : plainT a = true) : PT X a (rT g W T F (.val ca)) := by
  refine PT.imp (pt_truth ha (by cases a <;> first | exact fun _ => rfl | cases h)) fun σ H Q ⟨io, hd, sd, R, S, q⟩ => ?_
  refine rdE.then_ R S q fun x h1 io1 H1 vx n1 R1 S1 rx q1 => ?_
  rw [eK]
  exact tru_post R1 rx (q1.onB n1)
end
end U
end

section
set_option maxRecDepth 100000
set_option maxHeartbeats 1000000
/-! Walks and comprehensions. -/
namespace U
open PySem L2

section
variable {g : Wd} {W : WX} {T : Tab} {F : Nat → List D → M D} {X : Cx} {ns : List Str}
variable {a b c e tg : Expr} {es : List Expr} {ca cb cc ce : CE} {ces : CEs} {p pos : Pos}
abbrev rI (g : Wd) (W : WX) (T : Tab) (F : Nat → List D → M D) (c : Wk) : TI := rdI g W (evI T F c)
/-- what is walked, once it is known -/
abbrev PJ (g : Wd) (io : Nat → Addr) (hd : Hd) (H : Hp) (R : L2.It → Hp → Prop) : List D × Gd → Hd → Prop := fun p h' => ∀ io' H' J, Nxt g io hd H io' h' H' → RH g io' h' H' → IW g io' h' H' p.1 p.2 J → R J H'
theorem PostE.onJ {io : Nat → Addr} {hd : Hd} {H : Hp} {σ : L2.St} {io1 : Nat → Addr} {h1 : Hd} {H1 : Hp} {R : L2.It → Hp → Prop} {r : Rs (List D × Gd)} (n : Nxt g io hd H io1 h1 H1) (q : PostE r (PJ g io hd H R) (PX g W io hd H σ)) : PostE r (PJ g io1 h1 H1 R) (PX g W io1 h1 H1 σ) :=
  q.mono (fun _ _ z io' H' J n2 r w => z io' H' J (n.trans n2) r w) fun _ _ z => z.tr n
theorem i_e (eK : X.K = g.K) (ha : PE X a (rE g W T F ca)) : PI X tg a (rI g W T F (.e ca)) := by
  refine PI.imp (PI.or (pi_list ha) (PI.or (pi_tup ha) (pi_str ha))) fun σ H Q ⟨io, hd, sd, R, S, q⟩ => ?_
  rw [eK]
  have q : PostE (bnd (evE T F ca sd) walkE hd) (PJ g io hd H Q) (PX g W io hd H σ) := q
  cases e : evE T F ca sd hd with
  | ok x h1 =>
    simp only [bnd_app] at q
    rw [e] at q
    have q : PostE (walkE x h1) (PJ g io hd H Q) (PX g W io hd H σ) := q
    have mk : ∀ (Q2 : VK), (∀ io1 H1 v, Nxt g io hd H io1 h1 H1 → RH g io1 h1 H1 → RD g io1 h1.length H1 x v → Q2 v H1) → rE g W T F ca σ H Q2 := fun Q2 k => ⟨io, hd, sd, R, S, by rw [e]; exact k⟩
    cases x with
    | str s =>
      obtain ⟨_, q⟩ := must_post q
      exact .inr (.inr (mk _ fun io1 H1 v n1 R1 r1 => ⟨tS s, (rd_str.mp r1).1, q io1 H1 _ n1 R1 (iw_str (rd_str.mp r1).2)⟩))
    | tup ds =>
      refine .inr (.inl (mk _ fun io1 H1 v n1 R1 r1 => ?_))
      obtain ⟨p, vs, rfl, hs, r⟩ := rd_tup.mp r1
      exact ⟨p, rfl, ⟨vs, hs⟩, (show PJ g io hd H Q (ds, []) h1 from q) io1 H1 _ n1 R1 (iw_tup hs r)⟩
    | ref n =>
      unfold walkE at q
      dsimp only at q
      cases ho : h1[n]? with
      | none => rw [ho] at q; exact q.elim
      | some o =>
        rw [ho] at q
        cases o with
        | lst ds =>
          refine .inl (mk _ fun io1 H1 v n1 R1 r1 => ?_)
          obtain ⟨_, rfl⟩ := rd_ref.mp r1
          obtain ⟨vs, h2, _⟩ := R1.lst ho
          exact ⟨_, rfl, ⟨vs, SqL.of h2⟩, (show PJ g io hd H Q (ds, [(n, .lst ds)]) h1 from q) io1 H1 _ n1 R1 (iw_list (a := 0) (vs := []) R1 ho rfl)⟩
        | flst ds =>
          refine .inl (mk _ fun io1 H1 v n1 R1 r1 => ?_)
          obtain ⟨_, rfl⟩ := rd_ref.mp r1
          obtain ⟨vs, h2, _⟩ := (R1.obj n _ ho).flst_sq
          exact ⟨_, rfl, ⟨vs, h2⟩, (show PJ g io hd H Q (ds, [(n, .flst ds)]) h1 from q) io1 H1 _ n1 R1 (iw_list (a := 0) (vs := []) R1 ho rfl)⟩
        | dct _ => exact q.elim
        | ins _ _ => exact q.elim
    | _ => exact q.elim
  | er ex h1 =>
    refine .inl ⟨io, hd, sd, R, S, ?_⟩
    simp only [bnd_app] at q
    rw [e] at q ⊢
    exact q
  | no =>
    simp only [bnd_app] at q
    rw [e] at q
    exact q.elim
theorem in62_ok {i : Int} (h : in62 i = true) : -(2 ^ 62) ≤ i ∧ i < 2 ^ 62 := by
  unfold in62 at h
  rw [Bool.and_eq_true, decide_eq_true_iff, decide_eq_true_iff] at h
  omega
theorem i_rng1 {n : Nat} {N : Nm} (C : Cn g F N n X) (hg : glb X.env.scope "range" = true) (hf : N.fre "range" = true) (hs : isStar a = false) (ha : PE X a (rE g W T F ca)) : PI X tg (.Call (.Name "range" p) [a] [] pos) (rI g W T F (.rng1 ca)) := by
  refine PI.imp (pi_range1 (glb_ok rfl hg) (C.fre _ hf) (pa_cons ha pa_nil (star_cons hs)) (star_cons hs)) fun σ H Q ⟨io, hd, sd, R, S, q⟩ => ?_
  refine rdE.then_ R S q fun x h1 io1 H1 vx n1 R1 S1 rx q1 => ?_
  cases x with
  | int j =>
    obtain ⟨h2, q2⟩ := must_post q1
    obtain ⟨h3, h4⟩ := in62_ok h2
    refine ⟨j, by rw [rd_int.mp rx], h3, h4, q2 io1 H1 _ n1 R1 iw_rng⟩
  | _ => exact q1.elim
theorem i_rng2 {n : Nat} {N : Nm} (C : Cn g F N n X) (hg : glb X.env.scope "range" = true) (hf : N.fre "range" = true) (hs : isStar a = false) (hs2 : isStar b = false) (ha : PE X a (rE g W T F ca)) (hb : PE X b (rE g W T F cb)) :
    PI X tg (.Call (.Name "range" p) [a, b] [] pos) (rI g W T F (.rng2 ca cb)) := by
  have e1 : starEach [b] X.env = [(false, eval b X.env)] := star_cons hs2
  refine PI.imp (pi_range2 (glb_ok rfl hg) (C.fre _ hf) (pa_cons ha (pa_cons hb pa_nil e1) (star_cons hs)) (by rw [star_cons hs, e1]) e1) fun σ H Q ⟨io, hd, sd, R, S, q⟩ => ?_
  refine rdE.then_ R S q fun x h1 io1 H1 vx n1 R1 S1 rx q1 => ?_
  refine rdE.then_ R1 S1 (q1.onJ n1) fun y h2 io2 H2 vy n2 R2 S2 ry q2 => ?_
  cases x with
  | int i =>
    cases y with
    | int j =>
      obtain ⟨h3, q3⟩ := must_post q2
      rw [Bool.and_eq_true] at h3
      obtain ⟨h4, h5⟩ := in62_ok h3.1
      obtain ⟨h6, h7⟩ := in62_ok h3.2
      exact ⟨i, j, by rw [rd_int.mp rx, rd_int.mp ry], ⟨h4, h5, h6, h7⟩, q3 io2 H2 _ n2 R2 iw_rng⟩
    | _ => exact q2.elim
  | _ => exact q2.elim
theorem rngK_get (k : Int) : ∀ (n : Nat) (lo : Int) (i : Nat), i < n → (rngK lo k n)[i]? = some (.int (lo + (i : Nat) * k))
  | n + 1, lo, 0, _ => by simp [rngK]
  | n + 1, lo, i + 1, h => by
    show (rngK (lo + k) k n)[i]? = _
    rw [rngK_get k n (lo + k) i (by omega)]
    congr 2
    rw [show ((i + 1 : Nat) : Int) = (i : Int) + 1 by omega, Int.add_mul]
    omega
theorem rngK_len (k : Int) : ∀ (n : Nat) (lo : Int), (rngK lo k n).length = n
  | 0, _ => rfl
  | n + 1, lo => by simp [rngK, rngK_len k n]
theorem iw_rngK {io : Nat → Addr} {hd : Hd} {H : Hp} {lo k : Int} {n : Nat} : IW g io hd H (rngK lo k n) [] (Itc lo k n) := by
  refine ⟨fun _ => True, fun i H1 x H2 => i < n ∧ H2 = H1 ∧ x = .int (lo + (i : Nat) * k), ⟨fun i H1 hi _ => by rw [rngK_len] at hi; exact hi, fun _ _ => by show n ≤ _; rw [rngK_len]; exact Nat.le_refl _, fun i H1 x H2 hi _ y => ⟨by rw [rngK_len] at hi; exact hi, y⟩⟩, fun _ _ _ _ _ _ => trivial, fun i io1 h1 H1 v H2 N R1 hg y => ?_⟩
  obtain ⟨hi, rfl, rfl⟩ := y
  exact ⟨_, rngK_get k n lo i hi, R1, .refl, rd_int.mpr rfl⟩
theorem i_rng3 {n j : Nat} {N : Nm} {p1 p2 : Pos} (C : Cn g F N n X) (hg : glb X.env.scope "range" = true) (hf : N.fre "range" = true) (hs : isStar a = false) (hs2 : isStar b = false) (ha : PE X a (rE g W T F ca)) (hb : PE X b (rE g W T F cb)) :
    PI X tg (.Call (.Name "range" p) [a, b, .UnaryOp .USub (.Constant (.int 1) j p1) p2] [] pos) (rI g W T F (.rng3 ca cb (-1))) := by
  have e2 : starEach [.UnaryOp .USub (.Constant (.int 1) j p1) p2] X.env = [(false, eval (.UnaryOp .USub (.Constant (.int 1) j p1) p2) X.env)] := star_cons rfl
  have e1 : starEach [b, .UnaryOp .USub (.Constant (.int 1) j p1) p2] X.env = (false, eval b X.env) :: starEach [.UnaryOp .USub (.Constant (.int 1) j p1) p2] X.env := star_cons hs2
  have pc : PE X (.UnaryOp .USub (.Constant (.int 1) j p1) p2) (tUn (rU fun i => .int (-i)) (tC (.int 1))) := pe_un un_neg pe_int
  refine PI.imp (pi_range3 (glb_ok rfl hg) (C.fre _ hf) (pa_cons ha (pa_cons hb (pa_cons pc pa_nil e2) e1) (star_cons hs)) (star_cons hs) (by rw [e1, e2]; rfl)) fun σ H Q ⟨io, hd, sd, R, S, q⟩ => ?_
  refine rdE.then_ R S q fun x h1 io1 H1 vx n1 R1 S1 rx q1 => ?_
  refine rdE.then_ R1 S1 (q1.onJ n1) fun y h2 io2 H2 vy n2 R2 S2 ry q2 => ?_
  cases x with
  | int i =>
    cases y with
    | int k =>
      obtain ⟨h3, q3⟩ := must_post q2
      rw [Bool.and_eq_true, Bool.and_eq_true] at h3
      obtain ⟨h4, h5⟩ := in62_ok h3.1.1
      obtain ⟨h6, h7⟩ := in62_ok h3.1.2
      exact ⟨1, rfl, i, k, -1, (i - k).toNat, by rw [rd_int.mp rx, rd_int.mp ry], RgC.neg h4 h5 h6 h7, q3 io2 H2 _ n2 R2 iw_rngK⟩
    | _ => exact q2.elim
  | _ => exact q2.elim
/-- a sequence: where it stands -/
theorem seq_post {α : Type} {io : Nat → Addr} {hd : Hd} {H : Hp} {x : D} {vx : V} {f : List D × Gd → M α} {P : α → Hd → Prop} {E : Exn → Hd → Prop} (R : RH g io hd H) (rx : RD g io hd.length H x vx) (q : PostE (bnd (seqE x) f hd) P E) :
    (∃ ds a vs, x = .tup ds ∧ vx = .ref a ∧ SqT g.K H a vs ∧ RDs g io hd.length H ds vs ∧ PostE (f (ds, []) hd) P E) ∨
    ∃ n o ds vs, x = .ref n ∧ vx = .ref (io n) ∧ hd[n]? = some o ∧ o.list? = some ds ∧ SqL g.K H (io n) vs ∧ RDs g io hd.length H ds vs ∧ PostE (f (ds, [(n, o)]) hd) P E := by
  unfold seqE at q
  cases x with
  | tup ds =>
    obtain ⟨a, vs, rfl, hs, r⟩ := rd_tup.mp rx
    exact .inl ⟨ds, a, vs, rfl, rfl, hs, r, q⟩
  | ref n =>
    obtain ⟨_, rfl⟩ := rd_ref.mp rx
    simp only [bnd_app] at q
    cases ho : hd[n]? with
    | none => rw [ho] at q; exact q.elim
    | some o =>
      rw [ho] at q
      cases o with
      | lst ds =>
        obtain ⟨vs, h1, r⟩ := R.lst ho
        exact .inr ⟨n, _, ds, vs, rfl, rfl, ho, rfl, SqL.of h1, r, q⟩
      | flst ds =>
        obtain ⟨vs, h1, r⟩ := (R.obj n _ ho).flst_sq
        exact .inr ⟨n, _, ds, vs, rfl, rfl, ho, rfl, h1, r, q⟩
      | dct _ => exact q.elim
      | ins _ _ => exact q.elim
  | _ => exact q.elim
theorem i_enm {n kk : Nat} {N : Nm} {elts : List Expr} {tpos : Pos} (C : Cn g F N n X) (hg : glb X.env.scope "enumerate" = true) (hf : N.fre "enumerate" = true) (hs : isStar a = false) (ha : PE X a (rE g W T F ca)) :
    PI X (.Tuple elts kk tpos) (.Call (.Name "enumerate" p) [a] [] pos) (rI g W T F (.enm ca)) := by
  refine PI.imp (pi_enum (glb_ok rfl hg) (C.fre _ hf) (pa_cons ha pa_nil (star_cons hs)) (star_cons hs)) fun σ H Q ⟨io, hd, sd, R, S, q⟩ => ?_
  refine rdE.then_ R S q fun x h1 io1 H1 vx n1 R1 S1 rx q1 => ?_
  obtain ⟨h2, q2⟩ := must_post q1
  rw [C.eK]
  rcases seq_post R1 rx q2 with ⟨ds, a, vs, rfl, _⟩ | ⟨m, o, ds, vs, rfl, rfl, ho, hl, h3, r, q3⟩
  · cases h2
  · exact ⟨_, vs, rfl, h3, (show PJ g io hd H Q (enmL 0 ds, [(m, o)]) h1 from q3) io1 H1 _ n1 R1 (iw_enm R1 ho hl)⟩
theorem i_zip {n kk : Nat} {N : Nm} {elts : List Expr} {tpos : Pos} (C : Cn g F N n X) (hg : glb X.env.scope "zip" = true) (hf : N.fre "zip" = true) (hs : isStar a = false) (hs2 : isStar b = false) (ha : PE X a (rE g W T F ca)) (hb : PE X b (rE g W T F cb)) :
    PI X (.Tuple elts kk tpos) (.Call (.Name "zip" p) [a, b] [] pos) (rI g W T F (.zip ca cb)) := by
  have e1 : starEach [b] X.env = [(false, eval b X.env)] := star_cons hs2
  refine PI.imp (RZ.pi_zipA (glb_ok rfl hg) (C.fre _ hf) (pa_cons ha (pa_cons hb pa_nil e1) (star_cons hs)) (star_cons hs) (by rw [e1]; rfl)) fun σ H Q ⟨io, hd, sd, R, S, q⟩ => ?_
  refine rdE.then_ R S q fun x h1 io1 H1 vx n1 R1 S1 rx q1 => ?_
  refine rdE.then_ R1 S1 (q1.onJ n1) fun y h2 io2 H2 vy n2 R2 S2 ry q2 => ?_
  have rx := n2.rd rx
  rw [C.eK]
  rcases seq_post R2 rx q2 with ⟨ds, a, vs, rfl, rfl, h3, r, q3⟩ | ⟨m, o, ds, vs, rfl, rfl, ho, hl, h3, r, q3⟩
  · rcases seq_post R2 ry q3 with ⟨ds', a', vs', rfl, rfl, h3', r', q4⟩ | ⟨m', o', ds', vs', rfl, rfl, ho', hl', h3', r', q4⟩
    · obtain ⟨_, q5⟩ := must_post q4
      exact ⟨a, a', vs, vs', rfl, .inr ⟨h3, h3', (show PJ g io1 h1 H1 Q (zipL ds ds', []) h2 from q5) io2 H2 _ n2 R2 (iw_zipT h3 r h3' r')⟩⟩
    · obtain ⟨h, _⟩ := must_post q4
      cases h
  · rcases seq_post R2 ry q3 with ⟨ds', a', vs', rfl, rfl, h3', r', q4⟩ | ⟨m', o', ds', vs', rfl, rfl, ho', hl', h3', r', q4⟩
    · obtain ⟨h, _⟩ := must_post q4
      cases h
    · obtain ⟨_, q5⟩ := must_post q4
      exact ⟨_, _, vs, vs', rfl, .inl ⟨h3, h3', (show PJ g io1 h1 H1 Q (zipL ds ds', [(m, o), (m', o')]) h2 from q5) io2 H2 _ n2 R2 (iw_zip R2 ho hl ho' hl')⟩⟩
theorem i_rev {n : Nat} {N : Nm} (C : Cn g F N n X) (hg : glb X.env.scope "reversed" = true) (hf : N.fre "reversed" = true) (hs : isStar a = false) (ha : PE X a (rE g W T F ca)) : PI X tg (.Call (.Name "reversed" p) [a] [] pos) (rI g W T F (.rev ca)) := by
  refine PI.imp (RT.pi_revA (glb_ok rfl hg) (C.fre _ hf) ha (star_cons hs)) fun σ H Q ⟨io, hd, sd, R, S, q⟩ => ?_
  refine rdE.then_ R S q fun x h1 io1 H1 vx n1 R1 S1 rx q1 => ?_
  rw [C.eK]
  rcases seq_post R1 rx q1 with ⟨ds, a, vs, rfl, rfl, h3, r, q3⟩ | ⟨m, o, ds, vs, rfl, rfl, ho, hl, h3, r, q3⟩
  · refine ⟨a, vs, rfl, .inr ⟨h3, ?_⟩⟩
    rw [← r.len]
    exact (show PJ g io hd H Q (ds.reverse, []) h1 from q3) io1 H1 _ n1 R1 (iw_revT h3 r)
  · refine ⟨_, vs, rfl, .inl ⟨h3, ?_⟩⟩
    rw [← r.len]
    exact (show PJ g io hd H Q (ds.reverse, [(m, o)]) h1 from q3) io1 H1 _ n1 R1 (iw_rev R1 ho hl)

/-! ### comprehensions -/
theorem ner_gd (gs : Gd) (h : Hd) : ner (gd gs h) := by
  unfold gd
  cases gdOk gs h <;> trivial
theorem ner_noer {α : Type} (m : M α) (h : Hd) : ner (noer m h) := by
  unfold noer
  cases m h <;> trivial
theorem ner_comp {gs : Gd} {f : D → M (List D)} : ∀ (xs : List D) (h : Hd), ner (comp gs f xs h)
  | [], h => ner_bnd (ner_gd _ _) fun _ _ => trivial
  | x :: xs, h => ner_bnd (ner_gd _ _) fun _ h1 => ner_bnd (ner_noer _ _) fun _ h2 => ner_bnd (ner_comp xs h2) fun _ _ => trivial
theorem PostE.ok_of {α : Type} {r : Rs α} {P : α → Hd → Prop} {E : Exn → Hd → Prop} (q : PostE r P E) (h : ner r) : ∃ a h', r = .ok a h' ∧ P a h' := by
  cases r with
  | ok a h' => exact ⟨a, h', rfl, q⟩
  | er _ _ => exact h.elim
  | no => exact q.elim
theorem gd_post {α : Type} {gs : Gd} {f : Unit → M α} {h : Hd} {P : α → Hd → Prop} {E : Exn → Hd → Prop} (q : PostE (bnd (gd gs) f h) P E) : gdOk gs h = true ∧ PostE (f () h) P E := by
  unfold gd at q
  simp only [bnd_app] at q
  cases e : gdOk gs h with
  | true => rw [e] at q; exact ⟨rfl, q⟩
  | false => rw [e] at q; exact q.elim
theorem noer_post {α β : Type} {m : M β} {f : β → M α} {h : Hd} {P : α → Hd → Prop} {E : Exn → Hd → Prop} (q : PostE (bnd (noer m) f h) P E) : PostE (m h) (fun b h' => PostE (f b h') P E) (fun _ _ => False) := by
  simp only [bnd_app] at q
  unfold noer at q
  cases e : m h <;> rw [e] at q <;> exact q
/-- a loose list becomes ours -/
theorem own_loose {io io1 : Nat → Addr} {hd h1 : Hd} {H H1 : Hp} {D' : Addr} {acc : List D} {us : List V} (hD : H D' = none) (n : Nxt g io hd H io1 h1 H1) (R : RH g io1 h1 H1) (hl : H1 D' = some (.lst us)) (hn : ¬ Ours h1 io1 D') (r : RDs g io1 h1.length H1 acc us) :
    RH g (ext io1 h1.length D') (h1 ++ [.lst acc]) H1 ∧ Nxt g io hd H (ext io1 h1.length D') (h1 ++ [.lst acc]) H1 := by
  have ag : ∀ i, i < h1.length → ext io1 h1.length D' i = io1 i := fun i h => ext_ne (Nat.ne_of_lt h)
  have hlen : (h1 ++ [O.lst acc]).length = h1.length + 1 := by simp
  have at_ : ∀ {i : Nat} {ob : O}, (h1 ++ [O.lst acc])[i]? = some ob → (h1[i]? = some ob ∧ i < h1.length) ∨ (i = h1.length ∧ ob = .lst acc) := fun {i ob} e => by
    by_cases hi : i < h1.length
    · rw [List.getElem?_append_left hi] at e
      exact .inl ⟨e, hi⟩
    · have h2 : i = h1.length := by
        have := (List.getElem?_eq_some_iff.mp e).1
        rw [hlen] at this
        omega
      subst h2
      exact .inr ⟨rfl, by simpa using e.symm⟩
  refine ⟨⟨fun i j a b e1 e2 m1 m2 e => ?_, fun i ob e => ?_⟩, ⟨by rw [hlen]; exact Nat.le_succ_of_le n.le, fun i h => (ag i (Nat.lt_of_lt_of_le h n.le)).trans (n.agr i h), n.tup, fun a xs l e nn => ?_⟩⟩
  · rcases at_ e1 with ⟨g1, l1⟩ | ⟨rfl, rfl⟩
    · rcases at_ e2 with ⟨g2, l2⟩ | ⟨rfl, rfl⟩
      · rw [ag i l1, ag j l2] at e
        exact R.inj i j a b g1 g2 m1 m2 e
      · rw [ag i l1, ext_same] at e
        exact (hn ⟨i, a, g1, m1, e⟩).elim
    · rcases at_ e2 with ⟨g2, l2⟩ | ⟨rfl, rfl⟩
      · rw [ag j l2, ext_same] at e
        exact (hn ⟨j, b, g2, m2, e.symm⟩).elim
      · rfl
  · rw [hlen]
    rcases at_ e with ⟨g1, l1⟩ | ⟨rfl, rfl⟩
    · rw [ag i l1]
      exact (R.obj i ob g1).mono_ne (Nat.le_succ _) ag (fun _ _ z => z) fun _ z => z
    · rw [ext_same]
      exact ⟨us, hl, r.mono (Nat.le_succ _) ag fun _ _ z => z⟩
  · obtain ⟨k1, k2⟩ := n.frm a xs l e nn
    refine ⟨k1, ?_⟩
    rintro ⟨i, ob, e1, m, e2⟩
    rcases at_ e1 with ⟨g1, l1⟩ | ⟨rfl, rfl⟩
    · rw [ag i l1] at e2
      exact k2 ⟨i, ob, g1, m, e2⟩
    · rw [ext_same] at e2
      subst e2
      rw [hD] at e
      cases e
/-- a loose list is written: what was before stays before -/
theorem Nxt.loose {io io1 : Nat → Addr} {hd h1 : Hd} {H H1 : Hp} {D' : Addr} {u : HO} (hD : H D' = none) (n : Nxt g io hd H io1 h1 H1) (kt : ∀ a vs, SqT g.K H1 a vs → SqT g.K (upd H1 D' u) a vs) : Nxt g io hd H io1 h1 (upd H1 D' u) :=
  ⟨n.le, n.agr, fun a vs h => kt a vs (n.tup a vs h), fun a xs l e nn => by
    obtain ⟨k1, k2⟩ := n.frm a xs l e nn
    refine ⟨?_, k2⟩
    rw [upd_ne (ne_of_none e hD)]
    exact k1⟩
/-- a turn's work -/
def turnE (T : Tab) (F : Nat → List D → M D) (t : Tg) (elt : CE) (c : Option CT) (own : List Nat) (σ : St) (x : D) : M (List D) := bnd (lft (asg t x (wp σ own))) fun σ' => match c with
      | none => bnd (evE T F elt σ') fun v => ret [v]
      | some c => bnd (evT T F c σ') fun k => match k with
        | true => bnd (evE T F elt σ') fun v => ret [v]
        | false => ret []
theorem evE_comp (own : List Nat) (elt : CE) (t : Tg) (it : Wk) (c : Option CT) (σ : St) : evE T F (.comp own elt t it c) σ = bnd (evI T F it σ) (fun p => bnd (comp p.2 (turnE T F t elt c own σ) p.1) fun vs => bnd (must (decide (vs.length ≤ LIM))) fun _ => new (.lst vs)) := by
  cases c <;> rfl
/-- what is told of a comprehension's condition -/
def rC (g : Wd) (T : Tab) (F : Nat → List D → M D) : Option CT → TT
  | none => tYes
  | some c => rT g (fun _ _ _ _ => False) T F c
theorem PX_none {io : Nat → Addr} {hd : Hd} {H : Hp} {σ : L2.St} {α : Type} {r : Rs α} {P : α → Hd → Prop} (q : PostE r P (fun _ _ => False)) : PostE r P (PX g (fun _ _ _ _ => False) io hd H σ) := q.mono (fun _ _ z => z) fun _ _ z => z.elim
theorem lc_read {own : List Nat} {elt : CE} {t : Tg} {it : Wk} {c : Option CT} {σ : L2.St} {H : Hp} {Q : VK} (ht : ∀ j ∈ t.sl, j ∈ own) (q : rE g W T F (.comp own elt t it c) σ H Q) :
    tLc (rI g W T F it) (rdG g t) (rC g T F c) (rE g (fun _ _ _ _ => False) T F elt) own σ H Q := by
  obtain ⟨io, hd, sd, R, S, q⟩ := q
  have q : PostE (bnd (evI T F it sd) (fun p => bnd (comp p.2 (turnE T F t elt c own sd) p.1) fun vs => bnd (must (decide (vs.length ≤ LIM))) fun _ => new (.lst vs)) hd) (PQ g io hd H Q) (PX g W io hd H σ) := by
    have q := q
    rw [evE_comp] at q
    exact q
  refine ⟨io, hd, sd, R, S, ?_⟩
  refine (PostE.of_bnd q).mono (fun p h1 q1 io1 H1 J n1 R1 iw D' hD => ?_) fun _ _ z => z
  obtain ⟨xs, gs⟩ := p
  obtain ⟨G, Y, wk, hG, hY⟩ := iw
  have S1 := n1.rs S
  have q1 : PostE (bnd (comp gs (turnE T F t elt c own sd) xs) (fun vs => bnd (must (decide (vs.length ≤ LIM))) fun _ => new (.lst vs)) h1) (PQ g io hd H Q) (PX g W io hd H σ) := q1
  obtain ⟨vs, hE, eE, qE⟩ := PostE.ok_of (PostE.of_bnd q1) (ner_comp _ _)
  obtain ⟨qL, qN⟩ := must_post qE
  have qL : vs.length ≤ LIM := of_decide_eq_true qL
  have qN : PQ g io hd H Q (.ref hE.length) (hE ++ [.lst vs]) := qN
  -- the invariant: what is left of the walk gives what is left of the list
  let Pv : Nat → Hp → Prop := fun i H2 => ∃ io2 h2 acc us rest, Nxt g io1 h1 H1 io2 h2 H2 ∧ RH g io2 h2 H2 ∧ H2 D' = some (.lst us) ∧ ¬ Ours h2 io2 D' ∧ RDs g io2 h2.length H2 acc us ∧ comp gs (turnE T F t elt c own sd) (xs.drop i) h2 = .ok rest hE ∧ acc ++ rest = vs
  have gdk : ∀ (ys : List D) (h2 : Hd) rest hE, comp gs (turnE T F t elt c own sd) ys h2 = .ok rest hE → gdOk gs h2 = true := fun ys h2 rest hE e => by
    cases e2 : gdOk gs h2 with
    | true => rfl
    | false =>
      cases ys <;> (unfold comp gd at e; simp only [bnd_app] at e; rw [e2] at e; cases e)
  refine lc_it wk Pv ?_ (fun i H2 _ ⟨io2, h2, acc, us, rest, n2, R2, _, _, _, e, _⟩ => hG io2 h2 H2 n2 R2 (gdk _ _ _ _ e)) (fun i x H2 H3 hi ⟨io2, h2, acc, us, rest, n2, R2, hl, hn, ra, ec, ev⟩ y => ?_) (fun H2 ⟨io2, h2, acc, us, rest, n2, R2, hl, hn, ra, ec, ev⟩ => ?_)
  · obtain ⟨R2, kt⟩ := step_loose (u := .lst []) R1 (.inl hD) (not_ours R1 hD)
    exact ⟨io1, h1, [], [], vs, Nxt.loose hD .refl kt, R2, upd_same, not_ours R1 hD, .nil, eE, rfl⟩
  · -- a turn
    obtain ⟨d, hx, R3, n3, rx⟩ := hY i io2 h2 H2 x H3 n2 R2 (gdk _ _ _ _ ec) y
    have hdr : xs.drop i = d :: xs.drop (i + 1) := by
      have hi' := (List.getElem?_eq_some_iff.mp hx)
      obtain ⟨hi', rfl⟩ := hi'
      exact List.drop_eq_getElem_cons hi'
    rw [hdr] at ec
    have q2 : PostE (comp gs (turnE T F t elt c own sd) (d :: xs.drop (i + 1)) h2) (fun r h => r = rest ∧ h = hE) (fun _ _ => False) := by rw [ec]; exact ⟨rfl, rfl⟩
    obtain ⟨_, q2⟩ := gd_post q2
    have q2 := noer_post q2
    obtain ⟨sd', ea, q2⟩ := lft_post q2
    obtain ⟨hl3, hn3⟩ := n3.frm D' _ (.inl ⟨us, rfl⟩) hl hn
    have S3 : RS g io2 h2.length H3 (wp sd own) (L2.wipe σ own) := RS.wipe (n3.rs (n2.rs S1)) own
    refine ⟨io2, h2, wp sd own, d, sd', R3, S3, rx, ea, fun σ2 S2 ch => ⟨ch.wipe ht, ?_⟩⟩
    -- behind the condition
    have fin : ∀ (E : Exn → Hd → Prop) io4 h4 H4, Nxt g io2 h2 H3 io4 h4 H4 → RH g io4 h4 H4 → PostE (bnd (comp gs (turnE T F t elt c own sd) (xs.drop (i + 1))) (fun ws => ret ws) h4) (fun r h => r = rest ∧ h = hE) E → Pv (i + 1) H4 := fun E io4 h4 H4 n4 R4 q4 => by
      obtain ⟨hl4, hn4⟩ := n4.frm D' _ (.inl ⟨us, rfl⟩) hl3 hn3
      obtain ⟨ws, h5, e5, q5⟩ := PostE.ok_of (PostE.of_bnd q4) (ner_comp _ _)
      obtain ⟨rfl, rfl⟩ := q5
      exact ⟨io4, h4, acc, us, _, (n2.trans n3).trans n4, R4, hl4, hn4, n4.rds (n3.rds ra), e5, ev⟩
    have work : ∀ io4 h4 H4, Nxt g io2 h2 H3 io4 h4 H4 → RH g io4 h4 H4 → RS g io4 h4.length H4 sd' σ2 →
        PostE (bnd (evE T F elt sd') (fun v => ret [v]) h4) (fun b h' => PostE ((fun vs => bnd (comp gs (turnE T F t elt c own sd) (xs.drop (i + 1))) fun ws => ret (vs ++ ws)) b h') (fun r h => r = rest ∧ h = hE) (fun _ _ => False)) (PX g (fun _ _ _ _ => False) io4 h4 H4 σ2) →
        rE g (fun _ _ _ _ => False) T F elt σ2 H4 fun y H5 => ∃ acc, H5 D' = some (.lst acc) ∧ acc.length < sizeLine ∧ Pv (i + 1) (upd H5 D' (.lst (acc ++ [y]))) := fun io4 h4 H4 n4 R4 S4 q4 => by
      refine rdE.then_ R4 S4 q4 fun v h5 io5 H5 vv n5 R5 S5 rv q5 => ?_
      have n35 := n4.trans n5
      obtain ⟨hl5, hn5⟩ := n35.frm D' _ (.inl ⟨us, rfl⟩) hl3 hn3
      obtain ⟨R6, kt⟩ := step_loose (u := .lst (us ++ [vv])) R5 (.inr ⟨_, .inl ⟨us, rfl⟩, hl5⟩) hn5
      have q5 : PostE (bnd (comp gs (turnE T F t elt c own sd) (xs.drop (i + 1))) (fun ws => ret ([v] ++ ws)) h5) (fun r h => r = rest ∧ h = hE) (fun _ _ => False) := by
        have q5 : PostE (bnd (comp gs (turnE T F t elt c own sd) (xs.drop (i + 1))) (fun ws => ret ([v] ++ ws)) h5) (fun r h => r = rest ∧ h = hE) (fun _ _ => False) := q5
        exact q5
      obtain ⟨ws, h6, e6, q6⟩ := PostE.ok_of (PostE.of_bnd q5) (ner_comp _ _)
      obtain ⟨er, rfl⟩ := q6
      have r5 : RDs g io5 h5.length H5 acc us := n35.rds (n3.rds ra)
      refine ⟨us, hl5, ?_, io5, h5, acc ++ [v], us ++ [vv], ws, Nxt.loose hD (((n2.trans n3).trans n4).trans n5) kt, R6, upd_same, hn5, (r5.append (.one rv)).mono (Nat.le_refl _) (fun _ _ => rfl) kt, e6, ?_⟩
      · rw [line_eq, ← r5.len]
        have : (acc ++ [v] ++ ws).length ≤ LIM := by
          have : acc ++ ([v] ++ ws) = vs := by rw [er, ev]
          rw [List.append_assoc, this]; exact qL
        simp only [List.length_append, List.length_cons, List.length_nil] at this
        omega
      · rw [List.append_assoc, er, ev]
    cases c with
    | none =>
      unfold rC tYes
      dsimp only
      rw [if_pos rfl]
      exact work io2 h2 H3 .refl R3 S2 (PX_none q2)
    | some c =>
      refine rdT.then_ R3 S2 (k := fun k => match k with
        | true => bnd (evE T F elt sd') fun v => ret [v]
        | false => ret []) (PX_none q2) fun k h4 io4 H4 n4 R4 S4 q4 => ?_
      cases k with
      | true =>
        rw [if_pos rfl]
        exact work io4 h4 H4 n4 R4 S4 (q4.mono (fun _ _ z => z) fun _ _ z => z.tr n4)
      | false =>
        rw [if_neg (by decide)]
        exact fin _ io4 h4 H4 n4 R4 q4
  · -- the end
    have hdr : xs.drop xs.length = [] := List.drop_length
    rw [hdr] at ec
    have : rest = [] ∧ h2 = hE := by
      unfold comp gd at ec
      simp only [bnd_app] at ec
      cases e : gdOk gs h2 with
      | true => rw [e] at ec; cases ec; exact ⟨rfl, rfl⟩
      | false => rw [e] at ec; cases ec
    obtain ⟨rfl, rfl⟩ := this
    rw [List.append_nil] at ev
    subst ev
    obtain ⟨R5, n5⟩ := own_loose hD n2 R2 hl hn ra
    exact qN _ H2 _ (n1.trans n5) R5 (rd_ref.mpr ⟨by simp, by rw [ext_same]⟩)
end
end U
end

section
set_option maxRecDepth 100000
set_option maxHeartbeats 1000000
/-! The translation of expressions, and that it is right. -/
namespace U
open PySem L2

def isSetD : Expr → Bool
  | .Set .. => true
  | _ => false
theorem folded_of {e : Expr} {env : Env} (h : isSetD e = false) : ∀ x, foldedSetIterable e env x = pure x := by
  intro x
  cases e <;> first | rfl | cases h
/-- a block's own names, and their slots -/
def ownOf (ns : List Str) (scope : Scope) : List (Str × Nat) := scope.names.filterMap fun y => match y.2 with
  | .local => (ixOf ns y.1).map fun i => (y.1, i)
  | .cell => (ixOf ns y.1).map fun i => (y.1, i)
  | _ => none
def inner (scope : Scope) (x : Str) : Bool := match scope.names.lookup x with
  | some .local => true
  | some .cell => true
  | _ => false
def outerT (scope : Scope) (x : Str) : Bool := match scope.names.lookup x with
  | some .local => true
  | _ => false
def trName (N : Nm) (ns : List Str) (sc : Scope) (x : Str) : Option CE :=
  if okName x then (if vis sc x then (ixOf ns x).map .var else if glb sc x then (N.cst x).map .cst else none) else none
def trConst (c : Const) : Option CE := match c with
  | .int i => some (.cst (.int i))
  | .bool b => some (.cst (.bl b))
  | .none => some (.cst .non)
  | .str s => if okTx s.cps.toList then some (.cst (.str s.cps.toList)) else none
  | _ => none
def trCall (N : Nm) (sc : Scope) (x : Str) (es : List Expr) (r : Option CEs) : Option CE :=
  if okName x && glb sc x && (es.all fun e => !isStar e) && !es.isEmpty then
    match N.fn x with
    | some f => r.map (.call f)
    | none => if N.fre x then (biL.lookup x).bind fun b => r.map (.blt b) else none
  else none
def trIsi (N : Nm) (sc : Scope) (x : Str) (es : List Expr) : Option (Expr × Ty) :=
  if x == "isinstance" && glb sc x && N.fre x then match es with
    | [e, .Name t _] => if okName t && glb sc t && N.fre t && !isStar e then (tyL.lookup t).map fun t' => (e, t') else none
    | _ => none
  else none
def isTupE : Expr → Bool
  | .Tuple .. => true
  | _ => false
/-- a display's pairs -/
def trKs (f : Expr → Option CE) : List (Option Expr) → List Expr → Option CEs
  | [], [] => some .nil
  | some k :: ks, v :: vs => (f k).bind fun k => (f v).bind fun v => (trKs f ks vs).map fun r => .cons k (.cons v r)
  | _, _ => none
mutual
def trE (N : Nm) (ns : List Str) : Nat → Scope → Expr → Option CE
  | 0, _, _ => none
  | k + 1, sc, e => match e with
    | .Name x _ => trName N ns sc x
    | .Constant c _ _ => trConst c
    | .BinOp a o b _ => (trOp o).bind fun o => (trE N ns k sc a).bind fun a => (trE N ns k sc b).map fun b => .bin o a b
    | .UnaryOp o a _ => (match o with
      | .USub => (trE N ns k sc a).map .neg
      | .Not => (trE N ns k sc a).map .not
      | _ => none)
    | .BoolOp o es pos => (match es with
      | [] => none
      | [a] => trE N ns k sc a
      | a :: b :: r => (trE N ns k sc a).bind fun a => (trE N ns k sc (.BoolOp o (b :: r) pos)).map fun b => match o with
        | .And => .and a b
        | .Or => .or a b)
    | .IfExp c a b _ => (trT N ns k sc c).bind fun c => (trE N ns k sc a).bind fun a => (trE N ns k sc b).map fun b => .ite c a b
    | .Compare a ops cs _ => (match ops, cs with
      | [o], [b] => if behindInMarks o b then none else (trE N ns k sc a).bind fun a => (trE N ns k sc b).map fun b => .cmp (trCmp o) a b
      | [o, o'], [b, c] => if lastMarks [o, o'] [b, c] then none else (trE N ns k sc a).bind fun a => (trE N ns k sc b).bind fun b => (trE N ns k sc c).map fun c => .chn (trCmp o) (trCmp o') a b c
      | _, _ => none)
    | .Tuple es _ _ => (trEs N ns k sc es).map .tup
    | .List es _ => (trEs N ns k sc es).map .lst
    | .Dict keys values _ => if decide (keys.length ≤ 15) then (trKs (trE N ns k sc) keys values).map .dct else none
    | .Subscript a i _ => (match i with
      | .Slice lo hi st _ => (match st with
        | none => (trE N ns k sc a).bind fun a => (match lo with
            | none => some (CE.cst D.non)
            | some l => (trE N ns k sc l).bind fun l => if isNonC l then none else some l).bind fun l => (match hi with
            | none => some (CE.cst D.non)
            | some h => (trE N ns k sc h).bind fun h => if isNonC h then none else some h).map fun h => .slc a l h
        | some s => (match lo, hi, s with
          | none, none, .UnaryOp .USub (.Constant (.int j) _ _) _ => if j = 1 then (trE N ns k sc a).map fun a => .blt .rvs (.cons a .nil) else none
          | _, _, _ => none))
      | i => if isSlice i then none else (trE N ns k sc a).bind fun a => (trE N ns k sc i).map fun i => .idx a i)
    | .Call f es kws pos => (match kws with
      | _ :: _ => none
      | [] => match f with
        | .Name x _ => (match trIsi N sc x es with
          | some p => (trE N ns k sc p.1).map fun e => .blt (.isi p.2) (.cons e .nil)
          | none => trCall N sc x es (trEs N ns k sc es))
        | .Attribute o m apos => if okBase o && (apos.endLine == pos.line) && decide (es.length < 30) && (es.all fun e => !isStar e) then (bmL.lookup m).bind fun b => (trE N ns k sc o).bind fun o => (trEs N ns k sc es).map fun es => .bmt b o es else none
        | _ => none)
    | .ListComp elt gs scope _ => (match gs with
      | [⟨tg, it, ifs, as⟩] => if decide (as = 0) && blkC ns sc scope (ownOf ns scope) && !isSetD it then
          (trTg ns (inner scope) 20 tg).bind fun t => if (t.sl.all fun j => decide (j ∈ (ownOf ns scope).map (fun p : Str × Nat => p.2))) then (trI N ns k sc tg it).bind fun w => (match ifs with
            | [] => (some none : Option (Option CT))
            | [c] => (trT N ns k (relS scope sc) c).map some
            | _ => none).bind fun c => (trE N ns k (relS scope sc) elt).map fun elt => .comp ((ownOf ns scope).map (fun p : Str × Nat => p.2)) elt t w c
          else none
        else none
      | _ => none)
    | _ => none
def trEs (N : Nm) (ns : List Str) : Nat → Scope → List Expr → Option CEs
  | 0, _, _ => none
  | k + 1, sc, es => match es with
    | [] => some .nil
    | e :: r => if isStar e then none else (trE N ns k sc e).bind fun e => (trEs N ns k sc r).map fun r => .cons e r
def trT (N : Nm) (ns : List Str) : Nat → Scope → Expr → Option CT
  | 0, _, _ => none
  | k + 1, sc, e => match e with
    | .BoolOp o es pos => (match es with
      | [] => none
      | [a] => trT N ns k sc a
      | a :: b :: r => (trT N ns k sc a).bind fun a => (trT N ns k sc (.BoolOp o (b :: r) pos)).map fun b => match o with
        | .And => .and a b
        | .Or => .or a b)
    | .UnaryOp o a _ => (match o with
      | .Not => (trT N ns k sc a).map .not
      | _ => none)
    | .Compare a ops cs _ => (match ops, cs with
      | [o], [b] => if behindInMarks o b then none else (trE N ns k sc a).bind fun a => (trE N ns k sc b).map fun b => .val (.cmp (trCmp o) a b)
      | [o, o'], [b, c] => if lastMarks [o, o'] [b, c] then none else (trE N ns k sc a).bind fun a => (trE N ns k sc b).bind fun b => (trE N ns k sc c).map fun c => .val (.chn (trCmp o) (trCmp o') a b c)
      | _, _ => none)
    | e => if plainT e then (trE N ns k sc e).map .val else none
def trI (N : Nm) (ns : List Str) : Nat → Scope → Expr → Expr → Option Wk
  | 0, _, _, _ => none
  | k + 1, sc, tg, it => match it with
    | .Call f es kws _ => (match f, kws with
      | .Name x _, [] => if glb sc x && N.fre x then (match es with
          | [a] => if isStar a then none else if x == "range" then (trE N ns k sc a).map .rng1 else if x == "enumerate" then (if isTupE tg then (trE N ns k sc a).map .enm else none) else if x == "reversed" then (trE N ns k sc a).map .rev else (trE N ns k sc it).map .e
          | [a, b] => if isStar a || isStar b then none else if x == "range" then (trE N ns k sc a).bind fun a => (trE N ns k sc b).map fun b => .rng2 a b else if x == "zip" then (if isTupE tg then (trE N ns k sc a).bind fun a => (trE N ns k sc b).map fun b => .zip a b else none) else (trE N ns k sc it).map .e
          | [a, b, c] => (match c with
            | .UnaryOp .USub (.Constant (.int j) _ _) _ => if isStar a || isStar b then none else if x == "range" && decide (j = 1) then (trE N ns k sc a).bind fun a => (trE N ns k sc b).map fun b => .rng3 a b (-1) else none
            | _ => none)
          | _ => (trE N ns k sc it).map .e)
        else (trE N ns k sc it).map .e
      | _, _ => (trE N ns k sc it).map .e)
    | it => (trE N ns k sc it).map .e
end

section
variable {g : Wd} {T : Tab} {F : Nat → List D → M D} {N : Nm} {ns : List Str} {n : Nat}
theorem Cn.blk {X : Cx} (C : Cn g F N n X) (s : Shared) (H : Hp) (scope : Scope) (cenv : Env) (fp : List Addr) : Cn g F N n (X.blk s H scope cenv fp) :=
  ⟨C.eK, C.calm, C.room, C.nd, C.fn, C.cst, C.fre, PassesOwn.never⟩
theorem takes_blk {X : Cx} (s : Shared) (H : Hp) (scope : Scope) (cenv : Env) (fp : List Addr) : Takes (X.blk s H scope cenv fp) (fun _ _ _ _ => False) := fun u s' ⟨_, _, _, _, _, _, _, _, _, _, _, _, _, _, _, _, w⟩ => w
def SE (g : Wd) (T : Tab) (F : Nat → List D → M D) (N : Nm) (ns : List Str) (n k : Nat) : Prop := ∀ (e : Expr) (sc : Scope) (c : CE) (W : WX) (X : Cx), trE N ns k sc e = some c → Cn g F N n X → X.N = ns → X.env.scope = sc → Takes X W → PE X e (rE g W T F c)
def SA (g : Wd) (T : Tab) (F : Nat → List D → M D) (N : Nm) (ns : List Str) (n k : Nat) : Prop := ∀ (es : List Expr) (sc : Scope) (c : CEs) (W : WX) (X : Cx), trEs N ns k sc es = some c → Cn g F N n X → X.N = ns → X.env.scope = sc → Takes X W → PA X es (rA g W T F c)
def ST (g : Wd) (T : Tab) (F : Nat → List D → M D) (N : Nm) (ns : List Str) (n k : Nat) : Prop := ∀ (e : Expr) (sc : Scope) (c : CT) (W : WX) (X : Cx), trT N ns k sc e = some c → Cn g F N n X → X.N = ns → X.env.scope = sc → Takes X W → PT X e (rT g W T F c)
def SW (g : Wd) (T : Tab) (F : Nat → List D → M D) (N : Nm) (ns : List Str) (n k : Nat) : Prop := ∀ (o : BoolOp) (es : List Expr) (pos : Pos) (sc : Scope) (c : CT) (W : WX) (X : Cx), trT N ns k sc (.BoolOp o es pos) = some c → Cn g F N n X → X.N = ns → X.env.scope = sc → Takes X W → PW X (.BoolOp o es pos) (rT g W T F c)
def SI (g : Wd) (T : Tab) (F : Nat → List D → M D) (N : Nm) (ns : List Str) (n k : Nat) : Prop := ∀ (tg e : Expr) (sc : Scope) (c : Wk) (W : WX) (X : Cx), trI N ns k sc tg e = some c → Cn g F N n X → X.N = ns → X.env.scope = sc → Takes X W → PI X tg e (rI g W T F c)
theorem bindE {α β : Type} {o : Option α} {f : α → Option β} {b : β} (h : o.bind f = some b) : ∃ a, o = some a ∧ f a = some b := Option.bind_eq_some_iff.mp h
theorem mapE {α β : Type} {o : Option α} {f : α → β} {b : β} (h : o.map f = some b) : ∃ a, o = some a ∧ f a = b := Option.map_eq_some_iff.mp h
theorem s_name {x : Str} {p : Pos} {sc : Scope} {c : CE} {W : WX} {X : Cx} (h : trName N ns sc x = some c) (C : Cn g F N n X) (hN : X.N = ns) (hs : X.env.scope = sc) : PE X (.Name x p) (rE g W T F c) := by
  unfold trName at h
  subst hs
  split at h
  · rename_i ho
    split at h
    · rename_i hv
      obtain ⟨i, h1, rfl⟩ := mapE h
      exact x_var hN ho hv h1
    · split at h
      · rename_i hg
        obtain ⟨d, h1, rfl⟩ := mapE h
        obtain ⟨u, v, h2, h3, h4⟩ := C.cst x d h1
        exact x_cst (pe_glob (glb_ok rfl hg) h2 h3 (okName_ok ho).1) h4
      · cases h
  · cases h
theorem s_const {x : Const} {k : Nat} {p : Pos} {c : CE} {W : WX} {X : Cx} (h : trConst x = some c) : PE X (.Constant x k p) (rE g W T F c) := by
  cases x with
  | int i => cases h; exact x_cst pe_int fun _ _ _ => rd_int.mpr rfl
  | bool b => cases h; exact x_cst pe_bl fun _ _ _ => rd_bl.mpr rfl
  | none => cases h; exact x_cst pe_non fun _ _ _ => rd_non.mpr rfl
  | str s =>
    have h : (if okTx s.cps.toList = true then some (CE.cst (.str s.cps.toList)) else none) = some c := h
    split at h
    · rename_i ho
      cases h
      exact x_cst pe_str fun _ _ _ => rd_str.mpr ⟨rfl, okTx_ok ho⟩
    · cases h
  | _ => cases h
theorem s_call {x : Str} {es : List Expr} {p pos : Pos} {sc : Scope} {c : CE} {r : Option CEs} {W : WX} {X : Cx} (h : trCall N sc x es r = some c) (C : Cn g F N n X) (hN : X.N = ns) (hs : X.env.scope = sc) (tk : Takes X W) (ha : ∀ ces, r = some ces → PA X es (rA g W T F ces)) :
    PE X (.Call (.Name x p) es [] pos) (rE g W T F c) := by
  unfold trCall at h
  subst hs
  split at h
  · rename_i hc
    simp only [Bool.and_eq_true] at hc
    obtain ⟨⟨⟨h1, h2⟩, h3⟩, h4⟩ := hc
    cases es with
    | nil => cases h4
    | cons e es =>
      split at h
      · rename_i f hf
        obtain ⟨ces, h5, rfl⟩ := mapE h
        exact x_call C tk h1 h2 hf h3 (ha ces h5)
      · split at h
        · rename_i hf
          obtain ⟨b, h5, h⟩ := bindE h
          obtain ⟨ces, h6, rfl⟩ := mapE h
          exact x_blt C h1 h2 hf (PySem.mem_of_lookup h5) h3 (ha ces h6)
        · cases h
  · cases h
theorem s_isi {x : Str} {es : List Expr} {p pos : Pos} {sc : Scope} {q : Expr × Ty} {ce : CE} {W : WX} {X : Cx} (h : trIsi N sc x es = some q) (C : Cn g F N n X) (hs : X.env.scope = sc) (he : PE X q.1 (rE g W T F ce)) :
    PE X (.Call (.Name x p) es [] pos) (rE g W T F (.blt (.isi q.2) (.cons ce .nil))) := by
  unfold trIsi at h
  subst hs
  split at h
  · rename_i hc
    simp only [Bool.and_eq_true] at hc
    obtain ⟨⟨h1, h2⟩, h3⟩ := hc
    split at h
    · split at h
      · rename_i hd
        simp only [Bool.and_eq_true] at hd
        obtain ⟨⟨⟨h4, h5⟩, h6⟩, h7⟩ := hd
        obtain ⟨t', h8, rfl⟩ := mapE h
        exact x_isi C (beq_iff_eq.mp h1) h2 h3 h4 h5 h6 (PySem.mem_of_lookup h8) (by simpa using h7) he
      · cases h
    · cases h
  · cases h
theorem inner_ok {scope sc : Scope} {X : Cx} {s : Shared} {H : Hp} {C : Addr} {cl : List (Str × Addr)} {fp : List Addr} {x : Str} (hs : X.env.scope = sc) (h : inner scope x = true) :
    Loc (X.blk s H scope (compEnvC scope cl C X.env) fp).env.scope x ∧ ((X.blk s H scope (compEnvC scope cl C X.env) fp).fn x = true ∨ (X.blk s H scope (compEnvC scope cl C X.env) fp).env.scope.names.lookup x = some .local) := by
  unfold inner at h
  split at h
  · rename_i e
    have z := lookup_relS_keep (sc := X.env.scope) (k := .local) (by decide) e
    exact ⟨.inl z, .inr z⟩
  · rename_i e
    have z := lookup_relS_keep (sc := X.env.scope) (k := .cell) (by decide) e
    exact ⟨.inr z, .inl (by show (scope.names.lookup x == some NameKind.cell) = true; rw [e]; rfl)⟩
  · cases h
theorem s_comp {elt tg it : Expr} {ifs : List Expr} {scope sc : Scope} {pos : Pos} {t : Tg} {w : Wk} {c : Option CT} {ce : CE} {W : WX} {X : Cx} {k : Nat} (C : Cn g F N n X) (hN : X.N = ns) (hs : X.env.scope = sc) (hb : blkC ns sc scope (ownOf ns scope) = true) (hd : isSetD it = false)
    (ht : trTg ns (inner scope) k tg = some t) (hsl : ∀ j ∈ t.sl, j ∈ (ownOf ns scope).map (·.2)) (hi : PI X tg it (rI g W T F w))
    (hc : ∀ s H C cl fp, PTs (X.blk s H scope (compEnvC scope cl C X.env) fp) ifs (rC g T F c)) (he : ∀ s H C cl fp, PE (X.blk s H scope (compEnvC scope cl C X.env) fp) elt (rE g (fun _ _ _ _ => False) T F ce)) :
    PE X (.ListComp elt [⟨tg, it, ifs, 0⟩] scope pos) (rE g W T F (.comp ((ownOf ns scope).map (·.2)) ce t w c)) := by
  refine PE.imp (pe_lc C.calm C.nd hi (by rw [hN, hs]; exact blkOk_by hb) (fun s H A cl fp => ?_) hc he (folded_of hd)) fun σ H Q q => lc_read hsl q
  exact trTg_ok (X := X.blk s H scope (compEnvC scope cl A X.env) fp) C.eK C.calm hN C.nd (fun x hx => inner_ok hs hx) k tg t ht
theorem s_keys {X : Cx} {W : WX} {pos : Pos} {f : Expr → Option CE} (hf : ∀ e c, f e = some c → PE X e (rE g W T F c)) : ∀ {ks : List (Option Expr)} {vs : List Expr} {ces : CEs}, trKs f ks vs = some ces → PPs X pos ks vs (trsOf g W T F ces) ∧ ks.all (·.isSome) = true ∧ ks.length = vs.length ∧ evC ces = true
  | [], [], ces, h => by cases h; exact ⟨pps_nil, rfl, rfl, rfl⟩
  | [], _ :: _, ces, h => by cases h
  | none :: _, _, ces, h => by cases h
  | some k :: ks, [], ces, h => by cases h
  | some k :: ks, v :: vs, ces, h => by
    obtain ⟨ck, h1, h⟩ := bindE h
    obtain ⟨cv, h2, h⟩ := bindE h
    obtain ⟨r, h3, rfl⟩ := mapE h
    obtain ⟨a, b, c, d⟩ := s_keys hf h3
    exact ⟨pps_cons (hf _ _ h1) (hf _ _ h2) a, by simpa using b, by simp [c], d⟩
theorem s_all : ∀ k, SE g T F N ns n k ∧ SA g T F N ns n k ∧ ST g T F N ns n k ∧ SW g T F N ns n k ∧ SI g T F N ns n k
  | 0 => by
    refine ⟨fun _ _ _ _ _ h => ?_, fun _ _ _ _ _ h => ?_, fun _ _ _ _ _ h => ?_, fun _ _ _ _ _ _ _ h => ?_, fun _ _ _ _ _ _ h => ?_⟩
    · unfold trE at h; cases h
    · unfold trEs at h; cases h
    · unfold trT at h; cases h
    · unfold trT at h; cases h
    · unfold trI at h; cases h
  | k + 1 => by
    obtain ⟨ihE, ihA, ihT, ihW, ihI⟩ := s_all k
    have sw : SW g T F N ns n (k + 1) := by
      intro o es pos sc c W X h C hN hs tk
      unfold trT at h
      dsimp only at h
      split at h
      · cases h
      · have := ihT _ sc c W X h C hN hs tk
        cases o with
        | And => exact pw_and1 this
        | Or => exact pw_or1 this
      · obtain ⟨ca, h1, h⟩ := bindE h
        obtain ⟨cb, h2, rfl⟩ := mapE h
        have pa := ihT _ sc ca W X h1 C hN hs tk
        have pb := ihW _ _ _ sc cb W X h2 C hN hs tk
        cases o with
        | And => exact t_and pa pb
        | Or => exact t_or pa pb
    refine ⟨?_, ?_, ?_, sw, ?_⟩
    · intro e sc c W X h C hN hs tk
      unfold trE at h
      cases e with
      | Name x p => exact s_name h C hN hs
      | Constant x j p => exact s_const h
      | BinOp a o b p =>
        dsimp only at h
        obtain ⟨o', h1, h⟩ := bindE h
        obtain ⟨ca, h2, h⟩ := bindE h
        obtain ⟨cb, h3, rfl⟩ := mapE h
        exact x_bin C.eK h1 (ihE _ sc ca W X h2 C hN hs tk) (ihE _ sc cb W X h3 C hN hs tk)
      | UnaryOp o a p =>
        dsimp only at h
        split at h
        · obtain ⟨ca, h2, rfl⟩ := mapE h
          exact x_neg (ihE _ sc ca W X h2 C hN hs tk)
        · obtain ⟨ca, h2, rfl⟩ := mapE h
          exact x_not (ihE _ sc ca W X h2 C hN hs tk)
        · cases h
      | BoolOp o es p =>
        dsimp only at h
        split at h
        · cases h
        · exact pe_one (ihE _ sc c W X h C hN hs tk)
        · obtain ⟨ca, h1, h⟩ := bindE h
          obtain ⟨cb, h2, rfl⟩ := mapE h
          have pa := ihE _ sc ca W X h1 C hN hs tk
          have pb := ihE _ sc cb W X h2 C hN hs tk
          cases o with
          | And => exact x_and pa pb
          | Or => exact x_or pa pb
      | IfExp c' a b p =>
        dsimp only at h
        obtain ⟨cc, h1, h⟩ := bindE h
        obtain ⟨ca, h2, h⟩ := bindE h
        obtain ⟨cb, h3, rfl⟩ := mapE h
        exact x_ite (ihT _ sc cc W X h1 C hN hs tk) (ihE _ sc ca W X h2 C hN hs tk) (ihE _ sc cb W X h3 C hN hs tk)
      | Compare a ops cs p =>
        dsimp only at h
        split at h
        · split at h
          · cases h
          · rename_i hm
            obtain ⟨ca, h2, h⟩ := bindE h
            obtain ⟨cb, h3, rfl⟩ := mapE h
            exact x_cmp C.eK C.hu (ihE _ sc ca W X h2 C hN hs tk) (ihE _ sc cb W X h3 C hN hs tk) (by simpa using hm)
        · split at h
          · cases h
          · rename_i hm
            obtain ⟨ca, h2, h⟩ := bindE h
            obtain ⟨cb, h3, h⟩ := bindE h
            obtain ⟨cc, h4, rfl⟩ := mapE h
            exact x_chn C.eK C.hu (ihE _ sc ca W X h2 C hN hs tk) (ihE _ sc cb W X h3 C hN hs tk) (ihE _ sc cc W X h4 C hN hs tk) (by simpa using hm)
        · cases h
      | Tuple es j p =>
        dsimp only at h
        obtain ⟨ces, h1, rfl⟩ := mapE h
        exact x_tup (ihA _ sc ces W X h1 C hN hs tk)
      | List es p =>
        dsimp only at h
        obtain ⟨ces, h1, rfl⟩ := mapE h
        exact x_lst (ihA _ sc ces W X h1 C hN hs tk)
      | Dict keys values p =>
        dsimp only at h
        split at h
        · rename_i h15
          obtain ⟨ces, h1, rfl⟩ := mapE h
          obtain ⟨a, b, c, d⟩ := s_keys (pos := p) (fun e c h => ihE e sc c W X h C hN hs tk) h1
          cases keys with
          | nil =>
            cases values with
            | nil => cases h1; exact x_dct0
            | cons _ _ => cases h1
          | cons k ks => exact x_dct a b c (fun z => by cases z) (of_decide_eq_true h15) d
        · cases h
      | Subscript a i p =>
        dsimp only at h
        split at h
        · split at h
          · obtain ⟨ca, h1, h⟩ := bindE h
            obtain ⟨cl, h2, h⟩ := bindE h
            obtain ⟨ch, h3, rfl⟩ := mapE h
            refine x_slc C.eK (ihE _ sc ca W X h1 C hN hs tk) ?_ ?_
            · split at h2
              · cases h2; exact o_none
              · obtain ⟨cl', h4, h5⟩ := bindE h2
                split at h5
                · cases h5
                · rename_i z
                  cases h5
                  exact o_some (ihE _ sc _ W X h4 C hN hs tk) (by simpa using z)
            · split at h3
              · cases h3; exact o_none
              · obtain ⟨cl', h4, h5⟩ := bindE h3
                split at h5
                · cases h5
                · rename_i z
                  cases h5
                  exact o_some (ihE _ sc _ W X h4 C hN hs tk) (by simpa using z)
          · split at h
            · split at h
              · rename_i hj
                subst hj
                obtain ⟨ca, h1, rfl⟩ := mapE h
                exact x_rvs C.eK (ihE _ sc ca W X h1 C hN hs tk)
              · cases h
            · cases h
        · split at h
          · cases h
          · rename_i hz
            obtain ⟨ca, h1, h⟩ := bindE h
            obtain ⟨ci, h2, rfl⟩ := mapE h
            have hu := C.hu
            exact x_idx C.eK (by omega) (ihE _ sc ca W X h1 C hN hs tk) (ihE _ sc ci W X h2 C hN hs tk) (by simpa using hz)
      | Call f es kws p =>
        dsimp only at h
        split at h
        · cases h
        · split at h
          · split at h
            · rename_i q hq
              obtain ⟨ce, h1, rfl⟩ := mapE h
              exact s_isi hq C hs (ihE _ sc ce W X h1 C hN hs tk)
            · exact s_call h C hN hs tk fun ces hces => ihA _ sc ces W X hces C hN hs tk
          · split at h
            · rename_i hc
              simp only [Bool.and_eq_true] at hc
              obtain ⟨⟨⟨h1, h2⟩, h3⟩, h4⟩ := hc
              obtain ⟨b, h5, h⟩ := bindE h
              obtain ⟨co, h6, h⟩ := bindE h
              obtain ⟨ces, h7, rfl⟩ := mapE h
              have po := ihE _ sc co W X h6 C hN hs tk
              cases es with
              | nil =>
                have : ces = .nil := by
                  cases k with
                  | zero => cases h7
                  | succ k => unfold trEs at h7; cases h7; rfl
                subst this
                exact x_bm0 C (PySem.mem_of_lookup h5) h1 h2 po
              | cons e es => exact x_bm C (PySem.mem_of_lookup h5) h1 h2 h4 h3 po (ihA _ sc ces W X h7 C hN hs tk)
            · cases h
          · cases h
      | ListComp elt gs scope p =>
        dsimp only at h
        split at h
        · rename_i tg it ifs as
          split at h
          · rename_i hc
            simp only [Bool.and_eq_true, decide_eq_true_eq] at hc
            obtain ⟨⟨rfl, h1⟩, h2⟩ := hc
            obtain ⟨t, h3, h⟩ := bindE h
            split at h
            · rename_i hsl
              obtain ⟨w, h4, h⟩ := bindE h
              obtain ⟨c', h5, h⟩ := bindE h
              obtain ⟨ce, h6, rfl⟩ := mapE h
              refine s_comp C hN hs h1 (by simpa using h2) h3 (fun j hj => of_decide_eq_true (List.all_eq_true.mp hsl j hj)) (ihI _ _ sc w W X h4 C hN hs tk) (fun s H A cl fp => ?_) (fun s H A cl fp => ?_)
              · split at h5
                · cases h5; exact pts_nil
                · obtain ⟨ct, h7, rfl⟩ := mapE h5
                  exact pts_one (ihT _ (relS scope sc) ct _ _ h7 (C.blk ..) hN (by rw [← hs]; rfl) (takes_blk _ _ _ _ _))
                · cases h5
              · exact ihE _ (relS scope sc) ce _ _ h6 (C.blk ..) hN (by rw [← hs]; rfl) (takes_blk _ _ _ _ _)
            · cases h
          · cases h
        · cases h
      | _ => cases h
    · intro es sc c W X h C hN hs tk
      unfold trEs at h
      cases es with
      | nil => cases h; exact x_nil
      | cons e es =>
        dsimp only at h
        split at h
        · cases h
        · rename_i hz
          obtain ⟨ce, h1, h⟩ := bindE h
          obtain ⟨ces, h2, rfl⟩ := mapE h
          exact x_cons (by simpa using hz) (ihE _ sc ce W X h1 C hN hs tk) (ihA _ sc ces W X h2 C hN hs tk)
    · intro e sc c W X h C hN hs tk
      have pl : ∀ {e : Expr}, (if plainT e then (trE N ns k sc e).map CT.val else none) = some c → PT X e (rT g W T F c) := fun {e} h => by
        split at h
        · rename_i hp
          obtain ⟨ce, h1, rfl⟩ := mapE h
          exact t_val C.eK (ihE _ sc ce W X h1 C hN hs tk) hp
        · cases h
      cases e with
      | BoolOp o es p => exact (sw o es p sc c W X h C hN hs tk).pt
      | UnaryOp o a p =>
        unfold trT at h
        dsimp only at h
        split at h
        · obtain ⟨ca, h2, rfl⟩ := mapE h
          exact t_not (ihT _ sc ca W X h2 C hN hs tk)
        · cases h
      | Compare a ops cs p =>
        unfold trT at h
        dsimp only at h
        split at h
        · split at h
          · cases h
          · rename_i hm
            obtain ⟨ca, h2, h⟩ := bindE h
            obtain ⟨cb, h3, rfl⟩ := mapE h
            exact t_cmp C.eK C.hu (ihE _ sc ca W X h2 C hN hs tk) (ihE _ sc cb W X h3 C hN hs tk) (by simpa using hm)
        · split at h
          · cases h
          · rename_i hm
            obtain ⟨ca, h2, h⟩ := bindE h
            obtain ⟨cb, h3, h⟩ := bindE h
            obtain ⟨cc, h4, rfl⟩ := mapE h
            exact t_chn C.eK C.hu (ihE _ sc ca W X h2 C hN hs tk) (ihE _ sc cb W X h3 C hN hs tk) (ihE _ sc cc W X h4 C hN hs tk) (by simpa using hm)
        · cases h
      | _ =>
        unfold trT at h
        exact pl h
    · intro tg it sc c W X h C hN hs tk
      have pl : (trE N ns k sc it).map Wk.e = some c → PI X tg it (rI g W T F c) := fun h => by
        obtain ⟨ce, h1, rfl⟩ := mapE h
        exact i_e C.eK (ihE _ sc ce W X h1 C hN hs tk)
      unfold trI at h
      split at h
      · split at h
        · split at h
          · rename_i hc
            rw [Bool.and_eq_true] at hc
            obtain ⟨hg, hf⟩ := hc
            rw [← hs] at hg
            split at h
            · split at h
              · cases h
              · rename_i ha
                split at h
                · rename_i hx
                  obtain ⟨ca, h1, rfl⟩ := mapE h
                  have hx := beq_iff_eq.mp hx
                  subst hx
                  exact i_rng1 C hg hf (by simpa using ha) (ihE _ sc ca W X h1 C hN hs tk)
                · split at h
                  · rename_i hx
                    split at h
                    · rename_i ht
                      obtain ⟨ca, h1, rfl⟩ := mapE h
                      have hx := beq_iff_eq.mp hx
                      subst hx
                      cases tg <;> first | exact i_enm C hg hf (by simpa using ha) (ihE _ sc ca W X h1 C hN hs tk) | cases ht
                    · cases h
                  · split at h
                    · rename_i hx
                      obtain ⟨ca, h1, rfl⟩ := mapE h
                      have hx := beq_iff_eq.mp hx
                      subst hx
                      exact i_rev C hg hf (by simpa using ha) (ihE _ sc ca W X h1 C hN hs tk)
                    · exact pl h
            · split at h
              · cases h
              · rename_i ha
                simp only [Bool.or_eq_true, not_or, Bool.not_eq_true] at ha
                split at h
                · rename_i hx
                  obtain ⟨ca, h1, h⟩ := bindE h
                  obtain ⟨cb, h2, rfl⟩ := mapE h
                  have hx := beq_iff_eq.mp hx
                  subst hx
                  exact i_rng2 C hg hf ha.1 ha.2 (ihE _ sc ca W X h1 C hN hs tk) (ihE _ sc cb W X h2 C hN hs tk)
                · split at h
                  · rename_i hx
                    split at h
                    · rename_i ht
                      obtain ⟨ca, h1, h⟩ := bindE h
                      obtain ⟨cb, h2, rfl⟩ := mapE h
                      have hx := beq_iff_eq.mp hx
                      subst hx
                      cases tg <;> first | exact i_zip C hg hf ha.1 ha.2 (ihE _ sc ca W X h1 C hN hs tk) (ihE _ sc cb W X h2 C hN hs tk) | cases ht
                    · cases h
                  · exact pl h
            · split at h
              · split at h
                · cases h
                · rename_i ha
                  simp only [Bool.or_eq_true, not_or, Bool.not_eq_true] at ha
                  split at h
                  · rename_i hx
                    rw [Bool.and_eq_true] at hx
                    obtain ⟨ca, h1, h⟩ := bindE h
                    obtain ⟨cb, h2, rfl⟩ := mapE h
                    have hx1 := beq_iff_eq.mp hx.1
                    have hx2 := of_decide_eq_true hx.2
                    subst hx1 hx2
                    exact i_rng3 C hg hf ha.1 ha.2 (ihE _ sc ca W X h1 C hN hs tk) (ihE _ sc cb W X h2 C hN hs tk)
                  · cases h
              · cases h
            · exact pl h
          · exact pl h
        · exact pl h
      · exact pl h
end
end U
end

section
set_option maxRecDepth 100000
set_option maxHeartbeats 1000000
/-! Statements: their readings, their translation. -/
namespace U
open PySem L2

section
variable (g : Wd) (W : WX)
/-- what is wanted behind statements -/
def PSt (io : Nat → Addr) (hd : Hd) (H : Hp) (N : Ends) : SR → Prop
  | .nx sd' h' => ∀ io' H' σ', Nxt g io hd H io' h' H' → RH g io' h' H' → RS g io' h'.length H' sd' σ' → N.nx σ' H'
  | .rt v h' => PQ g io hd H N.rt v h'
  | .bk sd' h' => ∀ io' H' σ', Nxt g io hd H io' h' H' → RH g io' h' H' → RS g io' h'.length H' sd' σ' → N.bk σ' H'
  | .ct sd' h' => ∀ io' H' σ', Nxt g io hd H io' h' H' → RH g io' h' H' → RS g io' h'.length H' sd' σ' → N.ct σ' H'
  | .er e sd' h' => ∀ io' H' σ' c d, Nxt g io hd H io' h' H' → RH g io' h' H' → RS g io' h'.length H' sd' σ' → RX g io' h'.length H' e c d → W c d σ' H'
  | .no => False
def rdS (ev : St → Hd → SR) : TS := fun N σ H => ∃ io hd sd, RH g io hd H ∧ RS g io hd.length H sd σ ∧ PSt g W io hd H N (ev sd hd)
end
section
variable {g : Wd} {W : WX} {io : Nat → Addr} {hd : Hd} {H : Hp} {σ : L2.St} {sd : St} {N : Ends}
theorem PSt.tr {io1 : Nat → Addr} {h1 : Hd} {H1 : Hp} {r : SR} (n : Nxt g io hd H io1 h1 H1) (q : PSt g W io hd H N r) : PSt g W io1 h1 H1 N r := by
  cases r with
  | nx sd' h' => exact fun io' H' σ' n2 r s => q io' H' σ' (n.trans n2) r s
  | rt v h' => exact PQ.tr n q
  | bk sd' h' => exact fun io' H' σ' n2 r s => q io' H' σ' (n.trans n2) r s
  | ct sd' h' => exact fun io' H' σ' n2 r s => q io' H' σ' (n.trans n2) r s
  | er e sd' h' => exact fun io' H' σ' c d n2 r s x => q io' H' σ' c d (n.trans n2) r s x
  | no => exact q
theorem rdE.thenS {ev : St → M D} {k : D → Hd → SR} {Q : VK} (R : RH g io hd H) (S : RS g io hd.length H sd σ) (q : PSt g W io hd H N (sE sd (ev sd hd) k))
    (h : ∀ x h1 io1 H1 v, Nxt g io hd H io1 h1 H1 → RH g io1 h1 H1 → RS g io1 h1.length H1 sd σ → RD g io1 h1.length H1 x v → PSt g W io hd H N (k x h1) → Q v H1) : rdE g W ev σ H Q := by
  refine ⟨io, hd, sd, R, S, ?_⟩
  cases e : ev sd hd with
  | ok x h1 => rw [e] at q; exact fun io1 H1 v n r rv => h x h1 io1 H1 v n r (n.rs S) rv q
  | er ex h1 => rw [e] at q; exact fun io' H' c d n r x => q io' H' σ c d n r (n.rs S) x
  | no => rw [e] at q; exact q.elim
theorem rdT.thenS {ev : St → M Bool} {k : Bool → Hd → SR} {Q : Bool → Hp → Prop} (R : RH g io hd H) (S : RS g io hd.length H sd σ) (q : PSt g W io hd H N (sE sd (ev sd hd) k))
    (h : ∀ x h1 io1 H1, Nxt g io hd H io1 h1 H1 → RH g io1 h1 H1 → RS g io1 h1.length H1 sd σ → PSt g W io hd H N (k x h1) → Q x H1) : rdT g W ev σ H Q := by
  refine ⟨io, hd, sd, R, S, ?_⟩
  cases e : ev sd hd with
  | ok x h1 => rw [e] at q; exact fun io1 H1 n r => h x h1 io1 H1 n r (n.rs S) q
  | er ex h1 => rw [e] at q; exact fun io' H' c d n r x => q io' H' σ c d n r (n.rs S) x
  | no => rw [e] at q; exact q.elim
theorem rdI.thenS {ev : St → M (List D × Gd)} {k : List D × Gd → Hd → SR} {Q : L2.It → Hp → Prop} (R : RH g io hd H) (S : RS g io hd.length H sd σ) (q : PSt g W io hd H N (sE sd (ev sd hd) k))
    (h : ∀ p h1 io1 H1 J, Nxt g io hd H io1 h1 H1 → RH g io1 h1 H1 → RS g io1 h1.length H1 sd σ → IW g io1 h1 H1 p.1 p.2 J → PSt g W io hd H N (k p h1) → Q J H1) : rdI g W ev σ H Q := by
  refine ⟨io, hd, sd, R, S, ?_⟩
  cases e : ev sd hd with
  | ok p h1 => rw [e] at q; exact fun io1 H1 J n r w => h p h1 io1 H1 J n r (n.rs S) w q
  | er ex h1 => rw [e] at q; exact fun io' H' c d n r x => q io' H' σ c d n r (n.rs S) x
  | no => rw [e] at q; exact q.elim
end

section
variable {g : Wd} {W : WX} {T : Tab} {F : Nat → List D → M D} {X : Cx} {ns : List Str}
variable {a b c e tg : Expr} {es : List Expr} {ca cb cc ce : CE} {ces : CEs} {p pos : Pos} {st : Stmt} {rest : List Stmt} {cs : CS} {css css' : CSs}
abbrev rS (g : Wd) (W : WX) (T : Tab) (F : Nat → List D → M D) (c : CS) : TS := rdS g W (evS T F c)
abbrev rSs (g : Wd) (W : WX) (T : Tab) (F : Nat → List D → M D) (c : CSs) : TS := rdS g W (evSs T F c)
theorem p_nil : PSs X [] (rSs g W T F .nil) := PSs.imp pss_nil fun N σ H ⟨io, hd, sd, R, S, q⟩ => q io H σ .refl R S
theorem p_cons (h1 : PS X st (rS g W T F cs)) (h2 : PSs X rest (rSs g W T F css)) : PSs X (st :: rest) (rSs g W T F (.cons cs css)) := by
  refine PSs.imp (pss_cons h1 h2) fun N σ H ⟨io, hd, sd, R, S, q⟩ => ⟨io, hd, sd, R, S, ?_⟩
  have q : PSt g W io hd H N ((evS T F cs sd hd).then_ fun σ' h' => evSs T F css σ' h') := q
  cases e : evS T F cs sd hd with
  | nx sd' h' => rw [e] at q; exact fun io' H' σ' n r s => ⟨io', h', sd', r, s, q.tr n⟩
  | rt v h' => rw [e] at q; exact q
  | bk sd' h' => rw [e] at q; exact q
  | ct sd' h' => rw [e] at q; exact q
  | er ex sd' h' => rw [e] at q; exact q
  | no => rw [e] at q; exact q
/-- a statement of which nothing is said -/
theorem p_bad {c : Nat} {es : CEs} : PS X st (rS g W T F (.rai c es)) := ⟨fun pins s σ H D I ⟨_, _, _, _, _, q⟩ => q.elim⟩
theorem p_pass : PS X (.Pass pos) (rS g W T F .pss) := PS.imp ps_pass fun N σ H ⟨io, hd, sd, R, S, q⟩ => q io H σ .refl R S
theorem p_break : PS X (.Break pos) (rS g W T F .brk) := PS.imp ps_break fun N σ H ⟨io, hd, sd, R, S, q⟩ => q io H σ .refl R S
theorem p_cont : PS X (.Continue pos) (rS g W T F .cnt) := PS.imp ps_continue fun N σ H ⟨io, hd, sd, R, S, q⟩ => q io H σ .refl R S
def isCompE : Expr → Bool
  | .ListComp .. => true
  | .SetComp .. => true
  | .DictComp .. => true
  | _ => false
theorem swaps_of {t : Option Expr} {l : Nat} {env : Env} (h : isCompE e = false) : swapsWith e t l env = pure false := by
  unfold swapsWith
  cases e <;> first | rfl | cases h
theorem p_ex (h : isCompE e = false) (he : PE X e (rE g W T F ce)) : PS X (.Expr e pos) (rS g W T F (.ex ce)) := by
  refine PS.imp (ps_expr he (swaps_of h)) fun N σ H ⟨io, hd, sd, R, S, q⟩ => ?_
  exact rdE.thenS R S q fun x h1 io1 H1 v n1 R1 S1 rx q1 => q1 io1 H1 σ n1 R1 S1
theorem p_ret (he : PE X e (rE g W T F ce)) : PS X (.Return (some e) pos) (rS g W T F (.ret ce)) := by
  refine PS.imp (ps_ret he) fun N σ H ⟨io, hd, sd, R, S, q⟩ => ?_
  exact rdE.thenS R S q fun x h1 io1 H1 v n1 R1 S1 rx q1 => (PQ.tr n1 (show PQ g io hd H N.rt x h1 from q1)) io1 H1 v .refl R1 rx
theorem p_retN : PS X (.Return none pos) (rS g W T F (.ret (.cst .non))) := by
  refine PS.imp ps_retN fun N σ H ⟨io, hd, sd, R, S, q⟩ => ?_
  exact (show PQ g io hd H N.rt .non hd from q) io H .non .refl R (rd_non.mpr rfl)
theorem p_if {ct : CT} {A B : List Stmt} (hc : PT X c (rT g W T F ct)) (ha : PSs X A (rSs g W T F css)) (hb : PSs X B (rSs g W T F css')) : PS X (.If c A B pos) (rS g W T F (.ite ct css css')) := by
  refine PS.imp (ps_if hc ha hb) fun N σ H ⟨io, hd, sd, R, S, q⟩ => ?_
  refine rdT.thenS R S q fun k h1 io1 H1 n1 R1 S1 q1 => ?_
  cases k with
  | true => rw [if_pos rfl]; exact ⟨io1, h1, sd, R1, S1, q1.tr n1⟩
  | false => rw [if_neg (by decide)]; exact ⟨io1, h1, sd, R1, S1, q1.tr n1⟩
theorem p_set {t : Tg} (hs : swapsWith e (some tg) pos.line X.env = pure false) (hw : swappedStores [tg] e X.env = pure none) (hst : isStar tg = false) (he : PE X e (rE g W T F ce)) (hg : PG X tg (rdG g t)) : PS X (.Assign [tg] e pos) (rS g W T F (.set t ce)) := by
  refine PS.imp (ps_asg he hg (by unfold swapsWithSole; exact hs) hw (by rw [assign_cons hst]; rfl)) fun N σ H ⟨io, hd, sd, R, S, q⟩ => ?_
  refine rdE.thenS R S q fun x h1 io1 H1 v n1 R1 S1 rx q1 => ?_
  cases ea : asg t x sd with
  | none => rw [ea] at q1; exact q1.elim
  | some sd' =>
    rw [ea] at q1
    exact ⟨io1, h1, sd, x, sd', R1, S1, rx, ea, fun σ' S' _ => q1 io1 H1 σ' n1 R1 S'⟩
theorem stores_none {env : Env} (h : isTupE tg = false ∨ isTupE e = false) (hl : ∀ ts p, tg ≠ .List ts p) : swappedStores [tg] e env = pure none := by
  unfold swappedStores
  cases tg with
  | Tuple _ _ _ =>
    have h : isTupE e = false := h.elim (fun z => nomatch z) id
    cases e <;> first | rfl | cases h
  | List ts p => exact (hl ts p rfl).elim
  | _ => rfl
theorem PSet.or {X : Cx} {t t' : TSet} (h : PSet X t) (h' : PSet X t') : PSet X (fun o i v H Q => t o i v H Q ∨ t' o i v H Q) := by
  intro pins s σ H o i v ov iv u Q I ro ri rv q
  rcases q with q | q
  · exact h pins s σ H o i v ov iv u Q I ro ri rv q
  · exact h' pins s σ H o i v ov iv u Q I ro ri rv q
theorem p_seti (hu : X.A.units + 1 < cLine) (hi : isSlice b = false) (ha : PE X a (rE g W T F ca)) (hb : PE X b (rE g W T F cb)) (he : PE X e (rE g W T F ce)) : PS X (.Assign [.Subscript a b p] e pos) (rS g W T F (.seti ca cb ce)) := by
  refine PS.imp (ps_asg he (pg_sub ha hb ((PSet.or set_list (set_dict hu))) (by intro v; cases b <;> first | rfl | cases hi)) (by unfold swapsWithSole swapsWith; cases e <;> rfl) (stores_none (.inl rfl) (fun _ _ z => nomatch z)) (by rfl)) fun N σ H ⟨io, hd, sd, R, S, q⟩ => ?_
  refine rdE.thenS R S q fun v h1 io1 H1 vv n1 R1 S1 rv q1 => ?_
  refine rdE.thenS R1 S1 (q1.tr n1) fun x h2 io2 H2 vx n2 R2 S2 rx q2 => ?_
  refine rdE.thenS R2 S2 (q2.tr n2) fun k h3 io3 H3 vk n3 R3 S3 rk q3 => ?_
  have rv := (n2.trans n3).rd rv
  have rx := n3.rd rx
  have q3 := q3.tr n3
  unfold setE at q3
  cases x with
  | ref m =>
    obtain ⟨_, rfl⟩ := rd_ref.mp rx
    dsimp only at q3
    cases ho : h3[m]? with
    | none => rw [ho] at q3; exact q3.elim
    | some o =>
      rw [ho] at q3
      cases o with
      | lst ds =>
        dsimp only at q3
        cases k with
        | int i =>
          dsimp only at q3
          cases ej : ixD ds.length i with
          | none => rw [ej] at q3; exact q3.elim
          | some j =>
            rw [ej] at q3
            obtain ⟨vs, hl, r⟩ := R3.lst ho
            obtain ⟨R4, n4⟩ := R3.put ho (RDs.set j r rv)
            refine .inl ⟨_, vs, i, j, rfl, rd_int.mp rk, hl, by rw [← r.len]; exact ej, ?_⟩
            exact q3 io3 _ σ n4 R4 (n4.rs S3)
        | _ => exact q3.elim
      | dct kvs =>
        dsimp only at q3
        cases ek : keyOk KD k && decide (kvs.length < LIM) with
        | false => rw [ek] at q3; exact q3.elim
        | true =>
          rw [ek] at q3
          rw [Bool.and_eq_true] at ek
          obtain ⟨kk, e1, rfl⟩ := rk_of ek.1 rk
          obtain ⟨ks, hl, r⟩ := R3.obj m _ ho
          obtain ⟨R4, n4⟩ := step_set (o' := .dct (putK kvs k v)) (u' := .dK (L2.putK ks kk vv)) R3 ho rfl rfl fun ht => ⟨_, upd_same, RKs.mono (Nat.le_refl _) (fun _ _ => rfl) ht (rk_put e1 rv r)⟩
          refine .inr ⟨_, _, rfl, DPut.k hl (by rw [← rks_len r, line_eq]; exact of_decide_eq_true ek.2), ?_⟩
          exact q3 io3 _ σ n4 R4 (n4.rs S3)
      | _ => exact q3.elim
  | _ => exact q3.elim
/-- name = [..] -/
theorem p_setLc {y : Str} {i k : Nat} {elt it tg : Expr} {ifs : List Expr} {scope sc : Scope} {py spos : Pos} {t : Tg} {w : Wk} {c : Option CT} {N : Nm} {n : Nat} (C : Cn g F N n X) (hN : X.N = ns) (hs : X.env.scope = sc) (hi' : ixOf ns y = some i) (hk : sc.kind = .function) (hy : sc.names.lookup y = some .local) (hl : (py.line == pos.line) = true) (hown : (scope.names.any fun (n, k) => n == y && (k == .local || k == .cell)) = false)
    (hb : blkC ns sc scope (ownOf ns scope) = true) (hd : isSetD it = false)
    (ht : trTg ns (inner scope) k tg = some t) (hsl : ∀ j ∈ t.sl, j ∈ (ownOf ns scope).map (·.2)) (hi : PI X tg it (rI g W T F w))
    (hc : ∀ s H C cl fp, PTs (X.blk s H scope (compEnvC scope cl C X.env) fp) ifs (rC g T F c)) (he : ∀ s H C cl fp, PE (X.blk s H scope (compEnvC scope cl C X.env) fp) elt (rE g (fun _ _ _ _ => False) T F ce)) :
    PS X (.Assign [.Name y py] (.ListComp elt [⟨tg, it, ifs, 0⟩] scope pos) spos) (rS g W T F (.set (.nm i) (.comp ((ownOf ns scope).map (·.2)) ce t w c))) := by
  subst hs
  refine PS.imp (ps_setLc (g := rdG g t) C.calm C.nd (by rw [hN]; exact ixOf_ok hi') hy (sw_true hk hy hl hown) hi (by rw [hN]; exact blkOk_by hb) (fun s H A cl fp => ?_) hc he (folded_of hd)) fun N σ H ⟨io, hd, sd, R, S, q⟩ => ?_
  · exact trTg_ok (X := X.blk s H scope (compEnvC scope cl A X.env) fp) C.eK C.calm hN C.nd (fun x hx => inner_ok rfl hx) k tg t ht
  · refine lc_read hsl ?_
    refine rdE.thenS R S q fun x h1 io1 H1 v n1 R1 S1 rx q1 => ?_
    have ea : asg (.nm i) x sd = if i < sd.length then some (sd.set i (some x)) else none := rfl
    rw [ea] at q1
    by_cases hil : i < sd.length
    · rw [if_pos hil] at q1
      exact q1 io1 H1 _ n1 R1 (S1.set i rx)
    · rw [if_neg hil] at q1
      exact q1.elim
theorem gdOk_step {gs : Gd} {body : D → St → Hd → SR} {xs : List D} {σ : St} {h : Hd} {io : Nat → Addr} {hd : Hd} {H : Hp} {N : Ends} (q : PSt g W io hd H N (forL gs body xs σ h)) : gdOk gs h = true := by
  cases e : gdOk gs h with
  | true => rfl
  | false => cases xs <;> (unfold forL at q; rw [e] at q; exact q.elim)
theorem p_for {t : Tg} {w : Wk} {it : Expr} {body : List Stmt} {N : Nm} {n : Nat} (C : Cn g F N n X) (hd' : isSetD it = false) (hi : PI X tg it (rI g W T F w)) (hg : PG X tg (rdG g t)) (hb : PSs X body (rSs g W T F css)) : PS X (.For tg it body [] pos) (rS g W T F (.for_ t w css)) := by
  refine PS.imp (ps_for C.own C.calm hi hg hb (folded_of hd')) fun N σ H ⟨io, hd, sd, R, S, q⟩ => ?_
  refine rdI.thenS R S q fun p h1 io1 H1 J n1 R1 S1 iw q1 => ?_
  obtain ⟨xs, gs⟩ := p
  obtain ⟨G, Y, wk, hG, hY⟩ := iw
  let bd : D → St → Hd → SR := fun x σ h => match asg t x σ with
    | some σ' => evSs T F css σ' h
    | none => .no
  have q1 : PSt g W io hd H N (forL gs bd xs sd h1) := q1
  let Pv : Nat → L2.St → Hp → Prop := fun i σ2 H2 => ∃ io2 h2 sd2, Nxt g io1 h1 H1 io2 h2 H2 ∧ RH g io2 h2 H2 ∧ RS g io2 h2.length H2 sd2 σ2 ∧ PSt g W io2 h2 H2 N (forL gs bd (xs.drop i) sd2 h2)
  refine for_it wk Pv ⟨io1, h1, sd, .refl, R1, S1, q1.tr n1⟩ (fun i σ2 H2 _ ⟨io2, h2, sd2, n2, R2, S2, q2⟩ => hG io2 h2 H2 n2 R2 (gdOk_step q2)) (fun i x σ2 H2 H3 hi ⟨io2, h2, sd2, n2, R2, S2, q2⟩ y => ?_) (fun σ2 H2 ⟨io2, h2, sd2, n2, R2, S2, q2⟩ => ?_)
  · have gk := gdOk_step q2
    obtain ⟨d, hx, R3, n3, rx⟩ := hY i io2 h2 H2 x H3 n2 R2 gk y
    have hdr : xs.drop i = d :: xs.drop (i + 1) := by
      obtain ⟨hi', rfl⟩ := List.getElem?_eq_some_iff.mp hx
      exact List.drop_eq_getElem_cons hi'
    rw [hdr] at q2
    unfold forL at q2
    rw [gk] at q2
    dsimp only at q2
    have eb : bd d sd2 h2 = (match asg t d sd2 with | some σ' => evSs T F css σ' h2 | none => .no) := rfl
    rw [eb] at q2
    cases ea : asg t d sd2 with
    | none => rw [ea] at q2; exact q2.elim
    | some sd3 =>
      rw [ea] at q2
      dsimp only at q2
      refine ⟨io2, h2, sd2, d, sd3, R3, n3.rs S2, rx, ea, fun σ3 S3 _ => ⟨io2, h2, sd3, R3, S3, ?_⟩⟩
      cases er : evSs T F css sd3 h2 with
      | nx sd4 h4 => rw [er] at q2; exact fun io4 H4 σ4 n4 R4 S4 => ⟨io4, h4, sd4, (n2.trans n3).trans n4, R4, S4, q2.tr (n3.trans n4)⟩
      | ct sd4 h4 => rw [er] at q2; exact fun io4 H4 σ4 n4 R4 S4 => ⟨io4, h4, sd4, (n2.trans n3).trans n4, R4, S4, q2.tr (n3.trans n4)⟩
      | bk sd4 h4 => rw [er] at q2; exact q2.tr n3
      | rt v h4 => rw [er] at q2; exact q2.tr n3
      | er ex sd4 h4 => rw [er] at q2; exact q2.tr n3
      | no => rw [er] at q2; exact q2.elim
  · have hdr : xs.drop xs.length = [] := List.drop_length
    have gk := gdOk_step q2
    have q2 : PSt g W io2 h2 H2 N (forL gs bd (xs.drop xs.length) sd2 h2) := q2
    rw [hdr] at q2
    unfold forL at q2
    rw [gk] at q2
    exact q2 io2 H2 σ2 .refl R2 S2
theorem p_while {ct : CT} {body : List Stmt} {N : Nm} {n : Nat} (hT : T.wh = whl) (C : Cn g F N n X) (hc : PT X c (rT g W T F ct)) (hb : PSs X body (rSs g W T F css)) : PS X (.While c body [] pos) (rS g W T F (.whl ct css)) := by
  refine PS.imp (ps_while C.own hc hb) fun N σ H ⟨io, hd, sd, R, S, q⟩ => ?_
  have q : PSt g W io hd H N (T.wh (evT T F ct) (evSs T F css) sd hd) := q
  rw [hT] at q
  have z : ∃ m r, whlN (evT T F ct) (evSs T F css) m sd hd = some r ∧ PSt g W io hd H N r := by
    unfold whl at q
    split at q
    · rename_i z
      obtain ⟨m, hm⟩ := Classical.choose_spec z
      exact ⟨m, _, hm, q⟩
    · exact q.elim
  obtain ⟨m0, r0, e0, q0⟩ := z
  refine ⟨fun m σ2 H2 => ∃ io2 h2 sd2, Nxt g io hd H io2 h2 H2 ∧ RH g io2 h2 H2 ∧ RS g io2 h2.length H2 sd2 σ2 ∧ whlN (evT T F ct) (evSs T F css) m sd2 h2 = some r0, ⟨m0, io, hd, sd, .refl, R, S, e0⟩, ?_⟩
  rintro m σ2 H2 ⟨io2, h2, sd2, n2, R2, S2, e2⟩
  cases m with
  | zero => cases e2
  | succ m =>
    unfold whlN at e2
    refine ⟨io2, h2, sd2, R2, S2, ?_⟩
    cases ec : evT T F ct sd2 h2 with
    | ok k h3 =>
      rw [ec] at e2
      intro io3 H3 n3 R3
      cases k with
      | false =>
        rw [if_neg (by decide)]
        cases e2
        exact q0 io3 H3 σ2 (n2.trans n3) R3 (n3.rs S2)
      | true =>
        rw [if_pos rfl]
        refine ⟨fun σ4 H4 => ∃ io4 h4 sd4, Nxt g io hd H io4 h4 H4 ∧ RH g io4 h4 H4 ∧ RS g io4 h4.length H4 sd4 σ4 ∧ whlN (evT T F ct) (evSs T F css) m sd4 h4 = some r0, fun σ4 H4 w => ⟨m, Nat.lt_succ_self m, w⟩, io3, h3, sd2, R3, n3.rs S2, ?_⟩
        dsimp only at e2
        have n23 := n2.trans n3
        cases eb : evSs T F css sd2 h3 with
        | nx sd4 h4 => rw [eb] at e2; exact fun io4 H4 σ4 n4 R4 S4 => ⟨io4, h4, sd4, n23.trans n4, R4, S4, e2⟩
        | ct sd4 h4 => rw [eb] at e2; exact fun io4 H4 σ4 n4 R4 S4 => ⟨io4, h4, sd4, n23.trans n4, R4, S4, e2⟩
        | bk sd4 h4 => rw [eb] at e2; cases e2; exact fun io4 H4 σ4 n4 R4 S4 => q0 io4 H4 σ4 (n23.trans n4) R4 S4
        | rt v h4 => rw [eb] at e2; cases e2; exact q0.tr n23
        | er ex sd4 h4 => rw [eb] at e2; cases e2; exact q0.tr n23
        | no => rw [eb] at e2; cases e2; exact q0.elim
    | er ex h3 => rw [ec] at e2; cases e2; exact fun io3 H3 c d n3 R3 x => q0 io3 H3 σ2 c d (n2.trans n3) R3 (n3.rs S2) x
    | no => rw [ec] at e2; cases e2; exact q0.elim

/-! ### the translation -/
def EF : Nat := 60
def trSet (N : Nm) (ns : List Str) (sc : Scope) (tg e : Expr) (l : Nat) : Option CS :=
  match tg with
  | .Subscript a b _ => if isSlice b then none else (trE N ns EF sc a).bind fun a => (trE N ns EF sc b).bind fun b => (trE N ns EF sc e).map fun e => .seti a b e
  | .Name y py => (match e with
    | .ListComp elt gs scope pos => (match sc.kind with
      | .function => if outerT sc y && (py.line == pos.line) && !(scope.names.any fun (n, k) => n == y && (k == .local || k == .cell)) then (ixOf ns y).bind fun i => (trE N ns EF sc e).map fun c => .set (.nm i) c else none
      | _ => none)
    | e => if isCompE e then none else (trTg ns (inner sc) 20 tg).bind fun t => (trE N ns EF sc e).map fun e => .set t e)
  | .Tuple .. => if isTupE e || isCompE e then none else (trTg ns (inner sc) 20 tg).bind fun t => (trE N ns EF sc e).map fun e => .set t e
  | _ => none
mutual
def trS (N : Nm) (ns : List Str) (sc : Scope) : Nat → Stmt → Option CS
  | 0, _ => none
  | k + 1, s => match s with
    | .Assign tgs e pos => (match tgs with
      | [tg] => trSet N ns sc tg e pos.line
      | _ => none)
    | .Expr e _ => if isCompE e then none else (trE N ns EF sc e).map .ex
    | .Return v _ => (match v with
      | none => some (.ret (.cst .non))
      | some e => (trE N ns EF sc e).map .ret)
    | .If c a b _ => (trT N ns EF sc c).bind fun c => (trSs N ns sc k a).bind fun a => (trSs N ns sc k b).map fun b => .ite c a b
    | .For tg it body els _ => (match els with
      | [] => if isSetD it then none else (trTg ns (inner sc) 20 tg).bind fun t => (trI N ns EF sc tg it).bind fun w => (trSs N ns sc k body).map fun b => .for_ t w b
      | _ => none)
    | .While c body els _ => (match els with
      | [] => (trT N ns EF sc c).bind fun c => (trSs N ns sc k body).map fun b => .whl c b
      | _ => none)
    | .Pass _ => some .pss
    | .Break _ => some .brk
    | .Continue _ => some .cnt
    | _ => none
def trSs (N : Nm) (ns : List Str) (sc : Scope) : Nat → List Stmt → Option CSs
  | 0, _ => none
  | k + 1, ss => match ss with
    | [] => some .nil
    | s :: r => (trSs N ns sc k r).map fun r => .cons ((trS N ns sc k s).getD (.rai 0 .nil)) r
end
theorem comp_inv {N : Nm} {k : Nat} {sc scope : Scope} {elt : Expr} {gs : List Comprehension} {c : CE} (h : trE N ns (k + 1) sc (.ListComp elt gs scope pos) = some c) :
    ∃ tg it ifs t w c' ce, gs = [⟨tg, it, ifs, 0⟩] ∧ blkC ns sc scope (ownOf ns scope) = true ∧ isSetD it = false ∧ trTg ns (inner scope) 20 tg = some t ∧ (∀ j ∈ t.sl, j ∈ (ownOf ns scope).map (·.2)) ∧ trI N ns k sc tg it = some w ∧
      ((ifs = [] ∧ c' = none) ∨ ∃ x ct, ifs = [x] ∧ trT N ns k (relS scope sc) x = some ct ∧ c' = some ct) ∧ trE N ns k (relS scope sc) elt = some ce ∧ c = .comp ((ownOf ns scope).map (·.2)) ce t w c' := by
  unfold trE at h
  dsimp only at h
  split at h
  · rename_i tg it ifs as
    split at h
    · rename_i hc
      simp only [Bool.and_eq_true, decide_eq_true_eq] at hc
      obtain ⟨⟨rfl, h1⟩, h2⟩ := hc
      obtain ⟨t, h3, h⟩ := bindE h
      split at h
      · rename_i hsl
        obtain ⟨w, h4, h⟩ := bindE h
        obtain ⟨c', h5, h⟩ := bindE h
        obtain ⟨ce, h6, rfl⟩ := mapE h
        refine ⟨tg, it, ifs, t, w, c', ce, rfl, h1, by simpa using h2, h3, fun j hj => of_decide_eq_true (List.all_eq_true.mp hsl j hj), h4, ?_, h6, rfl⟩
        split at h5
        · cases h5; exact .inl ⟨rfl, rfl⟩
        · obtain ⟨ct, h7, rfl⟩ := mapE h5
          exact .inr ⟨_, ct, rfl, h7, rfl⟩
        · cases h5
      · cases h
    · cases h
  · cases h
theorem loc_inner {sc : Scope} {x : Str} (hs : X.env.scope = sc) (hfn : ∀ y, X.env.scope.names.lookup y = some .cell → X.fn y = true) (h : inner sc x = true) : Loc X.env.scope x ∧ (X.fn x = true ∨ X.env.scope.names.lookup x = some .local) := by
  subst hs
  unfold inner at h
  split at h
  · rename_i e
    exact ⟨.inl e, .inr e⟩
  · rename_i e
    exact ⟨.inr e, .inl (hfn _ e)⟩
  · cases h
theorem outer_inner {sc : Scope} {x : Str} (h : outerT sc x = true) : inner sc x = true := by
  unfold outerT at h
  unfold inner
  split at h
  · rename_i e; rw [e]
  · cases h
theorem s_set {N : Nm} {n : Nat} {sc : Scope} {W : WX} (C : Cn g F N n X) (hN : X.N = ns) (hs : X.env.scope = sc) (hfn : ∀ y, X.env.scope.names.lookup y = some .cell → X.fn y = true) (tk : Takes X W) (h : trSet N ns sc tg e pos.line = some cs) : PS X (.Assign [tg] e pos) (rS g W T F cs) := by
  obtain ⟨ihE, _, ihT, _, ihI⟩ := s_all (g := g) (T := T) (F := F) (N := N) (ns := ns) (n := n) EF
  unfold trSet at h
  cases tg with
  | Subscript a b p =>
    dsimp only at h
    split at h
    · cases h
    · rename_i hb
      obtain ⟨ca, h1, h⟩ := bindE h
      obtain ⟨cb, h2, h⟩ := bindE h
      obtain ⟨ce, h3, rfl⟩ := mapE h
      have hu := C.hu
      exact p_seti (by omega) (by simpa using hb) (ihE _ sc ca W X h1 C hN hs tk) (ihE _ sc cb W X h2 C hN hs tk) (ihE _ sc ce W X h3 C hN hs tk)
  | Name y py =>
    have pl : ∀ {e : Expr}, (if isCompE e then none else (trTg ns (inner sc) 20 (.Name y py)).bind fun t => (trE N ns EF sc e).map fun e => CS.set t e) = some cs → PS X (.Assign [.Name y py] e pos) (rS g W T F cs) := fun {e} h => by
      split at h
      · cases h
      · rename_i hc
        obtain ⟨t, h1, h⟩ := bindE h
        obtain ⟨ce, h2, rfl⟩ := mapE h
        exact p_set (swaps_of (by simpa using hc)) (stores_none (.inl rfl) fun _ _ z => nomatch z) rfl (ihE _ sc ce W X h2 C hN hs tk) (trTg_ok C.eK C.calm hN C.nd (fun x hx => loc_inner hs hfn hx) 20 _ t h1)
    cases e with
    | ListComp elt gs scope p =>
      dsimp only at h
      split at h
      · rename_i hk
        split at h
        · rename_i hc
          simp only [Bool.and_eq_true] at hc
          obtain ⟨⟨h1, h2⟩, h3⟩ := hc
          obtain ⟨i, h4, h⟩ := bindE h
          obtain ⟨c, h5, rfl⟩ := mapE h
          obtain ⟨tg, it, ifs, t, w, c', ce, rfl, b1, b2, b3, b4, b5, b6, b7, rfl⟩ := comp_inv (k := 59) h5
          obtain ⟨jhE, _, jhT, _, jhI⟩ := s_all (g := g) (T := T) (F := F) (N := N) (ns := ns) (n := n) 59
          have h1' : sc.names.lookup y = some .local := by
            unfold outerT at h1
            split at h1
            · assumption
            · cases h1
          refine p_setLc C hN hs h4 hk h1' h2 (by simpa using h3) b1 b2 b3 b4 (jhI _ _ sc w W X b5 C hN hs tk) (fun s H A cl fp => ?_) (fun s H A cl fp => ?_)
          · rcases b6 with ⟨rfl, rfl⟩ | ⟨x, ct, rfl, h7, rfl⟩
            · exact pts_nil
            · exact pts_one (jhT _ (relS scope sc) ct _ _ h7 (C.blk ..) hN (by rw [← hs]; rfl) (takes_blk _ _ _ _ _))
          · exact jhE _ (relS scope sc) ce _ _ b7 (C.blk ..) hN (by rw [← hs]; rfl) (takes_blk _ _ _ _ _)
        · cases h
      · cases h
    | _ => exact pl h
  | Tuple ts k p =>
    dsimp only at h
    split at h
    · cases h
    · rename_i hc
      simp only [Bool.or_eq_true, not_or, Bool.not_eq_true] at hc
      obtain ⟨t, h1, h⟩ := bindE h
      obtain ⟨ce, h2, rfl⟩ := mapE h
      exact p_set (swaps_of hc.2) (stores_none (.inr hc.1) fun _ _ z => nomatch z) rfl (ihE _ sc ce W X h2 C hN hs tk) (trTg_ok C.eK C.calm hN C.nd (fun x hx => loc_inner hs hfn hx) 20 _ t h1)
  | _ => cases h
theorem s_sts {N : Nm} {n : Nat} {sc : Scope} {W : WX} (hT : T.wh = whl) (C : Cn g F N n X) (hN : X.N = ns) (hs : X.env.scope = sc) (hfn : ∀ y, X.env.scope.names.lookup y = some .cell → X.fn y = true) (tk : Takes X W) : ∀ k, (∀ s cs, trS N ns sc k s = some cs → PS X s (rS g W T F cs)) ∧ ∀ ss css, trSs N ns sc k ss = some css → PSs X ss (rSs g W T F css)
  | 0 => by
    refine ⟨fun s cs h => ?_, fun s cs h => ?_⟩
    · unfold trS at h; cases h
    · unfold trSs at h; cases h
  | k + 1 => by
    obtain ⟨ihS, ihB⟩ := s_sts hT C hN hs hfn tk k
    obtain ⟨ihE, _, ihT, _, ihI⟩ := s_all (g := g) (T := T) (F := F) (N := N) (ns := ns) (n := n) EF
    refine ⟨fun s cs h => ?_, fun ss css h => ?_⟩
    · unfold trS at h
      cases s with
      | Assign tgs e p =>
        dsimp only at h
        split at h
        · exact s_set C hN hs hfn tk h
        · cases h
      | Expr e p =>
        dsimp only at h
        split at h
        · cases h
        · rename_i hc
          obtain ⟨ce, h1, rfl⟩ := mapE h
          exact p_ex (by simpa using hc) (ihE _ sc ce W X h1 C hN hs tk)
      | Return v p =>
        dsimp only at h
        split at h
        · cases h; exact p_retN
        · obtain ⟨ce, h1, rfl⟩ := mapE h
          exact p_ret (ihE _ sc ce W X h1 C hN hs tk)
      | If c a b p =>
        dsimp only at h
        obtain ⟨cc, h1, h⟩ := bindE h
        obtain ⟨ca, h2, h⟩ := bindE h
        obtain ⟨cb, h3, rfl⟩ := mapE h
        exact p_if (ihT _ sc cc W X h1 C hN hs tk) (ihB _ _ h2) (ihB _ _ h3)
      | For tg it body els p =>
        dsimp only at h
        split at h
        · split at h
          · cases h
          · rename_i hc
            obtain ⟨t, h1, h⟩ := bindE h
            obtain ⟨w, h2, h⟩ := bindE h
            obtain ⟨cb, h3, rfl⟩ := mapE h
            exact p_for C (by simpa using hc) (ihI _ _ sc w W X h2 C hN hs tk) (trTg_ok C.eK C.calm hN C.nd (fun x hx => loc_inner hs hfn hx) 20 _ t h1) (ihB _ _ h3)
        · cases h
      | While c body els p =>
        dsimp only at h
        split at h
        · obtain ⟨cc, h1, h⟩ := bindE h
          obtain ⟨cb, h3, rfl⟩ := mapE h
          exact p_while hT C (ihT _ sc cc W X h1 C hN hs tk) (ihB _ _ h3)
        · cases h
      | Pass p => cases h; exact p_pass
      | Break p => cases h; exact p_break
      | Continue p => cases h; exact p_cont
      | _ => cases h
    · unfold trSs at h
      cases ss with
      | nil => cases h; exact p_nil
      | cons s r =>
        dsimp only at h
        obtain ⟨c2, h2, rfl⟩ := mapE h
        cases h1 : trS N ns sc k s with
        | some c1 => exact p_cons (ihS _ _ h1) (ihB _ _ h2)
        | none => exact p_cons p_bad (ihB _ _ h2)
end
end U
end

section
set_option maxRecDepth 100000
set_option maxHeartbeats 1000000
/-! Defs by a table; the head's facts; the law's end. -/
namespace U
open PySem L2
theorem zip_lookup : ∀ {ps : List Str} {us : List Value} {x : Str}, us.length = ps.length → x ∈ ps → ((ps.zip us).lookup x).isSome = true
  | p :: ps, u :: us, x, hl, hx => by
    rw [List.zip_cons_cons, List.lookup_cons]
    cases e : x == p with
    | true => rfl
    | false =>
      rcases List.mem_cons.mp hx with rfl | hx
      · simp at e
      · exact zip_lookup (by simpa using hl) hx
theorem zip_binds : ∀ {ps : List Str} {us : List Value} {m : Str → Option Value}, ps.Nodup → us.length = ps.length → (∀ x v, (x, v) ∈ ps.zip us → m x = some v) → ps.filterMap (fun n => (m n).map fun v => (n, v)) = ps.zip us
  | [], us, m, _, _, _ => by simp
  | p :: ps, [], m, _, h, _ => by simp at h
  | p :: ps, u :: us, m, nd, h, hm => by
    rw [List.filterMap_cons, hm p u (by simp)]
    simp only [Option.map_some, List.zip_cons_cons]
    rw [zip_binds (List.nodup_cons.mp nd).2 (by simpa using h) fun x v hx => hm x v (by simp [hx])]
theorem zip_look : ∀ {ps : List Str} {us : List Value}, ps.Nodup → ∀ x v, (x, v) ∈ ps.zip us → (ps.zip us).lookup x = some v
  | [], us, _, x, v, h => by simp at h
  | p :: ps, [], _, x, v, h => by simp at h
  | p :: ps, u :: us, nd, x, v, h => by
    rw [List.zip_cons_cons, List.lookup_cons]
    rw [List.zip_cons_cons] at h
    rcases List.mem_cons.mp h with e | h
    · cases e; simp
    · have hx : x ∈ ps := (List.of_mem_zip h).1
      have ne : x ≠ p := fun e => (List.nodup_cons.mp nd).1 (e ▸ hx)
      have : (x == p) = false := by simp [ne]
      rw [this]
      exact zip_look (List.nodup_cons.mp nd).2 x v h
/-- plain parameters -/
def plainA (a : Arguments) : Bool := a.posonlyargs.isEmpty && a.vararg.isNone && a.kwonlyargs.isEmpty && a.kwarg.isNone
theorem bind_plain {fd : FuncData} {us : List Value} (hp : plainA fd.params = true) (hd : fd.defaults = .none) (nd : (fd.params.args.map (·.arg)).Nodup) (hl : us.length = (fd.params.args.map (·.arg)).length) : bindArgs fd ⟨us, []⟩ = pure ((fd.params.args.map (·.arg)).zip us) := by
  unfold plainA at hp
  simp only [Bool.and_eq_true, List.isEmpty_iff, Option.isNone_iff_eq_none] at hp
  obtain ⟨⟨⟨h1, h2⟩, h3⟩, h4⟩ := hp
  unfold bindArgs
  have hs : seqItems? Value.none = (pure none : Sem (Option (Array Value))) := rfl
  generalize hps : fd.params.args.map (·.arg) = ps at nd hl
  have hm : (ps.take ps.length).filter (fun n => ((ps.zip us).lookup n).isNone) = [] := by
    rw [List.filter_eq_nil_iff]
    intro a ha
    have := zip_lookup hl (List.mem_of_mem_take ha)
    simp [Option.isNone_iff_eq_none, Option.isSome_iff_ne_none] at this ⊢
    exact this
  have hb := zip_binds nd hl (m := fun n => (ps.zip us).lookup n) (zip_look nd)
  simp only [h1, h2, h3, h4, hd, hs, List.map_nil, List.nil_append, List.append_nil, hps, hl]
  simp [hm, hb]
  intro x hx hn
  obtain ⟨v, hv⟩ := Option.isSome_iff_exists.mp (zip_lookup hl hx)
  exact (hn v (PySem.mem_of_lookup hv)).elim

/-! ### the table of defs -/
structure TD where
  d : He.DefD
  ns : List Str
def TD.ps (e : TD) : List Str := e.d.params.args.map (·.arg)
def parB (sc : Scope) (x : Str) : Bool := match sc.names.lookup x with
  | some .local => true
  | some .cell => true
  | _ => false
def scC (e : TD) : Bool := (match e.d.scope.kind with | .function => true | _ => false) && !e.d.scope.isCoroutine && !e.d.scope.isGenerator && decide e.ns.Nodup && decide (e.ns.take e.ps.length = e.ps) && e.ps.all (parB e.d.scope) &&
  (e.d.scope.names.all fun y => match y.2 with | .free => false | _ => true) && plainA e.d.params && e.d.dfl.isEmpty && e.d.kwd.isEmpty
theorem scC_ok {e : TD} (h : scC e = true) : FnScope e.ns e.ps e.d.scope ∧ e.ps.Nodup ∧ plainA e.d.params = true ∧ e.d.dfl = [] ∧ e.d.kwd = [] := by
  unfold scC at h
  simp only [Bool.and_eq_true, Bool.not_eq_true', decide_eq_true_eq, List.all_eq_true, List.isEmpty_iff] at h
  obtain ⟨⟨⟨⟨⟨⟨⟨⟨⟨h1, h2⟩, h3⟩, h4⟩, h5⟩, h6⟩, h7⟩, h8⟩, h9⟩, h10⟩ := h
  refine ⟨⟨?_, h2, h3, h4, h5, fun x hx => ?_, fun y hy => ?_⟩, ?_, h8, h9, h10⟩
  · split at h1
    · assumption
    · cases h1
  · have := h6 x hx
    unfold parB at this
    split at this
    · exact .inl (by assumption)
    · exact .inr (by assumption)
    · cases this
  · have := h7 y hy
    intro z
    rw [z] at this
    cases this
  · rw [← h5]
    exact h4.sublist (List.take_sublist _ _)
def trDef (N : Nm) (e : TD) : Option CDef := if scC e then (trSs N e.ns e.d.scope 200 e.d.body).map fun b => ⟨e.ps.length, e.ns.length, b⟩ else none
def nmOf (tb : List TD) (cs : List (Str × D)) (fr : List Str) : Nm where
  fn := fun x => tb.findIdx? fun e => decide (e.d.at_ = (x, none))
  cst := fun x => cs.lookup x
  fre := fun x => fr.any fun y => y == x
noncomputable def tabOf (bs : List CDef) : Tab where
  fn := fun f => bs[f]?
  meth := fun _ _ => none
  ini := fun _ => none
  exi := fun _ => none
  sub := fun _ _ => false
  wh := whl
def wdOf (K : PySem.W.Frag) (tb : List TD) : Wd := ⟨K, fun _ => 0, fun f => (tb[f]?).elim 0 fun e => He.fAd K e.d.at_⟩

/-! ### every def keeps its promise -/
section
variable {P : Program} {w : World} {K : PySem.W.Frag} {mg : Str → Option Value} {base : Heap} {tb : List TD} {cs : List (Str × D)} {fr : List Str} {bs : List CDef}
structure Facts (K : PySem.W.Frag) (mg : Str → Option Value) (tb : List TD) (cs : List (Str × D)) (fr : List Str) : Prop where
  df : ∀ (f : Nat) e, tb[f]? = some e → ∃ fd, FunD K e.d.name e.d.qual e.d.params e.d.body e.d.scope (e.d.dvs K) (e.d.kws K) (He.fAd K e.d.at_) fd
  gl : ∀ (f : Nat) e x, tb[f]? = some e → e.d.at_ = (x, none) → mg x = some (.ref (He.fAd K e.d.at_))
  cst : ∀ x d, (x, d) ∈ cs → ∃ u v, mg x = some u ∧ RelV v u ∧ ∀ g io L H, g.K = K → RD g io L H d v
  fre : ∀ x ∈ fr, mg x = none
theorem callD_len {T : Tab} {n f : Nat} {xs : List D} {h : Hd} {cd : CDef} {P' : D → Hd → Prop} {E : Exn → Hd → Prop} (hf : T.fn f = some cd) (q : PostE (callD T n f xs h) P' E) : xs.length = cd.ps := by
  cases n with
  | zero => exact q.elim
  | succ n =>
    unfold callD at q
    rw [hf] at q
    unfold runD at q
    dsimp only at q
    cases e : decide (xs.length = cd.ps) with
    | true => exact of_decide_eq_true e
    | false => rw [e] at q; exact q.elim
theorem defs_ok (Fc : Facts K mg tb cs fr) (hb : tb.map (trDef (nmOf tb cs fr)) = bs.map some) : ∀ (n : Nat) (f : Nat) (e : TD) (fd : FuncData), tb[f]? = some e → FunD K e.d.name e.d.qual e.d.params e.d.body e.d.scope (e.d.dvs K) (e.d.kws K) (He.fAd K e.d.at_) fd →
    FnOk P w K mg base (L2.CX P w) n (He.fAd K e.d.at_) fd e.ps (spS (wdOf K tb) (callD (tabOf bs) n f)) ∧ Binds K fd e.ps [] ∧ PySem.W.keepIn K (.ref (He.fAd K e.d.at_)) = true := by
  have hbs : ∀ (f : Nat) (e : TD), tb[f]? = some e → ∃ cd, bs[f]? = some cd ∧ trDef (nmOf tb cs fr) e = some cd := fun f e he => by
    have h1 : (tb.map (trDef (nmOf tb cs fr)))[f]? = some (trDef (nmOf tb cs fr) e) := by rw [List.getElem?_map, he]; rfl
    rw [hb, List.getElem?_map] at h1
    obtain ⟨cd, h2, h3⟩ := Option.map_eq_some_iff.mp h1
    exact ⟨cd, h2, h3.symm⟩
  have parts : ∀ (e : TD) (cd : CDef), trDef (nmOf tb cs fr) e = some cd → scC e = true ∧ ∃ b, trSs (nmOf tb cs fr) e.ns e.d.scope 200 e.d.body = some b ∧ cd = ⟨e.ps.length, e.ns.length, b⟩ := fun e cd h => by
    unfold trDef at h
    split at h
    · rename_i hs
      obtain ⟨b, h1, rfl⟩ := mapE h
      exact ⟨hs, b, h1, rfl⟩
    · cases h
  have binds : ∀ (f : Nat) (e : TD) (fd : FuncData), tb[f]? = some e → FunD K e.d.name e.d.qual e.d.params e.d.body e.d.scope (e.d.dvs K) (e.d.kws K) (He.fAd K e.d.at_) fd → FunD K e.d.name e.d.qual e.d.params e.d.body e.d.scope [] [] (He.fAd K e.d.at_) fd ∧ Binds K fd e.ps [] := fun f e fd he FD => by
    obtain ⟨cd, _, h2⟩ := hbs f e he
    obtain ⟨hs, _⟩ := parts e cd h2
    obtain ⟨S, nd, hp, h3, h4⟩ := scC_ok hs
    have e1 : e.d.dvs K = [] := by unfold He.DefD.dvs; rw [h3]; rfl
    have e2 : e.d.kws K = [] := by unfold He.DefD.kws; rw [h4]; rfl
    rw [e1, e2] at FD
    exact ⟨FD, FunD.bindsN FD fun kV doc pm an cdv ct us hl => bind_plain (fd := PySem.W.fnOf e.d.name e.d.qual e.d.params e.d.body e.d.scope .none kV doc pm an cdv ct) hp rfl nd hl⟩
  intro n
  induction n with
  | zero =>
    intro f e fd he FD
    obtain ⟨FD, B⟩ := binds f e fd he FD
    exact ⟨⟨fun vs H Q E ⟨_, _, _, _, _, q⟩ => q.elim, fun A outer s H args us vs Q E hr he hb hv ⟨_, _, _, _, _, q⟩ => q.elim⟩, B, FD.kp⟩
  | succ n ih =>
    intro f e fd he FD
    obtain ⟨FD, B⟩ := binds f e fd he FD
    obtain ⟨cd, hcd, h2⟩ := hbs f e he
    obtain ⟨hs, b, hbody, rfl⟩ := parts e cd h2
    obtain ⟨S, nd, hp, h3, h4⟩ := scC_ok hs
    have hfn : (tabOf bs).fn f = some ⟨e.ps.length, e.ns.length, b⟩ := hcd
    refine ⟨FunD.ok FD S (fun vs H Q E ⟨io, hd, xs, R, r, q⟩ => by rw [← r.len]; exact callD_len hfn q) (fun cdv A outer s H vs Q E hr hsp => ?_), B, FD.kp⟩
    generalize hX : cxOf (L2.CX P w) P w K mg base e.ns e.d.qual e.d.scope (He.fAd K e.d.at_) cdv A outer s H E = X
    have C : Cn (wdOf K tb) (callD (tabOf bs) n) (nmOf tb cs fr) n X := by
      subst hX
      refine ⟨rfl, rfl, hr, S.nd, fun x f' hx => ?_, fun x d hx => ?_, fun x hx => ?_, passes_of rfl⟩
      · obtain ⟨e', h5, h6, _⟩ := findIdx_first (show tb.findIdx? (fun e => decide (e.d.at_ = (x, none))) = some f' from hx)
        have h6 := of_decide_eq_true h6
        obtain ⟨fd', FD'⟩ := Fc.df f' e' h5
        obtain ⟨F', B', K'⟩ := ih f' e' fd' h5 FD'
        have ga : (wdOf K tb).fa f' = He.fAd K e'.d.at_ := by show (tb[f']?).elim 0 _ = _; rw [h5]; rfl
        rw [ga]
        exact ⟨Fc.gl f' e' x h5 h6, K', fd', e'.ps, F', B'⟩
      · obtain ⟨u, v, h5, h6, h7⟩ := Fc.cst x d (PySem.mem_of_lookup hx)
        exact ⟨u, v, h5, h6, fun io L H => h7 _ io L H rfl⟩
      · obtain ⟨y, h5, h6⟩ := List.any_eq_true.mp (show (fr.any fun y => y == x) = true from hx)
        rw [← beq_iff_eq.mp h6]
        exact Fc.fre y h5
    have tk : Takes X (fun cls d _ H => E cls d H) := by
      subst hX
      exact takes_of rfl rfl rfl rfl
    have hN : X.N = e.ns := by subst hX; rfl
    have hsc : X.env.scope = e.d.scope := by subst hX; rfl
    have body := (s_sts (g := wdOf K tb) (T := tabOf bs) rfl C hN hsc (fun y _ => by subst hX; rfl) tk 200).2 e.d.body b hbody
    refine ⟨_, body, ?_⟩
    obtain ⟨io, hd, xs, R, r, q⟩ := hsp
    have hl : xs.length = e.ps.length := callD_len hfn q
    unfold callD at q
    rw [hfn] at q
    unfold runD at q
    dsimp only at q
    rw [decide_eq_true hl] at q
    dsimp only at q
    refine ⟨io, hd, xs.map some ++ List.replicate (e.ns.length - e.ps.length) none, R, ⟨?_, fun i d hi => ?_⟩, ?_⟩
    · unfold L2.start
      simp [← r.len, hl]
    · unfold L2.start
      have hi2 : i < xs.length := by
        by_cases z : i < xs.length
        · exact z
        · rw [List.getElem?_append_right (by simpa using z), List.getElem?_replicate] at hi
          split at hi <;> cases hi
      rw [List.getElem?_append_left (by simpa using hi2), List.getElem?_map] at hi
      obtain ⟨d', h5, h6⟩ := Option.map_eq_some_iff.mp hi
      cases h6
      obtain ⟨v, h7, h8⟩ := r.get h5
      exact ⟨v, by rw [List.getElem?_append_left (by rw [List.length_map, ← r.len]; exact hi2), List.getElem?_map, h7]; rfl, h8⟩
    · cases er : evSs (tabOf bs) (callD (tabOf bs) n) b (xs.map some ++ List.replicate (e.ns.length - e.ps.length) none) hd with
      | nx sd' h' => rw [er] at q; exact fun io' H' σ' n' R' S' => q io' H' .non n' R' (rd_non.mpr rfl)
      | rt v h' => rw [er] at q; exact q
      | er ex sd' h' => rw [er] at q; exact fun io' H' σ' c d n' R' S' x => q io' H' c d n' R' x
      | bk _ _ => rw [er] at q; exact q.elim
      | ct _ _ => rw [er] at q; exact q.elim
      | no => rw [er] at q; exact q.elim
end

/-! ### facts off the heap -/
def datB (K : PySem.W.Frag) : Nat → D → Value → Bool
  | 0, _, _ => false
  | _ + 1, .non, .none => true
  | _ + 1, .bl b, .bool c => b == c
  | _ + 1, .int i, .int j _ => decide (i = j)
  | _ + 1, .str s, .str y _ => decide (y = tS s) && okTx s
  | n + 1, .tup ds, .ref a => (match K.lookup a with
    | some ⟨.type c, _, .seq its _, _⟩ => decide (c = "tuple") && (decide (its.size ≤ sizeLine) && (decide (ds.length = its.toList.length) && (ds.zip its.toList).all fun p => datB K n p.1 p.2))
    | _ => false)
  | _, _, _ => false
theorem datBs_ok {K : PySem.W.Frag} {f : D → Value → Bool} (ih : ∀ d u, f d u = true → ∃ v, RelV v u ∧ ∀ g io L H, g.K = K → RD g io L H d v) : ∀ {ds : List D} {us : List Value}, ds.length = us.length → ((ds.zip us).all fun p => f p.1 p.2) = true → ∃ vs, Vals vs us ∧ ∀ g io L H, g.K = K → RDs g io L H ds vs
  | [], [], _, _ => ⟨[], .nil, fun _ _ _ _ _ => .nil⟩
  | d :: ds, u :: us, hl, h => by
    rw [List.zip_cons_cons, List.all_cons, Bool.and_eq_true] at h
    obtain ⟨v, h1, h2⟩ := ih d u h.1
    obtain ⟨vs, h3, h4⟩ := datBs_ok ih (by simpa using hl) h.2
    exact ⟨v :: vs, .cons h1 h3, fun g io L H e => .cons (h2 g io L H e) (h4 g io L H e)⟩
theorem datB_ok {K : PySem.W.Frag} : ∀ (n : Nat) (d : D) (u : Value), datB K n d u = true → ∃ v, RelV v u ∧ ∀ g io L H, g.K = K → RD g io L H d v
  | 0, _, _, h => by cases h
  | n + 1, d, u, h => by
    unfold datB at h
    split at h
    · cases h
    · exact ⟨.non, rfl, fun _ _ _ _ _ => rd_non.mpr rfl⟩
    · exact ⟨.bl _, by rw [eq_of_beq h]; rfl, fun _ _ _ _ _ => rd_bl.mpr rfl⟩
    · exact ⟨.int _, ⟨_, by rw [of_decide_eq_true h]⟩, fun _ _ _ _ _ => rd_int.mpr rfl⟩
    · rw [Bool.and_eq_true] at h
      exact ⟨.str _, ⟨_, by rw [of_decide_eq_true h.1]⟩, fun _ _ _ _ _ => rd_str.mpr ⟨rfl, okTx_ok h.2⟩⟩
    · split at h
      · rename_i c od its k sl hk
        simp only [Bool.and_eq_true, decide_eq_true_eq] at h
        obtain ⟨h1, h2, h3, h4⟩ := h
        cases ‹n + 1 = _ + 1›
        obtain ⟨vs, h5, h6⟩ := datBs_ok (f := datB K n) (fun d u h => datB_ok n d u h) h3 h4
        refine ⟨.ref _, rfl, fun g io L H e => rd_tup.mpr ⟨_, vs, rfl, .inr ⟨_, its, k, by rw [e]; exact hk, by rw [h1], rfl, h2, h5⟩, h6 g io L H e⟩⟩
      · cases h
    · cases h
/-- facts: a module's name is data; a name is bound by nothing -/
inductive Ft where
  | dat (x : Str) (d : D)
  | free (x : Str)
def Ft.ok (K : PySem.W.Frag) : Ft → Bool
  | .dat x d => (match PySem.W.nsIn K mainGlobals x with
    | some (some u) => datB K 12 d u
    | _ => false)
  | .free x => He.eqO (PySem.W.nsIn K mainGlobals x) (some none)
/-- all that a def's address asks: the module's name stands for it -/
def glB (K : PySem.W.Frag) (e : He.DefD) : Bool := match e.at_ with
  | (x, none) => He.eqO (PySem.W.nsIn K mainGlobals x) (some (some (.ref (He.ga K x))))
  | _ => true
def reach (g : Addr → Option Obj) : Nat → Addr → List Addr
  | 0, a => [a]
  | n + 1, a => a :: (match g a with
    | some o => (He.refsO o).flatMap (reach g n)
    | none => [])
abbrev AlU : Type := Bool × List He.FnW
def obsU (fa : List Ft) (tb : List TD) (K : PySem.W.Frag) : AlU := ((fa.all fun f => f.ok K) && tb.all fun e => glB K e.d && e.d.ok K, tb.map fun e => He.fnW K e.d.at_)
def valU (tb : List TD) : AlU := (true, tb.map fun e => e.d.val)
def SaysU (fa : List Ft) (tb : List TD) (K : PySem.W.Frag) : Prop := obsU fa tb K = valU tb
def obsUG (n : Nat) (fa : List Ft) (tb : List TD) (g : Addr → Option Obj) : AlU := obsU fa tb (He.frG g (reach g n mainGlobals))
def hookU (n : Nat) (fa : List Ft) (tb : List TD) : PySem.W.Hook where
  α := AlU
  obs := fun s => obsUG n fa tb s.heap.get?
  val := fun _ => valU tb
  says := fun _ h => ∃ K : PySem.W.Frag, K.In h ∧ SaysU fa tb K
  of := fun _ _ e => ⟨_, He.frG_in, e⟩
  keeps := fun _ _ _ ⟨K, hK, c⟩ k => ⟨K, PySem.W.Frag.In.keeps hK k, c⟩
theorem obsUG_eq {n : Nat} {fa : List Ft} {tb : List TD} {g : Addr → Option Obj} {s : Shared} (h : ∀ a, g a = s.heap.get? a) : obsUG n fa tb g = (hookU n fa tb).obs s := by
  have e : g = s.heap.get? := funext h
  rw [e] <;> rfl
/-- the facts of a program: its constants, its free names -/
def ftOf (cs : List (Str × D)) (fr : List Str) : List Ft := (cs.map fun p => .dat p.1 p.2) ++ fr.map .free
theorem facts_of {K : PySem.W.Frag} {h : Heap} {mg : Str → Option Value} {tb : List TD} {cs : List (Str × D)} {fr : List Str} (X : K.In h) (G : h.Ns mainGlobals mg) (c : SaysU (ftOf cs fr) tb K) : Facts K mg tb cs fr := by
  have c1 : (((ftOf cs fr).all fun f => f.ok K) && tb.all fun e => glB K e.d && e.d.ok K) = true := congrArg (fun z : AlU => z.1) c
  have c2 : (tb.map fun e => He.fnW K e.d.at_) = tb.map fun e => e.d.val := congrArg (fun z : AlU => z.2) c
  rw [Bool.and_eq_true] at c1
  obtain ⟨c1, c3⟩ := c1
  have dk : ∀ (f : Nat) (e : TD), tb[f]? = some e → glB K e.d = true ∧ e.d.ok K = true ∧ He.fnW K e.d.at_ = e.d.val := fun f e he => by
    have h1 := List.all_eq_true.mp c3 e (List.mem_of_getElem? he)
    rw [Bool.and_eq_true] at h1
    have h2 : (tb.map fun e => He.fnW K e.d.at_)[f]? = (tb.map fun e => e.d.val)[f]? := by rw [c2]
    rw [List.getElem?_map, List.getElem?_map, he] at h2
    exact ⟨h1.1, h1.2, Option.some.inj h2⟩
  refine ⟨fun f e he => He.DefD.funD (dk f e he).2.2 (dk f e he).2.1, fun f e x he hx => ?_, fun x d hx => ?_, fun x hx => ?_⟩
  · have h1 := (dk f e he).1
    unfold glB at h1
    rw [hx] at h1
    have e1 : He.fAd K e.d.at_ = He.ga K x := by rw [hx]; rfl
    rw [e1]
    exact PySem.W.mg_of X G (He.eqO_ok h1)
  · have h1 : (Ft.dat x d).ok K = true := List.all_eq_true.mp c1 _ (List.mem_append_left _ (List.mem_map.mpr ⟨(x, d), hx, rfl⟩))
    unfold Ft.ok at h1
    dsimp only at h1
    cases e : PySem.W.nsIn K mainGlobals x with
    | none => rw [e] at h1; cases h1
    | some o =>
      rw [e] at h1
      cases o with
      | none => cases h1
      | some u =>
        obtain ⟨v, h2, h3⟩ := datB_ok 12 d u h1
        exact ⟨u, v, PySem.W.mg_of X G e, h2, h3⟩
  · have h1 : (Ft.free x).ok K = true := List.all_eq_true.mp c1 _ (List.mem_append_right _ (List.mem_map.mpr ⟨x, hx, rfl⟩))
    exact PySem.W.mg_none_of X G (He.eqO_ok h1)

/-! ### the law's end -/
theorem rds_int {g : Wd} {io : Nat → Addr} {L : Nat} {H : Hp} (ns : List Int) : RDs g io L H (ns.map D.int) (ns.map V.int) := rds_ints ns
theorem law_read {K : PySem.W.Frag} {tb : List TD} {f : List D → M D} {H : Hp} {a : Addr} {ns : List Int} (hS : SqL K H a (ns.map V.int)) (hO : Only H)
    (hz : ns.length ≤ sizeLine) (h : ∃ h', f [.ref 0] [.flst (ns.map .int)] = .ok (.bl true) h') : spS (wdOf K tb) f [.ref a] H (fun v _ => v = .bl true) fun _ _ _ => False := by
  obtain ⟨h', e⟩ := h
  refine ⟨fun _ => a, [.flst (ns.map .int)], [.ref 0], ⟨fun i j o o' h1 h2 m _ _ => ?_, fun i o h1 => ?_⟩, .one (rd_ref.mpr ⟨by simp, rfl⟩), ?_⟩
  · cases i with
    | zero => simp at h1; subst h1; cases m
    | succ i => simp at h1
  · cases i with
    | zero =>
      simp at h1
      subst h1
      refine ⟨ns.map V.int, ?_, rds_int ns⟩
      rcases hS with (hS | ⟨ob, hS⟩) | hS
      · rcases hO a with z | ⟨ob, xs, z⟩
        · rw [z] at hS; cases hS
        · rw [z] at hS; cases hS
      · exact .inl ⟨ob, hS⟩
      · exact .inr hS
    | succ i => simp at h1
  · rw [e]
    exact fun io' H' v' _ _ r => rd_bl.mp r
theorem law_end {l : PySem.W.OpenLaw} {q : Program} {loose : List Str} {tb : List TD} {cs : List (Str × D)} {fr : List Str} {bs : List CDef} {rn : Nat} {d : DefRec} {x : Str} {f : Nat} {e : TD}
    (hn : l.most = some 63) (hdf : d.params.defaults = []) (hb : tb.map (trDef (nmOf tb cs fr)) = bs.map some) (he : tb[f]? = some e) (hat : e.d.at_ = (d.name, none)) (hps : e.ps = [x])
    (h : ∀ ns : List Int, ns.length ≤ 63 → ∃ h', callD (tabOf bs) 200 f [.ref 0] [.flst (ns.map .int)] = .ok (.bl true) h') :
    PySem.W.WalkO q loose (PySem.W.XL q []) (hookU rn (ftOf cs fr) tb).says l.row.toRowW d [] (fun f vs => PySem.call f vs) := by
  refine Att.attach_call hn hdf fun w s₀ s₁ mg mb fa o pm cd doc a vs ns G Y ho hd hcd hmg hobj hints hlen hg => ?_
  obtain ⟨K, KX, c⟩ := Y
  have Fc := facts_of KX G.T.g c
  have hfa : fa = He.fAd K e.d.at_ := by
    have h1 := Fc.gl f e d.name he hat
    rw [hmg] at h1
    cases h1
    rfl
  subst hfa
  obtain ⟨fd, FD⟩ := Fc.df f e he
  have hF : ∀ base : Heap, FnOk l.prog w K mg base (L2.CX l.prog w) 200 (He.fAd K e.d.at_) fd [x] (spS (wdOf K tb) (callD (tabOf bs) 200 f)) := fun base => by
    have := (defs_ok (P := l.prog) (w := w) (base := base) Fc hb 200 f e fd he FD).1
    rw [hps] at this
    exact this
  have hb1 : ∀ (s : Shared) (u : Value), BindsTo s fd ⟨[u], []⟩ [(x, u)] := fun s u => by
    have h1 : ∃ cd, trDef (nmOf tb cs fr) e = some cd := by
      have h1 : (tb.map (trDef (nmOf tb cs fr)))[f]? = some (trDef (nmOf tb cs fr) e) := by rw [List.getElem?_map, he]; rfl
      rw [hb, List.getElem?_map] at h1
      obtain ⟨cd, _, h3⟩ := Option.map_eq_some_iff.mp h1
      exact ⟨cd, h3.symm⟩
    obtain ⟨cd, h1⟩ := h1
    unfold trDef at h1
    split at h1
    · rename_i hs
      obtain ⟨S, nd, hp, h3, h4⟩ := scC_ok hs
      have e1 : e.d.dvs K = [] := by unfold He.DefD.dvs; rw [h3]; rfl
      have e2 : e.d.kws K = [] := by unfold He.DefD.kws; rw [h4]; rfl
      rw [e1, e2] at FD
      have := FunD.bindsA (ps := e.ps) FD (fun kV doc pm an cdv ct us hl => bind_plain (fd := PySem.W.fnOf e.d.name e.d.qual e.d.params e.d.body e.d.scope .none kV doc pm an cdv ct) hp rfl nd hl) s [u] (by rw [hps]; rfl)
      rw [hps] at this
      exact this
    · cases h1
  refine law_call KX G.T.g G.T.b G.T.builtins G.T.nolimit hg hobj hints (Nat.le_trans hlen (by decide)) (k := 200) ⟨rfl, by decide, by decide⟩ (fun base _ _ => hF base) hb1 (fun H hO hS => law_read hS hO (Nat.le_trans hlen (by decide)) (h ns hlen)) fun H e s' hz => ?_
  obtain ⟨_, _, _, _, _, _, _, _, _, _, _, _, z⟩ := hz
  exact z
end U
end

section
set_option maxRecDepth 100000
set_option maxHeartbeats 1000000
/-! Reasoning about runs of the small machine. -/
namespace U
open PySem

/-- it goes through, and Q holds behind it -/
def Rn {α : Type} (r : Rs α) (Q : α → Hd → Prop) : Prop := match r with
  | .ok a h => Q a h
  | _ => False
/-- the same of statements: N behind them, R where they return, C at a continue, B at a break -/
def Sn (r : SR) (N : St → Hd → Prop) (R : D → Hd → Prop) (C B : St → Hd → Prop) : Prop := match r with
  | .nx σ h => N σ h
  | .rt v h => R v h
  | .ct σ h => C σ h
  | .bk σ h => B σ h
  | _ => False
theorem Rn.mono {α : Type} {r : Rs α} {Q Q' : α → Hd → Prop} (a : Rn r Q) (h : ∀ x h, Q x h → Q' x h) : Rn r Q' := by
  cases r <;> first | exact h _ _ a | exact a
theorem Sn.mono {r : SR} {N N' : St → Hd → Prop} {R R' : D → Hd → Prop} {C C' B B' : St → Hd → Prop} (a : Sn r N R C B) (hn : ∀ σ h, N σ h → N' σ h) (hr : ∀ v h, R v h → R' v h) (hc : ∀ σ h, C σ h → C' σ h) (hb : ∀ σ h, B σ h → B' σ h) : Sn r N' R' C' B' := by
  cases r <;> first | exact hn _ _ a | exact hr _ _ a | exact hc _ _ a | exact hb _ _ a | exact a
section
variable {α β : Type} {T : Tab} {F : Nat → List D → M D} {σ : St} {h : Hd}
@[simp] theorem rn_ok {a : α} {Q : α → Hd → Prop} : Rn (.ok a h) Q = Q a h := rfl
@[simp] theorem rn_no {Q : α → Hd → Prop} : Rn (.no) Q = False := rfl
@[simp] theorem rn_er {e : Exn} {Q : α → Hd → Prop} : Rn (.er e h) Q = False := rfl
@[simp] theorem rn_bnd {m : M α} {f : α → M β} {Q : β → Hd → Prop} : Rn (bnd m f h) Q = Rn (m h) fun a h' => Rn (f a h') Q := by
  simp only [bnd_app]
  cases m h <;> rfl
@[simp] theorem rn_rbnd {r : Rs α} {f : α → M β} {Q : β → Hd → Prop} : Rn (r.bnd f) Q = Rn r fun a h' => Rn (f a h') Q := by
  cases r <;> rfl
@[simp] theorem rn_ret {a : α} {Q : α → Hd → Prop} : Rn (ret a h) Q = Q a h := rfl
@[simp] theorem rn_stop {Q : α → Hd → Prop} : Rn ((stop : M α) h) Q = False := rfl
@[simp] theorem rn_must {b : Bool} {Q : Unit → Hd → Prop} : Rn (must b h) Q = (b = true ∧ Q () h) := by
  cases b <;> simp [must]
@[simp] theorem rn_some {a : α} {Q : α → Hd → Prop} : Rn (lft (some a) h) Q = Q a h := rfl
@[simp] theorem rn_none {Q : α → Hd → Prop} : Rn (lft (none : Option α) h) Q = False := rfl
@[simp] theorem rn_new {o : O} {Q : D → Hd → Prop} : Rn (new o h) Q = Q (.ref h.length) (h ++ [o]) := rfl
@[simp] theorem rn_noer {m : M α} {Q : α → Hd → Prop} : Rn (noer m h) Q = Rn (m h) Q := by
  unfold noer
  cases m h <;> rfl
@[simp] theorem rn_gd {g : Gd} {Q : Unit → Hd → Prop} : Rn (gd g h) Q = (gdOk g h = true ∧ Q () h) := by
  unfold gd
  cases gdOk g h <;> simp
/-! ### expressions -/
@[simp] theorem rn_var {i : Nat} {Q : D → Hd → Prop} : Rn (evE T F (.var i) σ h) Q = Rn (lft (σ[i]?.bind id) h) Q := rfl
@[simp] theorem rn_cst {d : D} {Q : D → Hd → Prop} : Rn (evE T F (.cst d) σ h) Q = Q d h := rfl
@[simp] theorem rn_bin {o : BOp} {a b : CE} {Q : D → Hd → Prop} : Rn (evE T F (.bin o a b) σ h) Q = Rn (evE T F a σ h) fun x h => Rn (evE T F b σ h) fun y h => Rn (binE o x y h) Q := by
  show Rn (bnd (evE T F a σ) _ h) Q = _
  simp only [rn_bnd]
@[simp] theorem rn_neg {a : CE} {Q : D → Hd → Prop} : Rn (evE T F (.neg a) σ h) Q = Rn (evE T F a σ h) fun x h => Rn ((match x with | .int i => ret (.int (-i)) | _ => stop : M D) h) Q := by
  show Rn (bnd (evE T F a σ) _ h) Q = _
  simp only [rn_bnd] <;> rfl
@[simp] theorem rn_cmp {o : COp} {a b : CE} {Q : D → Hd → Prop} : Rn (evE T F (.cmp o a b) σ h) Q = Rn (evE T F a σ h) fun x h => Rn (evE T F b σ h) fun y h => Rn (cmpE o x y h) Q := by
  show Rn (bnd (evE T F a σ) _ h) Q = _
  simp only [rn_bnd]
@[simp] theorem rn_chn {o p : COp} {a b c : CE} {Q : D → Hd → Prop} : Rn (evE T F (.chn o p a b c) σ h) Q = Rn (evE T F a σ h) fun x h => Rn (evE T F b σ h) fun y h => Rn (cmpE o x y h) fun r h => Rn ((match r with
    | .bl true => bnd (evE T F c σ) fun z => cmpE p y z
    | .bl false => ret (.bl false)
    | _ => stop : M D) h) Q := by
  show Rn (bnd (evE T F a σ) _ h) Q = _
  simp only [rn_bnd] <;> rfl
@[simp] theorem rn_and {a b : CE} {Q : D → Hd → Prop} : Rn (evE T F (.and a b) σ h) Q = Rn (evE T F a σ h) fun x h => Rn ((match x with | .bl true => evE T F b σ | .bl false => ret (.bl false) | _ => stop : M D) h) Q := by
  show Rn (bnd (evE T F a σ) _ h) Q = _
  simp only [rn_bnd] <;> rfl
@[simp] theorem rn_or {a b : CE} {Q : D → Hd → Prop} : Rn (evE T F (.or a b) σ h) Q = Rn (evE T F a σ h) fun x h => Rn ((match x with | .bl true => ret (.bl true) | .bl false => evE T F b σ | _ => stop : M D) h) Q := by
  show Rn (bnd (evE T F a σ) _ h) Q = _
  simp only [rn_bnd] <;> rfl
@[simp] theorem rn_not {a : CE} {Q : D → Hd → Prop} : Rn (evE T F (.not a) σ h) Q = Rn (evE T F a σ h) fun x h => Rn ((match x with | .bl b => ret (.bl (!b)) | _ => stop : M D) h) Q := by
  show Rn (bnd (evE T F a σ) _ h) Q = _
  simp only [rn_bnd] <;> rfl
@[simp] theorem rn_ite {c : CT} {a b : CE} {Q : D → Hd → Prop} : Rn (evE T F (.ite c a b) σ h) Q = Rn (evT T F c σ h) fun k h => if k = true then Rn (evE T F a σ h) Q else Rn (evE T F b σ h) Q := by
  show Rn (bnd (evT T F c σ) _ h) Q = _
  simp only [rn_bnd]
  congr 1
  funext k h
  cases k <;> rfl
@[simp] theorem rn_tup {es : CEs} {Q : D → Hd → Prop} : Rn (evE T F (.tup es) σ h) Q = Rn (evEs T F es σ h) fun xs h => xs.length ≤ LIM ∧ Q (.tup xs) h := by
  show Rn (bnd (evEs T F es σ) _ h) Q = _
  simp only [rn_bnd, rn_must, rn_ret, decide_eq_true_eq]
@[simp] theorem rn_lst {es : CEs} {Q : D → Hd → Prop} : Rn (evE T F (.lst es) σ h) Q = Rn (evEs T F es σ h) fun xs h => xs.length ≤ LIM ∧ Q (.ref h.length) (h ++ [.lst xs]) := by
  show Rn (bnd (evEs T F es σ) _ h) Q = _
  simp only [rn_bnd, rn_must, rn_new, decide_eq_true_eq]
theorem rn_dct {es : CEs} {Q : D → Hd → Prop} : Rn (evE T F (.dct es) σ h) Q = Rn (evEs T F es σ h) fun xs h => ∃ kvs, pairs? xs = some kvs ∧ kvs.length ≤ 15 ∧ (kvs.all fun p => keyOk KD p.1) = true ∧ Q (.ref h.length) (h ++ [.dct (mrgK kvs)]) := by
  show Rn (bnd (evEs T F es σ) _ h) Q = _
  rw [rn_bnd]
  congr 1
  funext xs h1
  rw [rn_bnd]
  cases pairs? xs with
  | none => simp [Rn, lft]
  | some kvs =>
    rw [rn_some, rn_bnd, rn_must, rn_new]
    simp [Bool.and_eq_true, decide_eq_true_eq, and_assoc]
@[simp] theorem rn_idx {a b : CE} {Q : D → Hd → Prop} : Rn (evE T F (.idx a b) σ h) Q = Rn (evE T F a σ h) fun x h => Rn (evE T F b σ h) fun y h => Rn (idxE x y h) Q := by
  show Rn (bnd (evE T F a σ) _ h) Q = _
  simp only [rn_bnd]
@[simp] theorem rn_slc {a b c : CE} {Q : D → Hd → Prop} : Rn (evE T F (.slc a b c) σ h) Q = Rn (evE T F a σ h) fun x h => Rn (evE T F b σ h) fun l h => Rn (lft (endC b l) h) fun l h => Rn (evE T F c σ h) fun u h => Rn (lft (endC c u) h) fun u h => Rn (slcD x l u h) Q := by
  show Rn (bnd (evE T F a σ) _ h) Q = _
  simp only [rn_bnd]
@[simp] theorem rn_call {f : Nat} {es : CEs} {Q : D → Hd → Prop} : Rn (evE T F (.call f es) σ h) Q = Rn (evEs T F es σ h) fun xs h => Rn (F f xs h) Q := by
  show Rn (bnd (evEs T F es σ) _ h) Q = _
  simp only [rn_bnd]
@[simp] theorem rn_blt {b : Bi} {es : CEs} {Q : D → Hd → Prop} : Rn (evE T F (.blt b es) σ h) Q = Rn (evEs T F es σ h) fun xs h => Rn (bltE T b xs h) Q := by
  show Rn (bnd (evEs T F es σ) _ h) Q = _
  simp only [rn_bnd]
@[simp] theorem rn_bmt {b : Bm} {a : CE} {es : CEs} {Q : D → Hd → Prop} : Rn (evE T F (.bmt b a es) σ h) Q = Rn (evE T F a σ h) fun x h => Rn (tyM b x h) fun _ h => Rn (evEs T F es σ h) fun xs h => Rn (bmtE b x xs h) Q := by
  show Rn (bnd (evE T F a σ) _ h) Q = _
  simp only [rn_bnd]
@[simp] theorem rn_comp {own : List Nat} {elt : CE} {t : Tg} {it : Wk} {c : Option CT} {Q : D → Hd → Prop} : Rn (evE T F (.comp own elt t it c) σ h) Q = Rn (evI T F it σ h) fun p h => Rn (comp p.2 (turnE T F t elt c own σ) p.1 h) fun vs h => vs.length ≤ LIM ∧ Q (.ref h.length) (h ++ [.lst vs]) := by
  rw [evE_comp]
  simp only [rn_bnd, rn_must, rn_new, decide_eq_true_eq]
@[simp] theorem rn_nil {Q : List D → Hd → Prop} : Rn (evEs T F .nil σ h) Q = Q [] h := rfl
@[simp] theorem rn_cons {e : CE} {es : CEs} {Q : List D → Hd → Prop} : Rn (evEs T F (.cons e es) σ h) Q = Rn (evE T F e σ h) fun x h => Rn (evEs T F es σ h) fun xs h => Q (x :: xs) h := by
  show Rn (bnd (evE T F e σ) _ h) Q = _
  simp only [rn_bnd, rn_ret]
@[simp] theorem rn_tand {a b : CT} {Q : Bool → Hd → Prop} : Rn (evT T F (.and a b) σ h) Q = Rn (evT T F a σ h) fun k h => if k = true then Rn (evT T F b σ h) Q else Q false h := by
  show Rn (bnd (evT T F a σ) _ h) Q = _
  simp only [rn_bnd]
  congr 1
  funext k h
  cases k <;> rfl
@[simp] theorem rn_tor {a b : CT} {Q : Bool → Hd → Prop} : Rn (evT T F (.or a b) σ h) Q = Rn (evT T F a σ h) fun k h => if k = true then Q true h else Rn (evT T F b σ h) Q := by
  show Rn (bnd (evT T F a σ) _ h) Q = _
  simp only [rn_bnd]
  congr 1
  funext k h
  cases k <;> rfl
@[simp] theorem rn_tnot {a : CT} {Q : Bool → Hd → Prop} : Rn (evT T F (.not a) σ h) Q = Rn (evT T F a σ h) fun k h => Q (!k) h := by
  show Rn (bnd (evT T F a σ) _ h) Q = _
  simp only [rn_bnd, rn_ret]
@[simp] theorem rn_tval {a : CE} {Q : Bool → Hd → Prop} : Rn (evT T F (.val a) σ h) Q = Rn (evE T F a σ h) fun x h => Rn (truE x h) Q := by
  show Rn (bnd (evE T F a σ) _ h) Q = _
  simp only [rn_bnd]
@[simp] theorem rn_we {a : CE} {Q : List D × Gd → Hd → Prop} : Rn (evI T F (.e a) σ h) Q = Rn (evE T F a σ h) fun x h => Rn (walkE x h) Q := by
  show Rn (bnd (evE T F a σ) _ h) Q = _
  simp only [rn_bnd]
@[simp] theorem rn_rng1 {a : CE} {Q : List D × Gd → Hd → Prop} : Rn (evI T F (.rng1 a) σ h) Q = Rn (evE T F a σ h) fun x h => Rn ((match x with
    | .int j => bnd (must (in62 j)) fun _ => ret (rngL 0 j.toNat, [])
    | _ => stop : M (List D × Gd)) h) Q := by
  show Rn (bnd (evE T F a σ) _ h) Q = _
  simp only [rn_bnd] <;> rfl
@[simp] theorem rn_rng2 {a b : CE} {Q : List D × Gd → Hd → Prop} : Rn (evI T F (.rng2 a b) σ h) Q = Rn (evE T F a σ h) fun x h => Rn (evE T F b σ h) fun y h => Rn ((match x, y with
    | .int i, .int j => bnd (must (in62 i && in62 j)) fun _ => ret (rngL i (j - i).toNat, [])
    | _, _ => stop : M (List D × Gd)) h) Q := by
  show Rn (bnd (evE T F a σ) _ h) Q = _
  simp only [rn_bnd] <;> rfl
@[simp] theorem rn_rng3 {a b : CE} {k : Int} {Q : List D × Gd → Hd → Prop} : Rn (evI T F (.rng3 a b k) σ h) Q = Rn (evE T F a σ h) fun x h => Rn (evE T F b σ h) fun y h => Rn ((match x, y with
    | .int i, .int j => bnd (must (in62 i && in62 j && decide (k = -1))) fun _ => ret (rngK i (-1) (i - j).toNat, [])
    | _, _ => stop : M (List D × Gd)) h) Q := by
  show Rn (bnd (evE T F a σ) _ h) Q = _
  simp only [rn_bnd] <;> rfl
@[simp] theorem rn_zip {a b : CE} {Q : List D × Gd → Hd → Prop} : Rn (evI T F (.zip a b) σ h) Q = Rn (evE T F a σ h) fun x h => Rn (evE T F b σ h) fun y h => Rn (seqE x h) fun p h => Rn (seqE y h) fun q h => (isTup x == isTup y) = true ∧ Q (zipL p.1 q.1, p.2 ++ q.2) h := by
  show Rn (bnd (evE T F a σ) _ h) Q = _
  simp only [rn_bnd, rn_must, rn_ret]
@[simp] theorem rn_enm {a : CE} {Q : List D × Gd → Hd → Prop} : Rn (evI T F (.enm a) σ h) Q = Rn (evE T F a σ h) fun x h => (!isTup x) = true ∧ Rn (seqE x h) fun p h => Q (enmL 0 p.1, p.2) h := by
  show Rn (bnd (evE T F a σ) _ h) Q = _
  simp only [rn_bnd, rn_must, rn_ret]
@[simp] theorem rn_rev {a : CE} {Q : List D × Gd → Hd → Prop} : Rn (evI T F (.rev a) σ h) Q = Rn (evE T F a σ h) fun x h => Rn (seqE x h) fun p h => Q (p.1.reverse, p.2) h := by
  show Rn (bnd (evE T F a σ) _ h) Q = _
  simp only [rn_bnd, rn_ret]
/-! ### statements -/
variable {N : St → Hd → Prop} {R : D → Hd → Prop} {C B : St → Hd → Prop}
@[simp] theorem sn_nx : Sn (.nx σ h) N R C B = N σ h := rfl
@[simp] theorem sn_rt {v : D} : Sn (.rt v h) N R C B = R v h := rfl
@[simp] theorem sn_ct : Sn (.ct σ h) N R C B = C σ h := rfl
@[simp] theorem sn_bk : Sn (.bk σ h) N R C B = B σ h := rfl
@[simp] theorem sn_no : Sn .no N R C B = False := rfl
theorem sn_sE {r : Rs α} {k : α → Hd → SR} : Sn (sE σ r k) N R C B = Rn r fun a h => Sn (k a h) N R C B := by
  cases r <;> rfl
@[simp] theorem sn_nil : Sn (evSs T F .nil σ h) N R C B = N σ h := rfl
@[simp] theorem sn_cons {s : CS} {r : CSs} : Sn (evSs T F (.cons s r) σ h) N R C B = Sn (evS T F s σ h) (fun σ h => Sn (evSs T F r σ h) N R C B) R C B := by
  show Sn ((evS T F s σ h).then_ _) N R C B = _
  cases evS T F s σ h <;> rfl
@[simp] theorem sn_set {t : Tg} {e : CE} : Sn (evS T F (.set t e) σ h) N R C B = Rn (evE T F e σ h) fun v h => Rn (lft (asg t v σ) h) fun σ h => N σ h := by
  show Sn (sE σ (evE T F e σ h) _) N R C B = _
  rw [sn_sE]
  congr 1
  funext v h
  cases asg t v σ <;> rfl
@[simp] theorem sn_seti {a b e : CE} : Sn (evS T F (.seti a b e) σ h) N R C B = Rn (evE T F e σ h) fun v h => Rn (evE T F a σ h) fun x h => Rn (evE T F b σ h) fun k h => Rn (setE x k v h) fun _ h => N σ h := by
  show Sn (sE σ (evE T F e σ h) _) N R C B = _
  simp only [sn_sE, sn_nx]
@[simp] theorem sn_ex {e : CE} : Sn (evS T F (.ex e) σ h) N R C B = Rn (evE T F e σ h) fun _ h => N σ h := by
  show Sn (sE σ (evE T F e σ h) _) N R C B = _
  simp only [sn_sE, sn_nx]
@[simp] theorem sn_ret {e : CE} : Sn (evS T F (.ret e) σ h) N R C B = Rn (evE T F e σ h) R := by
  show Sn (sE σ (evE T F e σ h) _) N R C B = _
  simp only [sn_sE, sn_rt]
@[simp] theorem sn_ite {c : CT} {a b : CSs} : Sn (evS T F (.ite c a b) σ h) N R C B = Rn (evT T F c σ h) fun k h => if k = true then Sn (evSs T F a σ h) N R C B else Sn (evSs T F b σ h) N R C B := by
  show Sn (sE σ (evT T F c σ h) _) N R C B = _
  rw [sn_sE]
  congr 1
  funext k h
  cases k <;> rfl
/-- the body of a for -/
def bodyF (T : Tab) (F : Nat → List D → M D) (t : Tg) (b : CSs) (x : D) (σ : St) (h : Hd) : SR := match asg t x σ with
  | some σ' => evSs T F b σ' h
  | none => .no
@[simp] theorem sn_body {t : Tg} {b : CSs} {x : D} : Sn (bodyF T F t b x σ h) N R C B = Rn (lft (asg t x σ) h) fun σ h => Sn (evSs T F b σ h) N R C B := by
  unfold bodyF
  cases asg t x σ <;> rfl
@[simp] theorem sn_for {t : Tg} {w : Wk} {b : CSs} : Sn (evS T F (.for_ t w b) σ h) N R C B = Rn (evI T F w σ h) fun p h => Sn (forL p.2 (bodyF T F t b) p.1 σ h) N R C B := by
  show Sn (sE σ (evI T F w σ h) _) N R C B = _
  rw [sn_sE]
  rfl
@[simp] theorem sn_whl {c : CT} {b : CSs} : Sn (evS T F (.whl c b) σ h) N R C B = Sn (T.wh (evT T F c) (evSs T F b) σ h) N R C B := rfl
@[simp] theorem sn_brk : Sn (evS T F .brk σ h) N R C B = B σ h := rfl
@[simp] theorem sn_cnt : Sn (evS T F .cnt σ h) N R C B = C σ h := rfl
@[simp] theorem sn_pss : Sn (evS T F .pss σ h) N R C B = N σ h := rfl
/-- a for: what stays true through its turns -/
theorem for_inv {gs : Gd} {body : D → St → Hd → SR} {xs : List D} (I : Nat → St → Hd → Prop) (h0 : I 0 σ h) (hg : ∀ i σ h, i ≤ xs.length → I i σ h → gdOk gs h = true)
    (hs : ∀ i x σ h, xs[i]? = some x → I i σ h → Sn (body x σ h) (I (i + 1)) R (I (i + 1)) N) (hf : ∀ σ h, I xs.length σ h → N σ h) : Sn (forL gs body xs σ h) N R C B := by
  have go : ∀ (ys : List D) (i : Nat) (σ : St) (h : Hd), xs.drop i = ys → i ≤ xs.length → I i σ h → Sn (forL gs body ys σ h) N R C B := by
    intro ys
    induction ys with
    | nil =>
      intro i σ h hd hi hI
      unfold forL
      rw [hg i σ h hi hI]
      have e : i = xs.length := by
        have := congrArg List.length hd
        simp at this
        omega
      subst e
      exact hf σ h hI
    | cons y ys ih =>
      intro i σ h hd hi hI
      unfold forL
      rw [hg i σ h hi hI]
      have hlt : i < xs.length := by
        have := congrArg List.length hd
        simp at this
        omega
      have hx : xs[i]? = some y := by
        have := congrArg (fun l => l[0]?) hd
        simpa using this
      have hd' : xs.drop (i + 1) = ys := by
        have := congrArg List.tail hd
        simpa using this
      have q := hs i y σ h hx hI
      dsimp only
      cases e : body y σ h with
      | nx σ' h' => rw [e] at q; exact ih (i + 1) σ' h' hd' hlt q
      | ct σ' h' => rw [e] at q; exact ih (i + 1) σ' h' hd' hlt q
      | bk σ' h' => rw [e] at q; exact q
      | rt v h' => rw [e] at q; exact q
      | er _ _ _ => rw [e] at q; exact q.elim
      | no => rw [e] at q; exact q.elim
  exact go xs 0 σ h rfl (Nat.zero_le _) h0
/-- a while -/
theorem whl_inv {c : St → Hd → Rs Bool} {body : St → Hd → SR} (I : Nat → St → Hd → Prop) (m0 : Nat) (h0 : I m0 σ h)
    (hs : ∀ m σ h, I m σ h → Rn (c σ h) fun k h => if k = true then Sn (body σ h) (fun σ h => ∃ m', m' < m ∧ I m' σ h) R (fun σ h => ∃ m', m' < m ∧ I m' σ h) N else N σ h) : Sn (whl c body σ h) N R C B := by
  have go : ∀ (m : Nat) (σ : St) (h : Hd), I m σ h → ∃ n r, whlN c body n σ h = some r ∧ Sn r N R C B := by
    intro m
    induction m using Nat.strongRecOn with
    | ind m ih =>
      intro σ h hI
      have q := hs m σ h hI
      cases ec : c σ h with
      | ok k h1 =>
        rw [ec] at q
        have q : if k = true then Sn (body σ h1) (fun σ h => ∃ m', m' < m ∧ I m' σ h) R (fun σ h => ∃ m', m' < m ∧ I m' σ h) N else N σ h1 := q
        cases k with
        | false =>
          rw [if_neg (by decide)] at q
          exact ⟨1, .nx σ h1, by unfold whlN; rw [ec], q⟩
        | true =>
          rw [if_pos rfl] at q
          cases eb : body σ h1 with
          | nx σ' h' =>
            rw [eb] at q
            obtain ⟨m', hm, hI'⟩ := q
            obtain ⟨n, r, e, s⟩ := ih m' hm σ' h' hI'
            exact ⟨n + 1, r, by unfold whlN; rw [ec]; dsimp only; rw [eb]; exact e, s⟩
          | ct σ' h' =>
            rw [eb] at q
            obtain ⟨m', hm, hI'⟩ := q
            obtain ⟨n, r, e, s⟩ := ih m' hm σ' h' hI'
            exact ⟨n + 1, r, by unfold whlN; rw [ec]; dsimp only; rw [eb]; exact e, s⟩
          | bk σ' h' => rw [eb] at q; exact ⟨1, .nx σ' h', by unfold whlN; rw [ec]; dsimp only; rw [eb], q⟩
          | rt v h' => rw [eb] at q; exact ⟨1, .rt v h', by unfold whlN; rw [ec]; dsimp only; rw [eb], q⟩
          | er _ _ _ => rw [eb] at q; exact q.elim
          | no => rw [eb] at q; exact q.elim
      | er _ _ => rw [ec] at q; exact q.elim
      | no => rw [ec] at q; exact q.elim
  obtain ⟨n, r, e, s⟩ := go m0 σ h h0
  have det : ∀ (n n' : Nat) (σ : St) (h : Hd) r r', whlN c body n σ h = some r → whlN c body n' σ h = some r' → r = r' := by
    intro n
    induction n with
    | zero => intro n' σ h r r' e; cases e
    | succ n ih =>
      intro n' σ h r r' e e'
      cases n' with
      | zero => cases e'
      | succ n' =>
        unfold whlN at e e'
        cases ec : c σ h with
        | ok k h1 =>
          rw [ec] at e e'
          cases k with
          | false => dsimp only at e e'; rw [← Option.some.inj e, ← Option.some.inj e']
          | true =>
            dsimp only at e e'
            cases eb : body σ h1 with
            | nx σ' h' => rw [eb] at e e'; exact ih n' σ' h' r r' e e'
            | ct σ' h' => rw [eb] at e e'; exact ih n' σ' h' r r' e e'
            | _ => rw [eb] at e e'; rw [← Option.some.inj e, ← Option.some.inj e']
        | _ => rw [ec] at e e'; rw [← Option.some.inj e, ← Option.some.inj e']
  have z : ∃ r, ∃ n, whlN c body n σ h = some r := ⟨r, n, e⟩
  unfold whl
  rw [dif_pos z]
  obtain ⟨n', e'⟩ := Classical.choose_spec z
  rw [det _ _ _ _ _ _ e' e]
  exact s
/-- a comprehension: what stays true through its turns -/
theorem comp_rule {gs : Gd} {f : D → M (List D)} {xs : List D} {Q : List D → Hd → Prop} (I : Nat → List D → Hd → Prop) (h0 : I 0 [] h) (hg : ∀ i vs h, i ≤ xs.length → I i vs h → gdOk gs h = true)
    (hs : ∀ i x vs h, xs[i]? = some x → I i vs h → Rn (f x h) fun ws h => I (i + 1) (vs ++ ws) h) (hf : ∀ vs h, I xs.length vs h → Q vs h) : Rn (comp gs f xs h) Q := by
  have go : ∀ (ys : List D) (i : Nat) (vs : List D) (h : Hd), xs.drop i = ys → i ≤ xs.length → I i vs h → Rn (comp gs f ys h) fun ws h => Q (vs ++ ws) h := by
    intro ys
    induction ys with
    | nil =>
      intro i vs h hd hi hI
      unfold comp
      simp only [rn_bnd, rn_gd, rn_ret]
      have e : i = xs.length := by
        have := congrArg List.length hd
        simp at this
        omega
      subst e
      exact ⟨hg _ vs h hi hI, by rw [List.append_nil]; exact hf vs h hI⟩
    | cons y ys ih =>
      intro i vs h hd hi hI
      unfold comp
      simp only [rn_bnd, rn_gd, rn_ret, rn_noer]
      have hlt : i < xs.length := by
        have := congrArg List.length hd
        simp at this
        omega
      have hx : xs[i]? = some y := by
        have := congrArg (fun l => l[0]?) hd
        simpa using this
      have hd' : xs.drop (i + 1) = ys := by
        have := congrArg List.tail hd
        simpa using this
      refine ⟨hg i vs h hi hI, (hs i y vs h hx hI).mono fun ws h' hI' => ?_⟩
      refine (ih (i + 1) (vs ++ ws) h' hd' hlt hI').mono fun us h2 q => ?_
      rw [← List.append_assoc]; exact q
  exact (go xs 0 [] h rfl (Nat.zero_le _) h0).mono fun ws h q => by simpa using q
/-- nothing is made: the list is told -/
theorem comp_pure {gs : Gd} {f : D → M (List D)} {xs : List D} {Q : List D → Hd → Prop} (k : D → List D) (hg : gdOk gs h = true) (hs : ∀ x ∈ xs, f x h = .ok (k x) h) (hq : Q (xs.flatMap k) h) : Rn (comp gs f xs h) Q := by
  refine comp_rule (fun i vs h' => h' = h ∧ vs = (xs.take i).flatMap k) ⟨rfl, by simp⟩ (fun i vs h' _ ⟨e, _⟩ => by rw [e]; exact hg) (fun i x vs h' hx ⟨e, ev⟩ => ?_) (fun vs h' ⟨e, ev⟩ => ?_)
  · subst e ev
    rw [hs x (List.mem_of_getElem? hx)]
    refine ⟨rfl, ?_⟩
    obtain ⟨hi, rfl⟩ := List.getElem?_eq_some_iff.mp hx
    rw [List.take_succ_eq_append_getElem hi, List.flatMap_append]
    simp
  · subst e ev
    rw [List.take_length]; exact hq
theorem rn_turn {t : Tg} {elt : CE} {c : Option CT} {own : List Nat} {x : D} {Q : List D → Hd → Prop} : Rn (turnE T F t elt c own σ x h) Q = Rn (lft (asg t x (wp σ own)) h) fun σ' h => match c with
    | none => Rn (evE T F elt σ' h) fun v h => Q [v] h
    | some c => Rn (evT T F c σ' h) fun k h => if k = true then Rn (evE T F elt σ' h) fun v h => Q [v] h else Q [] h := by
  unfold turnE
  simp only [rn_bnd]
  congr 1
  funext σ' h
  cases c with
  | none => simp only [rn_bnd, rn_ret]
  | some c =>
    simp only [rn_bnd]
    congr 1
    funext k h
    cases k
    · rfl
    · simp only [rn_bnd, rn_ret]; rfl
/-! ### calls -/
theorem callD_succ {T : Tab} {n f : Nat} {xs : List D} {h : Hd} {d : CDef} {Q : D → Hd → Prop} (hf : T.fn f = some d) (hl : xs.length = d.ps)
    (q : Sn (evSs T (callD T n) d.body (xs.map some ++ List.replicate (d.sl - d.ps) none) h) (fun _ h => Q .non h) Q (fun _ _ => False) (fun _ _ => False)) : Rn (callD T (n + 1) f xs h) Q := by
  unfold callD
  rw [hf]
  unfold runD
  dsimp only
  rw [decide_eq_true hl]
  dsimp only
  cases e : evSs T (callD T n) d.body (xs.map some ++ List.replicate (d.sl - d.ps) none) h <;> rw [e] at q <;> exact q
end
end U
end

section
set_option maxRecDepth 100000
set_option maxHeartbeats 1000000
/-! Values without places: what they stand for in a heap; operations on them. -/
namespace U
open PySem

/-- scr: a list that is only read -/
inductive P where
  | non
  | bl (b : Bool)
  | int (i : Int)
  | str (s : Tx)
  | tup (ps : List P)
  | lst (ps : List P)
  | scr (is : List Int)
  | dct (ks : List D) (vs : List P)
  | raw (n : Nat)
  deriving Inhabited
mutual
def P.py : P → PyData
  | .non => .none
  | .bl b => .bool b
  | .int i => .int i
  | .str s => .str ⟨s.toArray⟩
  | .tup ps => .tuple (P.pys ps)
  | .lst ps => .list (P.pys ps)
  | .scr is => .list (is.map .int)
  | .dct _ _ => .none
  | .raw _ => .none
def P.pys : List P → List PyData
  | [] => []
  | p :: ps => P.py p :: P.pys ps
end
mutual
/-- how deep; none where no data -/
def P.dep : P → Option Nat
  | .tup ps => (P.deps ps).map (· + 1)
  | .lst ps => (P.deps ps).map (· + 1)
  | .scr _ => some 1
  | .dct _ _ => none
  | .raw _ => none
  | _ => some 0
def P.deps : List P → Option Nat
  | [] => some 0
  | p :: ps => (P.dep p).bind fun n => (P.deps ps).map fun m => max n m
end
/-- data that may be looked at -/
def P.dat (p : P) : Bool := match p.dep with
  | some n => decide (n < 59)
  | none => false
mutual
/-- nothing with a place -/
def P.scal : P → Bool
  | .tup ps => P.scals ps
  | .lst _ => false
  | .scr _ => false
  | .dct _ _ => false
  | _ => true
def P.scals : List P → Bool
  | [] => true
  | p :: ps => P.scal p && P.scals ps
end
section
variable (h : Hd)
mutual
/-- d stands for p, by the places us -/
def Rp : P → D → List Nat → Prop
  | .non, d, us => d = .non ∧ us = []
  | .bl b, d, us => d = .bl b ∧ us = []
  | .int i, d, us => d = .int i ∧ us = []
  | .str s, d, us => d = .str s ∧ us = []
  | .tup ps, d, us => ∃ ds, d = .tup ds ∧ Rps ps ds us
  | .lst ps, d, us => ∃ n ds ws, d = .ref n ∧ h[n]? = some (.lst ds) ∧ Rps ps ds ws ∧ us = n :: ws
  | .scr is, d, us => ∃ n, d = .ref n ∧ h[n]? = some (.flst (is.map .int)) ∧ us = [n]
  | .dct ks vs, d, us => ∃ n kvs ws, d = .ref n ∧ h[n]? = some (.dct kvs) ∧ kvs.map (·.1) = ks ∧ Rps vs (kvs.map (·.2)) ws ∧ us = n :: ws
  | .raw n, d, us => d = .ref n ∧ us = []
def Rps : List P → List D → List Nat → Prop
  | [], ds, us => ds = [] ∧ us = []
  | p :: ps, ds, us => ∃ d es vs ws, ds = d :: es ∧ us = vs ++ ws ∧ Rp p d vs ∧ Rps ps es ws
end
end
section
variable {h h' : Hd}
mutual
theorem Rp.fr : ∀ {p : P} {d : D} {us : List Nat}, Rp h p d us → (∀ r ∈ us, h'[r]? = h[r]?) → Rp h' p d us
  | .non, _, _, k, _ => k
  | .bl _, _, _, k, _ => k
  | .int _, _, _, k, _ => k
  | .str _, _, _, k, _ => k
  | .raw _, _, _, k, _ => k
  | .tup ps, d, us, k, a => by
    rw [Rp] at k ⊢
    obtain ⟨ds, e, q⟩ := k
    exact ⟨ds, e, Rps.fr q a⟩
  | .lst ps, d, us, k, a => by
    rw [Rp] at k ⊢
    obtain ⟨n, ds, ws, e, l, q, rfl⟩ := k
    exact ⟨n, ds, ws, e, (a n (by simp)).trans l, Rps.fr q fun r hr => a r (by simp [hr]), rfl⟩
  | .scr is, d, us, k, a => by
    rw [Rp] at k ⊢
    obtain ⟨n, e, l, rfl⟩ := k
    exact ⟨n, e, (a n (by simp)).trans l, rfl⟩
  | .dct ks vs, d, us, k, a => by
    rw [Rp] at k ⊢
    obtain ⟨n, kvs, ws, e, l, z, q, rfl⟩ := k
    exact ⟨n, kvs, ws, e, (a n (by simp)).trans l, z, Rps.fr q fun r hr => a r (by simp [hr]), rfl⟩
theorem Rps.fr : ∀ {ps : List P} {ds : List D} {us : List Nat}, Rps h ps ds us → (∀ r ∈ us, h'[r]? = h[r]?) → Rps h' ps ds us
  | [], _, _, k, _ => k
  | p :: ps, ds, us, k, a => by
    rw [Rps] at k ⊢
    obtain ⟨d, es, vs, ws, e, rfl, q, r⟩ := k
    exact ⟨d, es, vs, ws, e, rfl, Rp.fr q fun x hx => a x (by simp [hx]), Rps.fr r fun x hx => a x (by simp [hx])⟩
end
mutual
theorem Rp.lt : ∀ {p : P} {d : D} {us : List Nat}, Rp h p d us → ∀ r ∈ us, r < h.length
  | .non, _, _, k, r, hr => by rw [Rp] at k; rw [k.2] at hr; cases hr
  | .bl _, _, _, k, r, hr => by rw [Rp] at k; rw [k.2] at hr; cases hr
  | .int _, _, _, k, r, hr => by rw [Rp] at k; rw [k.2] at hr; cases hr
  | .str _, _, _, k, r, hr => by rw [Rp] at k; rw [k.2] at hr; cases hr
  | .raw _, _, _, k, r, hr => by rw [Rp] at k; rw [k.2] at hr; cases hr
  | .tup ps, d, us, k, r, hr => by
    rw [Rp] at k
    obtain ⟨ds, e, q⟩ := k
    exact Rps.lt q r hr
  | .lst ps, d, us, k, r, hr => by
    rw [Rp] at k
    obtain ⟨n, ds, ws, e, l, q, rfl⟩ := k
    rcases List.mem_cons.mp hr with rfl | hr
    · exact (List.getElem?_eq_some_iff.mp l).1
    · exact Rps.lt q r hr
  | .scr is, d, us, k, r, hr => by
    rw [Rp] at k
    obtain ⟨n, e, l, rfl⟩ := k
    rw [List.mem_singleton] at hr
    subst hr
    exact (List.getElem?_eq_some_iff.mp l).1
  | .dct ks vs, d, us, k, r, hr => by
    rw [Rp] at k
    obtain ⟨n, kvs, ws, e, l, z, q, rfl⟩ := k
    rcases List.mem_cons.mp hr with rfl | hr
    · exact (List.getElem?_eq_some_iff.mp l).1
    · exact Rps.lt q r hr
theorem Rps.lt : ∀ {ps : List P} {ds : List D} {us : List Nat}, Rps h ps ds us → ∀ r ∈ us, r < h.length
  | [], _, _, k, r, hr => by rw [Rps] at k; rw [k.2] at hr; cases hr
  | p :: ps, ds, us, k, r, hr => by
    rw [Rps] at k
    obtain ⟨d, es, vs, ws, e, rfl, q, q2⟩ := k
    rcases List.mem_append.mp hr with hr | hr
    · exact Rp.lt q r hr
    · exact Rps.lt q2 r hr
end
mutual
theorem Rp.scal : ∀ {p : P} {d : D} {us : List Nat}, Rp h p d us → p.scal = true → us = [] ∧ ∀ h', Rp h' p d []
  | .non, _, _, k, _ => by rw [Rp] at k; exact ⟨k.2, fun h' => by rw [Rp]; exact ⟨k.1, rfl⟩⟩
  | .bl _, _, _, k, _ => by rw [Rp] at k; exact ⟨k.2, fun h' => by rw [Rp]; exact ⟨k.1, rfl⟩⟩
  | .int _, _, _, k, _ => by rw [Rp] at k; exact ⟨k.2, fun h' => by rw [Rp]; exact ⟨k.1, rfl⟩⟩
  | .str _, _, _, k, _ => by rw [Rp] at k; exact ⟨k.2, fun h' => by rw [Rp]; exact ⟨k.1, rfl⟩⟩
  | .raw _, _, _, k, _ => by rw [Rp] at k; exact ⟨k.2, fun h' => by rw [Rp]; exact ⟨k.1, rfl⟩⟩
  | .tup ps, d, us, k, z => by
    rw [Rp] at k
    obtain ⟨ds, e, q⟩ := k
    obtain ⟨a, b⟩ := Rps.scal q (by simpa [P.scal] using z)
    exact ⟨a, fun h' => by rw [Rp]; exact ⟨ds, e, b h'⟩⟩
  | .lst ps, d, us, k, z => by simp [P.scal] at z
  | .scr is, d, us, k, z => by simp [P.scal] at z
  | .dct ks vs, d, us, k, z => by simp [P.scal] at z
theorem Rps.scal : ∀ {ps : List P} {ds : List D} {us : List Nat}, Rps h ps ds us → P.scals ps = true → us = [] ∧ ∀ h', Rps h' ps ds []
  | [], _, _, k, _ => by rw [Rps] at k; exact ⟨k.2, fun h' => by rw [Rps]; exact ⟨k.1, rfl⟩⟩
  | p :: ps, ds, us, k, z => by
    rw [Rps] at k
    obtain ⟨d, es, vs, ws, e, rfl, q, r⟩ := k
    rw [P.scals, Bool.and_eq_true] at z
    obtain ⟨rfl, b⟩ := Rp.scal q z.1
    obtain ⟨rfl, b'⟩ := Rps.scal r z.2
    exact ⟨rfl, fun h' => by rw [Rps]; exact ⟨d, es, [], [], e, rfl, b h', b' h'⟩⟩
end
theorem Rps.nil : Rps h [] [] [] := by rw [Rps]; exact ⟨rfl, rfl⟩
theorem Rps.cons {p : P} {d : D} {us : List Nat} {ps : List P} {ds : List D} {vs : List Nat} (a : Rp h p d us) (b : Rps h ps ds vs) : Rps h (p :: ps) (d :: ds) (us ++ vs) := by rw [Rps]; exact ⟨d, ds, us, vs, rfl, rfl, a, b⟩
theorem Rps.one {p : P} {d : D} {us : List Nat} (a : Rp h p d us) : Rps h [p] [d] us := by have := Rps.cons a .nil; simpa using this
theorem Rps.len : ∀ {ps : List P} {ds : List D} {us : List Nat}, Rps h ps ds us → ds.length = ps.length
  | [], ds, us, k => by rw [Rps] at k; rw [k.1]; rfl
  | p :: ps, ds, us, k => by
    rw [Rps] at k
    obtain ⟨d, es, vs, ws, rfl, _, q, r⟩ := k
    simp [Rps.len r]
theorem Rps.app : ∀ {ps qs : List P} {ds es : List D} {us vs : List Nat}, Rps h ps ds us → Rps h qs es vs → Rps h (ps ++ qs) (ds ++ es) (us ++ vs)
  | [], qs, ds, es, us, vs, k, l => by rw [Rps] at k; obtain ⟨rfl, rfl⟩ := k; simpa using l
  | p :: ps, qs, ds, es, us, vs, k, l => by
    rw [Rps] at k
    obtain ⟨d, es', vs', ws, rfl, rfl, q, r⟩ := k
    rw [List.append_assoc]
    exact .cons q (Rps.app r l)
/-- the i-th: its places are some of the places -/
theorem Rps.get : ∀ {ps : List P} {ds : List D} {us : List Nat} {i : Nat} {p : P}, Rps h ps ds us → ps[i]? = some p → ∃ d vs, ds[i]? = some d ∧ Rp h p d vs ∧ vs.Sublist us
  | [], ds, us, i, p, _, e => by simp at e
  | q :: ps, ds, us, i, p, k, e => by
    rw [Rps] at k
    obtain ⟨d, es, vs, ws, rfl, rfl, q, r⟩ := k
    cases i with
    | zero => simp at e; subst e; exact ⟨d, vs, by simp, q, List.sublist_append_left ..⟩
    | succ i =>
      obtain ⟨d', vs', h1, h2, h3⟩ := Rps.get (i := i) r (by simpa using e)
      exact ⟨d', vs', by simpa using h1, h2, h3.trans (List.sublist_append_right ..)⟩
theorem Rps.take : ∀ {ps : List P} {ds : List D} {us : List Nat} (i : Nat), Rps h ps ds us → ∃ vs, Rps h (ps.take i) (ds.take i) vs ∧ vs.Sublist us
  | ps, ds, us, 0, k => ⟨[], by simp [Rps], by simp⟩
  | [], ds, us, i + 1, k => by rw [Rps] at k; obtain ⟨rfl, rfl⟩ := k; exact ⟨[], by simp [Rps], by simp⟩
  | p :: ps, ds, us, i + 1, k => by
    rw [Rps] at k
    obtain ⟨d, es', vs', ws, rfl, rfl, q, r⟩ := k
    obtain ⟨vs, a, b⟩ := Rps.take i r
    exact ⟨vs' ++ vs, .cons q a, List.Sublist.append (List.Sublist.refl _) b⟩
theorem Rps.drop : ∀ {ps : List P} {ds : List D} {us : List Nat} (i : Nat), Rps h ps ds us → ∃ vs, Rps h (ps.drop i) (ds.drop i) vs ∧ vs.Sublist us
  | ps, ds, us, 0, k => ⟨us, by simpa using k, List.Sublist.refl _⟩
  | [], ds, us, i + 1, k => by rw [Rps] at k; obtain ⟨rfl, rfl⟩ := k; exact ⟨[], by simp [Rps], by simp⟩
  | p :: ps, ds, us, i + 1, k => by
    rw [Rps] at k
    obtain ⟨d, es', vs', ws, rfl, rfl, q, r⟩ := k
    obtain ⟨vs, a, b⟩ := Rps.drop i r
    exact ⟨vs, a, b.trans (List.sublist_append_right ..)⟩
theorem Rps.set : ∀ {ps : List P} {ds : List D} {us : List Nat} {p : P} {d : D} {ws : List Nat} (i : Nat), Rps h ps ds us → Rp h p d ws → i < ps.length → ∃ a b c, us = a ++ b ++ c ∧ Rps h (ps.set i p) (ds.set i d) (a ++ ws ++ c)
  | [], ds, us, p, d, ws, i, k, l, hi => by simp at hi
  | q :: ps, ds, us, p, d, ws, i, k, l, hi => by
    rw [Rps] at k
    obtain ⟨d', es', vs', ws', rfl, rfl, q, r⟩ := k
    cases i with
    | zero => exact ⟨[], vs', ws', by simp, by simpa using Rps.cons l r⟩
    | succ i =>
      obtain ⟨a, b, c, rfl, z⟩ := Rps.set i r l (by simpa using hi)
      exact ⟨vs' ++ a, b, c, by simp, by have := Rps.cons q z; simpa using this⟩
theorem Rps.rev : ∀ {ps : List P} {ds : List D} {us : List Nat}, Rps h ps ds us → ∃ vs, Rps h ps.reverse ds.reverse vs ∧ vs.Perm us
  | [], ds, us, k => by rw [Rps] at k; obtain ⟨rfl, rfl⟩ := k; exact ⟨[], by simp [Rps], .refl _⟩
  | p :: ps, ds, us, k => by
    rw [Rps] at k
    obtain ⟨d, es', vs', ws, rfl, rfl, q, r⟩ := k
    obtain ⟨vs, a, b⟩ := Rps.rev r
    refine ⟨vs ++ vs', by rw [List.reverse_cons, List.reverse_cons]; exact a.app (.one q), ?_⟩
    exact (List.perm_append_comm).trans (List.Perm.append_left _ b)
theorem Rps.ints {ds : List D} {us : List Nat} : ∀ {is : List Int}, Rps h (is.map P.int) ds us ↔ ds = is.map D.int ∧ us = [] := by
  intro is
  induction is generalizing ds us with
  | nil => rw [List.map_nil, Rps]; rfl
  | cons i is ih =>
    rw [List.map_cons, Rps, List.map_cons]
    constructor
    · rintro ⟨d, es, vs, ws, rfl, rfl, q, r⟩
      rw [Rp] at q
      obtain ⟨rfl, rfl⟩ := ih.mp r
      rw [q.1, q.2]
      exact ⟨rfl, rfl⟩
    · rintro ⟨rfl, rfl⟩
      exact ⟨_, _, [], [], rfl, rfl, by rw [Rp]; exact ⟨rfl, rfl⟩, ih.mpr ⟨rfl, rfl⟩⟩
/-! ### as data -/
mutual
theorem Rp.toP : ∀ {p : P} {d : D} {us : List Nat} {n m : Nat}, Rp h p d us → p.dep = some m → m < n → U.toP n h d = some p.py
  | .non, d, us, n + 1, m, k, _, _ => by rw [Rp] at k; rw [k.1]; rfl
  | .bl b, d, us, n + 1, m, k, _, _ => by rw [Rp] at k; rw [k.1]; rfl
  | .int i, d, us, n + 1, m, k, _, _ => by rw [Rp] at k; rw [k.1]; rfl
  | .str s, d, us, n + 1, m, k, _, _ => by rw [Rp] at k; rw [k.1]; rfl
  | .raw _, d, us, n + 1, m, k, e, _ => by rw [P.dep] at e; cases e
  | .tup ps, d, us, n + 1, m, k, e, l => by
    rw [Rp] at k
    obtain ⟨ds, rfl, q⟩ := k
    rw [P.dep] at e
    obtain ⟨m', e1, rfl⟩ := Option.map_eq_some_iff.mp e
    show (mapO (U.toP n h) ds).map PyData.tuple = _
    rw [Rps.toP q e1 (by omega)]
    rfl
  | .lst ps, d, us, n + 1, m, k, e, l => by
    rw [Rp] at k
    obtain ⟨r, ds, ws, rfl, el, q, _⟩ := k
    rw [P.dep] at e
    obtain ⟨m', e1, rfl⟩ := Option.map_eq_some_iff.mp e
    show (h[r]?.bind O.list?).bind (fun ds => (mapO (U.toP n h) ds).map PyData.list) = _
    rw [el]
    show (mapO (U.toP n h) ds).map PyData.list = _
    rw [Rps.toP q e1 (by omega)]
    rfl
  | .scr is, d, us, n + 1, m, k, e, l => by
    rw [Rp] at k
    obtain ⟨r, rfl, el, _⟩ := k
    have e : (some 1 : Option Nat) = some m := by simpa [P.dep] using e
    cases e
    cases n with
    | zero => omega
    | succ n =>
      show (h[r]?.bind O.list?).bind (fun ds => (mapO (U.toP (n + 1) h) ds).map PyData.list) = _
      rw [el]
      show (mapO (U.toP (n + 1) h) (is.map D.int)).map PyData.list = _
      have : ∀ is : List Int, mapO (U.toP (n + 1) h) (is.map D.int) = some (is.map PyData.int) := by
        intro is
        induction is with
        | nil => rfl
        | cons i is ih => rw [List.map_cons]; unfold mapO; rw [ih]; rfl
      rw [this]
      rfl
  | .dct ks vs, d, us, n + 1, m, k, e, l => by simp [P.dep] at e
theorem Rps.toP : ∀ {ps : List P} {ds : List D} {us : List Nat} {n m : Nat}, Rps h ps ds us → P.deps ps = some m → m < n → mapO (U.toP n h) ds = some (P.pys ps)
  | [], ds, us, n, m, k, _, _ => by rw [Rps] at k; rw [k.1]; rfl
  | p :: ps, ds, us, n, m, k, e, l => by
    rw [Rps] at k
    obtain ⟨d, es, vs, ws, rfl, _, q, r⟩ := k
    rw [P.deps] at e
    obtain ⟨m1, e1, e⟩ := Option.bind_eq_some_iff.mp e
    obtain ⟨m2, e2, rfl⟩ := Option.map_eq_some_iff.mp e
    unfold mapO
    rw [Rp.toP q e1 (by omega), Rps.toP r e2 (by omega)]
    rfl
end
theorem Rp.data {p : P} {d : D} {us : List Nat} (k : Rp h p d us) (z : p.dat = true) : dataE d h = .ok p.py h := by
  unfold P.dat at z
  split at z
  · rename_i n e
    unfold dataE
    rw [k.toP e (show n < 60 by have := of_decide_eq_true z; omega)]
    rfl
  · cases z
end
end U
end

section
set_option maxRecDepth 100000
set_option maxHeartbeats 1000000
/-! Operations on values without places, and that they are right. -/
namespace U
open PySem

/-- a value, how far it is one's own (2 all of it, 1 its outer part, 0 nothing), whose parts may be in it -/
structure PV where
  p : P
  lv : Nat
  lk : List Nat
def opv (r : P) (lk : List Nat) : PV := match r.scal with
  | true => ⟨r, 2, []⟩
  | false => match r with
    | .lst ps => (match P.scals ps with
      | true => ⟨r, 2, []⟩
      | false => ⟨r, 1, lk⟩)
    | _ => ⟨r, 0, lk⟩
mutual
def dP : D → Option P
  | .non => some .non
  | .bl b => some (.bl b)
  | .int i => some (.int i)
  | .str s => some (.str s)
  | .tup ds => (dPs ds).map .tup
  | .ref _ => none
def dPs : List D → Option (List P)
  | [] => some []
  | d :: ds => (dP d).bind fun p => (dPs ds).map fun ps => p :: ps
end
def grd {α : Type} (b : Bool) (x : α) : Option α := match b with
  | true => some x
  | false => none
def binP (o : BOp) (x y : P) : Option P := match o, x, y with
  | .add, .int i, .int j => some (.int (i + j))
  | .add, .str a, .str b => grd (decide (a.length + b.length ≤ LIM)) (.str (a ++ b))
  | .add, .tup a, .tup b => grd (decide (a.length + b.length ≤ LIM)) (.tup (a ++ b))
  | .add, .lst a, .lst b => grd (decide (a.length + b.length ≤ LIM)) (.lst (a ++ b))
  | .sub, .int i, .int j => some (.int (i - j))
  | .mul, .int i, .int j => grd (mulOk i j) (.int (i * j))
  | .mul, .str s, .int k => grd (decide (0 ≤ k ∧ k ≤ 1000 ∧ s.length ≤ 1000)) (.str (repT s k.toNat))
  | .mul, .lst a, .int k => grd (decide (-(9223372036854775808 : Int) ≤ k ∧ k < 9223372036854775808 ∧ a.length * k.toNat ≤ LIM)) (.lst (repT a k.toNat))
  | .fdiv, .int i, .int j => grd (divOk j) (.int (i / j))
  | .mod, .int i, .int j => grd (decide (0 < j)) (.int (i % j))
  | .pow, .int i, .int j => grd (powOk i j) (.int (i ^ j.toNat))
  | .shl, .int i, .int j => grd (powOk i j) (.int (i * 2 ^ j.toNat))
  | .shr, .int i, .int j => grd (decide (0 ≤ j)) (.int (i / 2 ^ j.toNat))
  | .band, .int i, .int j => some (.int (Builtin.bitAnd i j))
  | .bor, .int i, .int j => some (.int (Builtin.bitOr i j))
  | .bxor, .int i, .int j => some (.int (Builtin.bitXor i j))
  | _, _, _ => none
def keyP : P → Option D
  | .int i => some (.int i)
  | .str s => some (.str s)
  | _ => none
def kP : D → P
  | .int i => .int i
  | .str s => .str s
  | _ => .non
def lookP (ks : List D) (vs : List P) (k : D) : Option P := ((ks.zip vs).find? fun p => D.beq p.1 k).map (·.2)
def inP (x y : P) : Option Bool := match y with
  | .str s => (match x with
    | .str [c] => some (decide (c ∈ s))
    | _ => none)
  | .dct ks vs => (keyP x).map fun k => ks.any fun z => D.beq z k
  | .lst ps => grd (x.dat && y.dat) (ps.any fun z => PyData.eqv z.py x.py)
  | .tup ps => grd (x.dat && y.dat) (ps.any fun z => PyData.eqv z.py x.py)
  | .scr is => grd x.dat (is.any fun z => PyData.eqv (.int z) x.py)
  | _ => none
def isNonP : P → Bool
  | .non => true
  | _ => false
def cmpP (o : COp) (x y : P) : Option Bool := match o with
  | .eq => grd (x.dat && y.dat) (PyData.eqv x.py y.py)
  | .ne => grd (x.dat && y.dat) (!PyData.eqv x.py y.py)
  | .lt => (match x, y with
    | .int i, .int j => some (decide (i < j))
    | .str a, .str b => some (decide (a < b))
    | _, _ => none)
  | .le => (match x, y with
    | .int i, .int j => some (decide (i ≤ j))
    | _, _ => none)
  | .gt => (match x, y with
    | .int i, .int j => some (decide (j < i))
    | .str a, .str b => some (decide (b < a))
    | _, _ => none)
  | .ge => (match x, y with
    | .int i, .int j => some (decide (j ≤ i))
    | _, _ => none)
  | .is_ => (match y with
    | .non => some (isNonP x)
    | .bl b => (match x with
      | .bl a => some (decide (a = b))
      | _ => none)
    | _ => none)
  | .isnot => (match y with
    | .non => some (!isNonP x)
    | .bl b => (match x with
      | .bl a => some (!decide (a = b))
      | _ => none)
    | _ => none)
  | .in_ => inP x y
  | .nin => (inP x y).map fun b => !b
def truP : P → Option Bool
  | .non => some false
  | .bl b => some b
  | .int i => some (i != 0)
  | .str s => grd (decide (s.length ≤ LIM)) (s.length != 0)
  | .tup ps => some (!ps.isEmpty)
  | .lst ps => some (!ps.isEmpty)
  | .scr is => some (!is.isEmpty)
  | .dct _ _ => none
  | .raw _ => none
def idxP (x i : P) : Option P := match x, i with
  | .lst ps, .int k => (ixD ps.length k).bind fun j => ps[j]?
  | .tup ps, .int k => (ixD ps.length k).bind fun j => ps[j]?
  | .scr is, .int k => (ixD is.length k).bind fun j => is[j]?.map .int
  | .str s, .int k => (grd (decide (s.length ≤ LIM)) ()).bind fun _ => (ixD s.length k).bind fun j => s[j]?.map fun c => .str [c]
  | .dct ks vs, k => (keyP k).bind fun k => lookP ks vs k
  | _, _ => none
def endP (c : CE) (p : P) : Option (Option Int) := match c, p with
  | .cst .non, _ => some none
  | _, .int i => some (some i)
  | _, _ => none
def slcP (x : P) (l u : Option Int) : Option P := match x with
  | .str s => grd (decide (s.length ≤ LIM)) (.str (cut s l u))
  | .tup ps => some (.tup (cut ps l u))
  | .lst ps => some (.lst (cut ps l u))
  | .scr is => some (.lst ((cut is l u).map .int))
  | _ => none
def intsP : List P → Option (List Int)
  | [] => some []
  | .int i :: r => (intsP r).map (i :: ·)
  | _ => none
def blsP : List P → Option (List Bool)
  | [] => some []
  | .bl i :: r => (blsP r).map (i :: ·)
  | _ => none
def strsP : List P → Option (List Tx)
  | [] => some []
  | .str i :: r => (strsP r).map (i :: ·)
  | _ => none
def isTyP (x : P) (t : Ty) : Option Bool := match x with
  | .non => some false
  | .bl _ => some (t == .bool || t == .int)
  | .int _ => some (t == .int)
  | .str _ => some (t == .str)
  | .tup _ => some (t == .tuple)
  | .lst _ => some (t == .list)
  | .scr _ => some (t == .list)
  | .dct _ _ => some (t == .dict)
  | .raw _ => none
def bltP (b : Bi) (xs : List P) : Option P := match b, xs with
  | .len, [x] => (match x with
    | .str s => grd (decide (s.length ≤ LIM)) (.int s.length)
    | .tup ps => some (.int ps.length)
    | .lst ps => some (.int ps.length)
    | .scr is => some (.int is.length)
    | .dct ks _ => some (.int ks.length)
    | _ => none)
  | .int, [x] => (match x with
    | .int i => some (.int i)
    | .bl k => some (.int (if k then 1 else 0))
    | .str s => (grd (decide (s.length ≤ 640)) ()).bind fun _ => (PySem.intText? ⟨s.toArray⟩).map .int
    | _ => none)
  | .str, [x] => (match x with
    | .int i => grd (decide (i.natAbs.log2 < 1920)) (.str (showI i))
    | .str s => some (.str s)
    | _ => none)
  | .list, [x] => (match x with
    | .lst ps => some (.lst ps)
    | .tup ps => some (.lst ps)
    | .scr is => some (.lst (is.map .int))
    | .dct ks _ => grd (ks.all (keyOk KD)) (.lst (ks.map kP))
    | _ => none)
  | .tuple, [x] => (match x with
    | .lst ps => some (.tup ps)
    | .tup ps => some (.tup ps)
    | .scr is => some (.tup (is.map .int))
    | _ => none)
  | .sorted, [x] => (match x with
    | .lst ps => (match strsP ps with
      | some ts => grd (decide (ts.length < 64)) (.lst ((sortT ts).map .str))
      | none => (intsP ps).bind fun is => grd (decide (is.length < 64)) (.lst ((sortI is).map .int)))
    | _ => none)
  | .min, [.int i, .int j] => some (.int (if j < i then j else i))
  | .max, [.int i, .int j] => some (.int (if i < j then j else i))
  | .min, [.lst ps] => (intsP ps).bind fun is => (minL is).map .int
  | .max, [.lst ps] => (intsP ps).bind fun is => (maxL is).map .int
  | .any, [.lst ps] => (blsP ps).map fun bs => .bl (bs.any id)
  | .sum, [.lst ps] => (intsP ps).map fun is => .int is.sum
  | .abs, [.int i] => some (.int (if i < 0 then -i else i))
  | .isi t, [x] => (isTyP x t).map .bl
  | .rvs, [x] => (match x with
    | .lst ps => some (.lst ps.reverse)
    | .scr is => some (.lst (is.map P.int).reverse)
    | _ => none)
  | _, _ => none
/-- methods that write nothing -/
def bmtP (b : Bm) (x : P) (xs : List P) : Option P := match b, xs with
  | .join, [y] => (match x with
    | .str s => (match y with
      | .lst ps => strsP ps
      | .tup ps => strsP ps
      | _ => none).bind fun ts => grd (decide (sumLen ts + s.length * ts.length ≤ LIM)) (.str (joinT s ts))
    | _ => none)
  | .index, [y] => (match x with
    | .lst ps => (grd (x.dat && y.dat) ()).bind fun _ => (ps.findIdx? fun z => PyData.eqv z.py y.py).map fun j => .int (j : Nat)
    | _ => none)
  | .startswith, [.str b] => (match x with
    | .str s => some (.bl (startsT s b))
    | _ => none)
  | .endswith, [.str b] => (match x with
    | .str s => some (.bl (endsT s b))
    | _ => none)
  | .find, [.str b] => (match x with
    | .str s => some (.int (findT s b))
    | _ => none)
  | .upper, [] => (match x with
    | .str s => grd (decide (s.length ≤ 5592405) && okTx (upT s)) (.str (upT s))
    | _ => none)
  | .strip, [.str b] => (match x with
    | .str s => grd (decide (s.length ≤ LIM) && okTx (stripT s b)) (.str (stripT s b))
    | _ => none)
  | .split, [.str b] => (match x with
    | .str s => grd (!b.isEmpty && decide (s.length + 2 ≤ LIM) && (splitT s b).all okTx) (.lst ((splitT s b).map .str))
    | _ => none)
  | .partition, [.str b] => (match x with
    | .str s => grd (!b.isEmpty && decide (s.length ≤ LIM) && (partT s b).all okTx) (.tup ((partT s b).map .str))
    | _ => none)
  | _, _ => none

/-! ### they are right -/
def FrA (h h' : Hd) : Prop := h.length ≤ h'.length ∧ ∀ r, r < h.length → h'[r]? = h[r]?
theorem FrA.refl {h : Hd} : FrA h h := ⟨Nat.le_refl _, fun _ _ => rfl⟩
theorem FrA.trans {h h' h2 : Hd} (a : FrA h h') (b : FrA h' h2) : FrA h h2 := ⟨Nat.le_trans a.1 b.1, fun r hr => (b.2 r (Nat.lt_of_lt_of_le hr a.1)).trans (a.2 r hr)⟩
theorem FrA.app {h g : Hd} : FrA h (h ++ g) := ⟨by simp, fun r hr => List.getElem?_append_left hr⟩
def Mut (h : Hd) (r : Nat) : Prop := r < h.length
theorem Mut.lt {h : Hd} {r : Nat} (m : Mut h r) : r < h.length := m
theorem Mut.fr {h h' : Hd} {r : Nat} (m : Mut h r) (a : FrA h h') : Mut h' r := Nat.lt_of_lt_of_le m a.1
theorem Rp.frA {h h' : Hd} {p : P} {d : D} {us : List Nat} (k : Rp h p d us) (a : FrA h h') : Rp h' p d us := k.fr fun r hr => a.2 r (k.lt r hr)
theorem Rps.frA {h h' : Hd} {p : List P} {d : List D} {us : List Nat} (k : Rps h p d us) (a : FrA h h') : Rps h' p d us := k.fr fun r hr => a.2 r (k.lt r hr)
/-- an operation's result r at x: a list of it is new; its other places are among us -/
def OpS (h : Hd) (us : List Nat) (r : P) (x : D) (h' : Hd) : Prop := FrA h h' ∧ ∃ ws, Rp h' r x ws ∧ match r with
  | .lst _ => ∃ n ws', ws = n :: ws' ∧ h.length ≤ n ∧ Mut h' n ∧ ∀ w ∈ ws', w ∈ us
  | _ => ∀ w ∈ ws, w ∈ us
theorem grd_some {α : Type} {b : Bool} {x y : α} (h : grd b x = some y) : b = true ∧ x = y := by
  cases b with
  | true => exact ⟨rfl, Option.some.inj h⟩
  | false => cases h
section
variable {h : Hd} {us vs : List Nat}
theorem rp_raw {d : D} {n : Nat} : Rp h (.raw n) d us ↔ d = .ref n ∧ us = [] := by rw [Rp]
theorem rp_non {d : D} : Rp h .non d us ↔ d = .non ∧ us = [] := by rw [Rp]
theorem rp_bl {d : D} {b : Bool} : Rp h (.bl b) d us ↔ d = .bl b ∧ us = [] := by rw [Rp]
theorem rp_int {d : D} {b : Int} : Rp h (.int b) d us ↔ d = .int b ∧ us = [] := by rw [Rp]
theorem rp_str {d : D} {b : Tx} : Rp h (.str b) d us ↔ d = .str b ∧ us = [] := by rw [Rp]
theorem rp_tup {d : D} {ps : List P} : Rp h (.tup ps) d us ↔ ∃ ds, d = .tup ds ∧ Rps h ps ds us := by rw [Rp]
theorem rp_lst {d : D} {ps : List P} : Rp h (.lst ps) d us ↔ ∃ n ds ws, d = .ref n ∧ h[n]? = some (.lst ds) ∧ Rps h ps ds ws ∧ us = n :: ws := by rw [Rp]
theorem rp_scr {d : D} {is : List Int} : Rp h (.scr is) d us ↔ ∃ n, d = .ref n ∧ h[n]? = some (.flst (is.map .int)) ∧ us = [n] := by rw [Rp]
theorem rp_dct {d : D} {ks : List D} {qs : List P} : Rp h (.dct ks qs) d us ↔ ∃ n kvs ws, d = .ref n ∧ h[n]? = some (.dct kvs) ∧ kvs.map (·.1) = ks ∧ Rps h qs (kvs.map (·.2)) ws ∧ us = n :: ws := by rw [Rp]
theorem OpS.sc {r : P} {x : D} (q : Rp h r x []) (hr : r.scal = true) : OpS h us r x h := by
  refine ⟨.refl, [], q, ?_⟩
  cases r <;> first | (simp [P.scal] at hr; done) | simp
theorem OpS.new {ps : List P} {ds : List D} {ws : List Nat} (q : Rps h ps ds ws) (hw : ∀ w ∈ ws, w ∈ us) : OpS h us (.lst ps) (.ref h.length) (h ++ [.lst ds]) := by
  refine ⟨.app, h.length :: ws, rp_lst.mpr ⟨_, ds, ws, rfl, by simp, q.frA .app, rfl⟩, h.length, ws, rfl, Nat.le_refl _, (by show _ < _; simp), hw⟩
theorem rps_rep {ps : List P} {ds : List D} {ws : List Nat} (q : Rps h ps ds ws) : ∀ n, ∃ vs, Rps h (repT ps n) (repT ds n) vs ∧ ∀ w ∈ vs, w ∈ ws
  | 0 => ⟨[], by simp [repT, Rps], by simp⟩
  | n + 1 => by
    obtain ⟨vs, a, b⟩ := rps_rep q n
    refine ⟨ws ++ vs, ?_, fun w hw => (List.mem_append.mp hw).elim id (b w)⟩
    unfold repT at a ⊢
    rw [List.replicate_succ, List.flatten_cons, List.replicate_succ, List.flatten_cons]
    exact q.app a
theorem binP_ok {o : BOp} {x y r : P} {d e : D} (hr : binP o x y = some r) (hx : Rp h x d us) (hy : Rp h y e vs) : Rn (binE o d e h) (OpS h (us ++ vs) r) := by
  unfold binP at hr
  split at hr <;> first | cases hr | skip
  all_goals first
    | (obtain ⟨rfl, _⟩ := rp_int.mp hx; obtain ⟨rfl, _⟩ := rp_int.mp hy; exact .sc (rp_int.mpr ⟨rfl, rfl⟩) rfl)
    | (obtain ⟨hg, rfl⟩ := grd_some hr; obtain ⟨rfl, _⟩ := rp_int.mp hx; obtain ⟨rfl, _⟩ := rp_int.mp hy
       show Rn (bnd (must _) _ h) _
       rw [rn_bnd, rn_must]
       exact ⟨hg, .sc (rp_int.mpr ⟨rfl, rfl⟩) rfl⟩)
    | (obtain ⟨hg, rfl⟩ := grd_some hr; obtain ⟨rfl, _⟩ := rp_str.mp hx; obtain ⟨rfl, _⟩ := rp_str.mp hy
       show Rn (bnd (must _) _ h) _
       rw [rn_bnd, rn_must]
       exact ⟨hg, .sc (rp_str.mpr ⟨rfl, rfl⟩) rfl⟩)
    | (obtain ⟨hg, rfl⟩ := grd_some hr; obtain ⟨rfl, _⟩ := rp_str.mp hx; obtain ⟨rfl, _⟩ := rp_int.mp hy
       show Rn (bnd (must _) _ h) _
       rw [rn_bnd, rn_must]
       exact ⟨hg, .sc (rp_str.mpr ⟨rfl, rfl⟩) rfl⟩)
    | skip
  · -- tuples
    obtain ⟨hg, rfl⟩ := grd_some hr
    obtain ⟨ds, rfl, qx⟩ := rp_tup.mp hx
    obtain ⟨es, rfl, qy⟩ := rp_tup.mp hy
    show Rn (bnd (must _) _ h) _
    rw [rn_bnd, rn_must]
    refine ⟨by rw [qx.len, qy.len]; exact hg, .refl, us ++ vs, rp_tup.mpr ⟨_, rfl, qx.app qy⟩, fun w hw => hw⟩
  · obtain ⟨hg, rfl⟩ := grd_some hr
    obtain ⟨n, ds, ws, rfl, hn, qx, rfl⟩ := rp_lst.mp hx
    obtain ⟨m, es, ws', rfl, hm, qy, rfl⟩ := rp_lst.mp hy
    unfold binE
    dsimp only
    rw [hn, hm]
    rw [rn_bnd, rn_must]
    refine ⟨by rw [qx.len, qy.len]; exact hg, OpS.new (qx.app qy) fun w hw => ?_⟩
    rcases List.mem_append.mp hw with z | z
    · exact List.mem_append_left _ (List.mem_cons_of_mem _ z)
    · exact List.mem_append_right _ (List.mem_cons_of_mem _ z)
  · obtain ⟨hg, rfl⟩ := grd_some hr
    obtain ⟨n, ds, ws, rfl, hn, qx, rfl⟩ := rp_lst.mp hx
    obtain ⟨rfl, _⟩ := rp_int.mp hy
    unfold binE
    dsimp only
    rw [hn]
    rw [rn_bnd, rn_must]
    obtain ⟨vs', a, b⟩ := rps_rep qx _
    refine ⟨by rw [qx.len]; exact hg, OpS.new a fun w hw => List.mem_append_left _ (List.mem_cons_of_mem _ (b w hw))⟩
theorem py_any {ps : List P} {p : PyData} : (P.pys ps).any (fun z => PyData.eqv z p) = ps.any fun z => PyData.eqv z.py p := by
  induction ps with
  | nil => rfl
  | cons q ps ih => rw [P.pys, List.any_cons, List.any_cons, ih]
theorem look_map (f : D → Bool) : ∀ (kvs : List (D × D)), (kvs.find? fun p => f p.1).isSome = (kvs.map (·.1)).any f
  | [] => rfl
  | (a, b) :: r => by
    rw [List.find?_cons, List.map_cons, List.any_cons]
    cases e : f a with
    | true => simp [e]
    | false => simpa [e] using look_map f r
theorem inP_ok {x y : P} {d e : D} {b : Bool} (hr : inP x y = some b) (hx : Rp h x d us) (hy : Rp h y e vs) : Rn (inE d e h) fun k h' => k = b ∧ h' = h := by
  have dat : ∀ (n : Nat), e = .ref n → (∀ kvs, h[n]? ≠ some (.dct kvs)) → x.dat = true → y.dat = true → (match y.py with | .list ds => b = ds.any fun z => PyData.eqv z x.py | _ => False) → Rn (inE d e h) fun k h' => k = b ∧ h' = h := fun n en nd dx dy he => by
    subst en
    unfold inE
    dsimp only
    split
    · rename_i kvs hk; exact (nd kvs hk).elim
    · rw [rn_bnd, hx.data dx]
      simp only [rn_ok, rn_bnd]
      rw [hy.data dy]
      simp only [rn_ok]
      split at he
      · rename_i ds e2; rw [e2]; exact ⟨he.symm, rfl⟩
      · exact he.elim
  unfold inP at hr
  split at hr
  · split at hr
    · cases hr
      obtain ⟨rfl, _⟩ := rp_str.mp hx
      obtain ⟨rfl, _⟩ := rp_str.mp hy
      exact ⟨rfl, rfl⟩
    · cases hr
  · rename_i ks qs
    obtain ⟨k, hk, rfl⟩ := Option.map_eq_some_iff.mp hr
    obtain ⟨n, kvs, ws, rfl, hn, rfl, q, rfl⟩ := rp_dct.mp hy
    have hd : d = k ∧ keyOk KD d = true := by
      cases x <;> cases hk
      · obtain ⟨rfl, _⟩ := rp_int.mp hx; exact ⟨rfl, rfl⟩
      · obtain ⟨rfl, _⟩ := rp_str.mp hx; exact ⟨rfl, rfl⟩
    obtain ⟨rfl, hk2⟩ := hd
    unfold inE
    dsimp only
    rw [hn]
    dsimp only
    rw [rn_bnd, rn_must]
    refine ⟨hk2, ?_, rfl⟩
    unfold lookK
    rw [Option.isSome_map]
    exact look_map (fun z => D.beq z d) kvs
  · rename_i ps
    obtain ⟨hg, rfl⟩ := grd_some hr
    rw [Bool.and_eq_true] at hg
    obtain ⟨n, ds, ws, e1, hn, _, _⟩ := rp_lst.mp hy
    exact dat n e1 (fun kvs z => by rw [hn] at z; cases z) hg.1 hg.2 (by rw [P.py]; exact py_any.symm)
  · rename_i ps
    obtain ⟨hg, rfl⟩ := grd_some hr
    rw [Bool.and_eq_true] at hg
    obtain ⟨ds, rfl, _⟩ := rp_tup.mp hy
    unfold inE
    dsimp only
    rw [rn_bnd, hx.data hg.1]
    simp only [rn_ok, rn_bnd]
    rw [hy.data hg.2]
    simp only [rn_ok]
    rw [P.py]
    exact ⟨py_any, rfl⟩
  · rename_i is
    obtain ⟨hg, rfl⟩ := grd_some hr
    obtain ⟨n, e1, hn, _⟩ := rp_scr.mp hy
    exact dat n e1 (fun kvs z => by rw [hn] at z; cases z) hg rfl (by rw [P.py]; simp only [List.any_map]; rfl)
  · cases hr
theorem cmpP_ok {o : COp} {x y : P} {d e : D} {b : Bool} (hr : cmpP o x y = some b) (hx : Rp h x d us) (hy : Rp h y e vs) : Rn (cmpE o d e h) fun v h' => v = .bl b ∧ h' = h := by
  have eqs : x.dat = true → y.dat = true → eqE d e h = .ok (PyData.eqv x.py y.py) h := fun dx dy => by
    unfold eqE
    simp only [bnd_app]
    rw [hx.data dx]
    simp only [bnd_ok, bnd_app]
    rw [hy.data dy]
    rfl
  cases o with
  | eq =>
    obtain ⟨hg, rfl⟩ := grd_some hr
    rw [Bool.and_eq_true] at hg
    show Rn (bnd (eqE d e) _ h) _
    rw [rn_bnd, eqs hg.1 hg.2]
    exact ⟨rfl, rfl⟩
  | ne =>
    obtain ⟨hg, rfl⟩ := grd_some hr
    rw [Bool.and_eq_true] at hg
    show Rn (bnd (eqE d e) _ h) _
    rw [rn_bnd, eqs hg.1 hg.2]
    exact ⟨rfl, rfl⟩
  | in_ =>
    show Rn (bnd (inE d e) _ h) _
    rw [rn_bnd]
    exact (inP_ok hr hx hy).mono fun k h' ⟨e1, e2⟩ => ⟨by rw [e1], e2⟩
  | nin =>
    obtain ⟨b', h1, rfl⟩ := Option.map_eq_some_iff.mp (show (inP x y).map (fun b => !b) = some b from hr)
    show Rn (bnd (inE d e) _ h) _
    rw [rn_bnd]
    exact (inP_ok h1 hx hy).mono fun k h' ⟨e1, e2⟩ => ⟨by rw [e1], e2⟩
  | is_ =>
    unfold cmpP at hr
    dsimp only at hr
    split at hr
    · cases hr
      obtain ⟨rfl, _⟩ := rp_non.mp hy
      refine ⟨?_, rfl⟩
      cases x with
      | non => rw [(rp_non.mp hx).1]; rfl
      | bl _ => rw [(rp_bl.mp hx).1]; rfl
      | int _ => rw [(rp_int.mp hx).1]; rfl
      | str _ => rw [(rp_str.mp hx).1]; rfl
      | tup _ => obtain ⟨_, rfl, _⟩ := rp_tup.mp hx; rfl
      | lst _ => obtain ⟨_, _, _, rfl, _⟩ := rp_lst.mp hx; rfl
      | scr _ => obtain ⟨_, rfl, _⟩ := rp_scr.mp hx; rfl
      | dct _ _ => obtain ⟨_, _, _, rfl, _⟩ := rp_dct.mp hx; rfl
      | raw _ => rw [(rp_raw.mp hx).1]; rfl
    · split at hr
      · cases hr
        obtain ⟨rfl, _⟩ := rp_bl.mp hx
        obtain ⟨rfl, _⟩ := rp_bl.mp hy
        exact ⟨rfl, rfl⟩
      · cases hr
    · cases hr
  | isnot =>
    unfold cmpP at hr
    dsimp only at hr
    split at hr
    · cases hr
      obtain ⟨rfl, _⟩ := rp_non.mp hy
      refine ⟨?_, rfl⟩
      cases x with
      | non => rw [(rp_non.mp hx).1]; rfl
      | bl _ => rw [(rp_bl.mp hx).1]; rfl
      | int _ => rw [(rp_int.mp hx).1]; rfl
      | str _ => rw [(rp_str.mp hx).1]; rfl
      | tup _ => obtain ⟨_, rfl, _⟩ := rp_tup.mp hx; rfl
      | lst _ => obtain ⟨_, _, _, rfl, _⟩ := rp_lst.mp hx; rfl
      | scr _ => obtain ⟨_, rfl, _⟩ := rp_scr.mp hx; rfl
      | dct _ _ => obtain ⟨_, _, _, rfl, _⟩ := rp_dct.mp hx; rfl
      | raw _ => rw [(rp_raw.mp hx).1]; rfl
    · split at hr
      · cases hr
        obtain ⟨rfl, _⟩ := rp_bl.mp hx
        obtain ⟨rfl, _⟩ := rp_bl.mp hy
        exact ⟨rfl, rfl⟩
      · cases hr
    · cases hr
  | _ =>
    unfold cmpP at hr
    dsimp only at hr
    split at hr
    · cases hr
      obtain ⟨rfl, _⟩ := rp_int.mp hx
      obtain ⟨rfl, _⟩ := rp_int.mp hy
      exact ⟨rfl, rfl⟩
    · first
        | (cases hr; obtain ⟨rfl, _⟩ := rp_str.mp hx; obtain ⟨rfl, _⟩ := rp_str.mp hy; exact ⟨rfl, rfl⟩)
        | cases hr
    all_goals first | cases hr | skip
theorem truP_ok {x : P} {d : D} {b : Bool} (hr : truP x = some b) (hx : Rp h x d us) : Rn (truE d h) fun k h' => k = b ∧ h' = h := by
  cases x with
  | non => cases hr; rw [(rp_non.mp hx).1]; exact ⟨rfl, rfl⟩
  | bl _ => cases hr; rw [(rp_bl.mp hx).1]; exact ⟨rfl, rfl⟩
  | int _ => cases hr; rw [(rp_int.mp hx).1]; exact ⟨rfl, rfl⟩
  | str s =>
    obtain ⟨hg, rfl⟩ := grd_some hr
    rw [(rp_str.mp hx).1]
    show Rn (bnd (must _) _ h) _
    rw [rn_bnd, rn_must]
    exact ⟨hg, rfl, rfl⟩
  | tup ps =>
    cases hr
    obtain ⟨ds, rfl, q⟩ := rp_tup.mp hx
    exact ⟨by rw [isEmpty_len q.len], rfl⟩
  | lst ps =>
    cases hr
    obtain ⟨n, ds, ws, rfl, hn, q, _⟩ := rp_lst.mp hx
    unfold truE
    dsimp only
    rw [hn]
    exact ⟨by rw [isEmpty_len q.len], rfl⟩
  | scr is =>
    cases hr
    obtain ⟨n, rfl, hn, _⟩ := rp_scr.mp hx
    unfold truE
    dsimp only
    rw [hn]
    exact ⟨by simp, rfl⟩
  | dct _ _ => cases hr
  | raw _ => cases hr
end
end U
end

section
set_option maxRecDepth 100000
set_option maxHeartbeats 1000000
/-! More operations on values without places. -/
namespace U
open PySem
section
variable {h : Hd} {us vs : List Nat}
/-- a part of a value: what an index gives -/
def Part (h : Hd) (us : List Nat) (r : P) (x : D) (h' : Hd) : Prop := h' = h ∧ ∃ ws, Rp h r x ws ∧ ws.Sublist us
theorem look_find : ∀ {ks : List D} {qs : List P} {kvs : List (D × D)} {ws : List Nat} {k : D} {r : P}, kvs.map (·.1) = ks → Rps h qs (kvs.map (·.2)) ws → lookP ks qs k = some r → ∃ d vs, lookK kvs k = some d ∧ Rp h r d vs ∧ vs.Sublist ws
  | [], qs, kvs, ws, k, r, e, q, l => by simp [lookP] at l
  | k0 :: ks, [], kvs, ws, k, r, e, q, l => by simp [lookP] at l
  | k0 :: ks, q0 :: qs, [], ws, k, r, e, q, l => by simp at e
  | k0 :: ks, q0 :: qs, (a, b) :: kvs, ws, k, r, e, q, l => by
    rw [List.map_cons] at e
    injection e with e1 e2
    rw [List.map_cons, Rps] at q
    obtain ⟨d, es, vs', ws', e3, rfl, qa, qb⟩ := q
    injection e3 with e3 e4
    subst e4
    unfold lookP at l
    rw [List.zip_cons_cons, List.find?_cons] at l
    unfold lookK
    rw [List.find?_cons]
    have e1 : a = k0 := e1
    subst e1
    cases hb : D.beq a k with
    | true =>
      simp only [hb] at l ⊢
      cases l
      exact ⟨b, vs', rfl, by rw [show b = d from e3]; exact qa, List.sublist_append_left ..⟩
    | false =>
      simp only [hb] at l ⊢
      obtain ⟨d', v', h1, h2, h3⟩ := look_find e2 qb (show lookP ks qs k = some r from l)
      exact ⟨d', v', h1, h2, h3.trans (List.sublist_append_right ..)⟩
theorem key_ok {x : P} {d k : D} (hx : Rp h x d us) (hk : keyP x = some k) : d = k ∧ keyOk KD d = true := by
  cases x <;> cases hk
  · obtain ⟨rfl, _⟩ := rp_int.mp hx; exact ⟨rfl, rfl⟩
  · obtain ⟨rfl, _⟩ := rp_str.mp hx; exact ⟨rfl, rfl⟩
theorem idxP_ok {x y r : P} {d e : D} (hr : idxP x y = some r) (hx : Rp h x d us) (hy : Rp h y e vs) : Rn (idxE d e h) (Part h us r) := by
  unfold idxP at hr
  split at hr
  · rename_i ps k
    obtain ⟨n, ds, ws, rfl, hn, q, rfl⟩ := rp_lst.mp hx
    obtain ⟨rfl, _⟩ := rp_int.mp hy
    obtain ⟨j, h1, h2⟩ := Option.bind_eq_some_iff.mp hr
    obtain ⟨d', v', h3, h4, h5⟩ := q.get h2
    unfold idxE
    dsimp only
    rw [hn]
    dsimp only
    rw [q.len, h1]
    show Rn (lft ds[j]? h) _
    rw [h3]
    exact ⟨rfl, v', h4, h5.trans (List.sublist_cons_self ..)⟩
  · rename_i ps k
    obtain ⟨ds, rfl, q⟩ := rp_tup.mp hx
    obtain ⟨rfl, _⟩ := rp_int.mp hy
    obtain ⟨j, h1, h2⟩ := Option.bind_eq_some_iff.mp hr
    obtain ⟨d', v', h3, h4, h5⟩ := q.get h2
    show Rn (lft ((ixD ds.length k).bind fun j => ds[j]?) h) _
    rw [q.len, h1]
    show Rn (lft ds[j]? h) _
    rw [h3]
    exact ⟨rfl, v', h4, h5⟩
  · rename_i is k
    obtain ⟨n, rfl, hn, rfl⟩ := rp_scr.mp hx
    obtain ⟨rfl, _⟩ := rp_int.mp hy
    obtain ⟨j, h1, h2⟩ := Option.bind_eq_some_iff.mp hr
    obtain ⟨i, h3, rfl⟩ := Option.map_eq_some_iff.mp h2
    unfold idxE
    dsimp only
    rw [hn]
    dsimp only
    rw [List.length_map, h1]
    show Rn (lft (is.map D.int)[j]? h) _
    rw [List.getElem?_map, h3]
    exact ⟨rfl, [], rp_int.mpr ⟨rfl, rfl⟩, by simp⟩
  · rename_i s k
    obtain ⟨rfl, rfl⟩ := rp_str.mp hx
    obtain ⟨rfl, _⟩ := rp_int.mp hy
    obtain ⟨_, h0, hr⟩ := Option.bind_eq_some_iff.mp hr
    obtain ⟨hg, _⟩ := grd_some h0
    obtain ⟨j, h1, h2⟩ := Option.bind_eq_some_iff.mp hr
    obtain ⟨c, h3, rfl⟩ := Option.map_eq_some_iff.mp h2
    show Rn (bnd (must _) _ h) _
    rw [rn_bnd, rn_must]
    refine ⟨hg, ?_⟩
    rw [rn_bnd, h1]
    show Rn (lft s[j]? h) _
    rw [h3]
    exact ⟨rfl, [], rp_str.mpr ⟨rfl, rfl⟩, by simp⟩
  · rename_i ks qs k
    obtain ⟨n, kvs, ws, rfl, hn, hk, q, rfl⟩ := rp_dct.mp hx
    obtain ⟨k', h1, h2⟩ := Option.bind_eq_some_iff.mp hr
    obtain ⟨rfl, h3⟩ := key_ok hy h1
    obtain ⟨d', v', h4, h5, h6⟩ := look_find hk q h2
    unfold idxE
    dsimp only
    rw [hn]
    dsimp only
    rw [rn_bnd, rn_must]
    refine ⟨h3, ?_⟩
    rw [h4]
    exact ⟨rfl, v', h5, h6.trans (List.sublist_cons_self ..)⟩
  · cases hr
theorem rps_cut {ps : List P} {ds : List D} (q : Rps h ps ds us) (l u : Option Int) : ∃ ws, Rps h (cut ps l u) (cut ds l u) ws ∧ ws.Sublist us := by
  unfold cut
  rw [q.len]
  obtain ⟨v1, a, b⟩ := q.drop (sIx ps.length 0 l)
  obtain ⟨v2, c, e⟩ := a.take (sIx ps.length ps.length u - sIx ps.length 0 l)
  exact ⟨v2, c, e.trans b⟩
theorem cut_map {α β : Type} (f : α → β) (xs : List α) (l u : Option Int) : cut (xs.map f) l u = (cut xs l u).map f := by
  unfold cut
  rw [List.length_map, List.map_take, List.map_drop]
theorem slcP_ok {x r : P} {d : D} {l u : Option Int} (hr : slcP x l u = some r) (hx : Rp h x d us) : Rn (slcD d l u h) (OpS h us r) := by
  cases x with
  | str s =>
    obtain ⟨hg, rfl⟩ := grd_some hr
    obtain ⟨rfl, _⟩ := rp_str.mp hx
    show Rn (bnd (must _) _ h) _
    rw [rn_bnd, rn_must]
    exact ⟨hg, .sc (rp_str.mpr ⟨rfl, rfl⟩) rfl⟩
  | tup ps =>
    cases hr
    obtain ⟨ds, rfl, q⟩ := rp_tup.mp hx
    obtain ⟨ws, a, b⟩ := rps_cut q l u
    exact ⟨.refl, ws, rp_tup.mpr ⟨_, rfl, a⟩, fun w hw => b.subset hw⟩
  | lst ps =>
    cases hr
    obtain ⟨n, ds, ws, rfl, hn, q, rfl⟩ := rp_lst.mp hx
    obtain ⟨ws', a, b⟩ := rps_cut q l u
    show Rn (bnd (lft (h[n]?.bind O.list?)) (fun ds => new (.lst (cut ds l u))) h) _
    rw [hn, rn_bnd]
    exact OpS.new a fun w hw => List.mem_cons_of_mem _ (b.subset hw)
  | scr is =>
    cases hr
    obtain ⟨n, rfl, hn, rfl⟩ := rp_scr.mp hx
    show Rn (bnd (lft (h[n]?.bind O.list?)) (fun ds => new (.lst (cut ds l u))) h) _
    rw [hn, rn_bnd]
    show OpS h [n] (.lst ((cut is l u).map .int)) (.ref h.length) (h ++ [.lst (cut (is.map D.int) l u)])
    rw [cut_map]
    exact OpS.new (Rps.ints.mpr ⟨rfl, rfl⟩) (by simp)
  | _ => cases hr
theorem strsP_ok {ts : List Tx} : ∀ {ps : List P} {ds : List D} {ws : List Nat}, strsP ps = some ts → Rps h ps ds ws → texts? ds = some ts ∧ ws = [] ∧ ds = ts.map .str ∧ ps = ts.map .str := by
  induction ts with
  | nil =>
    intro ps ds ws e q
    cases ps with
    | nil => rw [Rps] at q; rw [q.1, q.2]; exact ⟨rfl, rfl, rfl, rfl⟩
    | cons p ps => cases p <;> simp [strsP] at e
  | cons t ts ih =>
    intro ps ds ws e q
    cases ps with
    | nil => simp [strsP] at e
    | cons p ps =>
      cases p <;> simp [strsP] at e
      obtain ⟨e1, rfl⟩ := e
      rw [Rps] at q
      obtain ⟨d, es, vs, ws', rfl, rfl, qa, qb⟩ := q
      obtain ⟨rfl, rfl⟩ := rp_str.mp qa
      obtain ⟨a, rfl, c, f⟩ := ih e1 qb
      exact ⟨by simp [texts?, a], rfl, by simp [c], by simp [f]⟩
theorem intsP_ok {ts : List Int} : ∀ {ps : List P} {ds : List D} {ws : List Nat}, intsP ps = some ts → Rps h ps ds ws → ints? ds = some ts ∧ ws = [] ∧ ds = ts.map .int ∧ ps = ts.map .int := by
  induction ts with
  | nil =>
    intro ps ds ws e q
    cases ps with
    | nil => rw [Rps] at q; rw [q.1, q.2]; exact ⟨rfl, rfl, rfl, rfl⟩
    | cons p ps => cases p <;> simp [intsP] at e
  | cons t ts ih =>
    intro ps ds ws e q
    cases ps with
    | nil => simp [intsP] at e
    | cons p ps =>
      cases p <;> simp [intsP] at e
      obtain ⟨e1, rfl⟩ := e
      rw [Rps] at q
      obtain ⟨d, es, vs, ws', rfl, rfl, qa, qb⟩ := q
      obtain ⟨rfl, rfl⟩ := rp_int.mp qa
      obtain ⟨a, rfl, c, f⟩ := ih e1 qb
      exact ⟨by simp [ints?, a], rfl, by simp [c], by simp [f]⟩
theorem blsP_ok {ts : List Bool} : ∀ {ps : List P} {ds : List D} {ws : List Nat}, blsP ps = some ts → Rps h ps ds ws → bools? ds = some ts := by
  induction ts with
  | nil =>
    intro ps ds ws e q
    cases ps with
    | nil => rw [Rps] at q; rw [q.1]; rfl
    | cons p ps => cases p <;> simp [blsP] at e
  | cons t ts ih =>
    intro ps ds ws e q
    cases ps with
    | nil => simp [blsP] at e
    | cons p ps =>
      cases p <;> simp [blsP] at e
      obtain ⟨e1, rfl⟩ := e
      rw [Rps] at q
      obtain ⟨d, es, vs, ws', rfl, rfl, qa, qb⟩ := q
      obtain ⟨rfl, rfl⟩ := rp_bl.mp qa
      simp [bools?, ih e1 qb]
theorem rps_strs (ts : List Tx) : Rps h (ts.map .str) (ts.map .str) [] := by
  induction ts with
  | nil => exact .nil
  | cons t ts ih => have := Rps.cons (rp_str.mpr ⟨rfl, rfl⟩ : Rp h (.str t) (.str t) []) ih; simpa using this
theorem one_ps {p : P} {ds : List D} (q : Rps h [p] ds us) : ∃ d, ds = [d] ∧ Rp h p d us := by
  rw [Rps] at q
  obtain ⟨d, es, vs, ws, rfl, rfl, qa, qb⟩ := q
  rw [Rps] at qb
  obtain ⟨rfl, rfl⟩ := qb
  exact ⟨d, rfl, by simpa using qa⟩
theorem two_ps {p p' : P} {ds : List D} (q : Rps h [p, p'] ds us) : ∃ d e vs ws, ds = [d, e] ∧ us = vs ++ ws ∧ Rp h p d vs ∧ Rp h p' e ws := by
  rw [Rps] at q
  obtain ⟨d, es, vs, ws, rfl, rfl, qa, qb⟩ := q
  obtain ⟨e, rfl, qc⟩ := one_ps qb
  exact ⟨d, e, vs, ws, rfl, rfl, qa, qc⟩
theorem isTyP_ok {T : Tab} {x : P} {d : D} {t : Ty} {b : Bool} (hr : isTyP x t = some b) (hx : Rp h x d us) : Rn (isiE T d t h) fun k h' => k = b ∧ h' = h := by
  cases x with
  | non => cases hr; rw [(rp_non.mp hx).1]; exact ⟨rfl, rfl⟩
  | bl _ => cases hr; rw [(rp_bl.mp hx).1]; exact ⟨rfl, rfl⟩
  | int _ => cases hr; rw [(rp_int.mp hx).1]; exact ⟨rfl, rfl⟩
  | str s => cases hr; rw [(rp_str.mp hx).1]; exact ⟨rfl, rfl⟩
  | tup ps => cases hr; obtain ⟨ds, rfl, q⟩ := rp_tup.mp hx; exact ⟨rfl, rfl⟩
  | lst ps =>
    cases hr
    obtain ⟨n, ds, ws, rfl, hn, q, _⟩ := rp_lst.mp hx
    unfold isiE; dsimp only; rw [hn]; exact ⟨rfl, rfl⟩
  | scr is =>
    cases hr
    obtain ⟨n, rfl, hn, _⟩ := rp_scr.mp hx
    unfold isiE; dsimp only; rw [hn]; exact ⟨rfl, rfl⟩
  | dct ks qs =>
    cases hr
    obtain ⟨n, kvs, ws, rfl, hn, _⟩ := rp_dct.mp hx
    unfold isiE; dsimp only; rw [hn]; exact ⟨rfl, rfl⟩
  | raw _ => cases hr
/-- the items of a list, a tuple -/
theorem seq_lst {n : Nat} {ds : List D} (hn : h[n]? = some (.lst ds)) : seq? h (.ref n) = some ds := by
  show h[n]?.bind O.list? = _; rw [hn]; rfl
theorem rps_keys {h : Hd} : ∀ {kvs : List (D × D)}, ((kvs.map (·.1)).all (keyOk KD)) = true → Rps h ((kvs.map (·.1)).map kP) (kvs.map (·.1)) []
  | [], _ => .nil
  | p :: kvs, hk => by
    rw [List.map_cons, List.all_cons, Bool.and_eq_true] at hk
    have r : Rp h (kP p.1) p.1 [] := by
      cases hp : p.1 with
      | int i => exact rp_int.mpr ⟨rfl, rfl⟩
      | str s => exact rp_str.mpr ⟨rfl, rfl⟩
      | _ => rw [hp] at hk; cases hk.1
    have := Rps.cons r (rps_keys hk.2)
    simpa using this
theorem bltP_ok {T : Tab} {b : Bi} {xs : List P} {r : P} {ds : List D} (hr : bltP b xs = some r) (hx : Rps h xs ds us) : Rn (bltE T b ds h) (OpS h us r) := by
  unfold bltP at hr
  split at hr
  · -- len
    have hx0 := hx; clear hx; obtain ⟨d, rfl, hx⟩ := one_ps hx0; clear hx0
    split at hr
    · obtain ⟨hg, rfl⟩ := grd_some hr
      obtain ⟨rfl, _⟩ := rp_str.mp hx
      show Rn (bnd (must _) _ h) _
      rw [rn_bnd, rn_must]
      exact ⟨hg, .sc (rp_int.mpr ⟨rfl, rfl⟩) rfl⟩
    · cases hr
      obtain ⟨ds, rfl, q⟩ := rp_tup.mp hx
      exact .sc (rp_int.mpr ⟨by rw [q.len], rfl⟩) rfl
    · cases hr
      obtain ⟨n, ds, ws, rfl, hn, q, _⟩ := rp_lst.mp hx
      unfold bltE; dsimp only; rw [hn]
      exact OpS.sc (rp_int.mpr ⟨by rw [q.len], rfl⟩) rfl
    · cases hr
      obtain ⟨n, rfl, hn, _⟩ := rp_scr.mp hx
      unfold bltE; dsimp only; rw [hn]
      exact OpS.sc (rp_int.mpr ⟨by rw [List.length_map], rfl⟩) rfl
    · cases hr
      obtain ⟨n, kvs, ws, rfl, hn, rfl, _⟩ := rp_dct.mp hx
      unfold bltE; dsimp only; rw [hn]
      exact OpS.sc (rp_int.mpr ⟨by rw [List.length_map], rfl⟩) rfl
    · cases hr
  · -- int
    have hx0 := hx; clear hx; obtain ⟨d, rfl, hx⟩ := one_ps hx0; clear hx0
    split at hr
    · cases hr
      obtain ⟨rfl, _⟩ := rp_int.mp hx
      exact OpS.sc (rp_int.mpr ⟨rfl, rfl⟩) rfl
    · cases hr
      obtain ⟨rfl, _⟩ := rp_bl.mp hx
      exact OpS.sc (rp_int.mpr ⟨rfl, rfl⟩) rfl
    · obtain ⟨_, h0, hr⟩ := Option.bind_eq_some_iff.mp hr
      obtain ⟨hg, _⟩ := grd_some h0
      obtain ⟨i, h1, rfl⟩ := Option.map_eq_some_iff.mp hr
      obtain ⟨rfl, _⟩ := rp_str.mp hx
      show Rn (bnd (must _) _ h) _
      rw [rn_bnd, rn_must]
      refine ⟨hg, ?_⟩
      rw [rn_bnd, h1]
      exact OpS.sc (rp_int.mpr ⟨rfl, rfl⟩) rfl
    · cases hr
  · -- str
    have hx0 := hx; clear hx; obtain ⟨d, rfl, hx⟩ := one_ps hx0; clear hx0
    split at hr
    · obtain ⟨hg, rfl⟩ := grd_some hr
      obtain ⟨rfl, _⟩ := rp_int.mp hx
      show Rn (bnd (must _) _ h) _
      rw [rn_bnd, rn_must]
      exact ⟨hg, OpS.sc (rp_str.mpr ⟨rfl, rfl⟩) rfl⟩
    · cases hr
      obtain ⟨rfl, _⟩ := rp_str.mp hx
      exact OpS.sc (rp_str.mpr ⟨rfl, rfl⟩) rfl
    · cases hr
  · -- list
    have hx0 := hx; clear hx; obtain ⟨d, rfl, hx⟩ := one_ps hx0; clear hx0
    show Rn (bnd (lft (ksq? h d)) (fun ds => new (O.lst ds)) h) _
    rw [rn_bnd]
    split at hr
    · cases hr
      obtain ⟨n, ds, ws, rfl, hn, q, rfl⟩ := rp_lst.mp hx
      have : ksq? h (.ref n) = some ds := by
        unfold ksq? dct?
        dsimp only
        rw [hn]
        exact seq_lst hn
      rw [this]
      exact OpS.new q fun w hw => List.mem_cons_of_mem _ hw
    · cases hr
      obtain ⟨ds, rfl, q⟩ := rp_tup.mp hx
      exact OpS.new q fun w hw => hw
    · cases hr
      obtain ⟨n, rfl, hn, _⟩ := rp_scr.mp hx
      have : ksq? h (.ref n) = some (List.map D.int ‹List Int›) := by
        unfold ksq? dct?
        dsimp only
        rw [hn]
        show h[n]?.bind O.list? = _
        rw [hn]; rfl
      rw [this]
      exact OpS.new (Rps.ints.mpr ⟨rfl, rfl⟩) (by simp)
    · obtain ⟨hk, rfl⟩ := grd_some hr
      obtain ⟨n, kvs, ws, rfl, hn, rfl, q, rfl⟩ := rp_dct.mp hx
      have : ksq? h (.ref n) = some (kvs.map (·.1)) := by
        unfold ksq? dct?
        dsimp only
        rw [hn]
      rw [this]
      exact OpS.new (rps_keys hk) (by simp)
    · cases hr
  · -- tuple
    have hx0 := hx; clear hx; obtain ⟨d, rfl, hx⟩ := one_ps hx0; clear hx0
    show Rn (bnd (lft (seq? h d)) (fun ds => ret (D.tup ds)) h) _
    rw [rn_bnd]
    split at hr
    · cases hr
      obtain ⟨n, ds, ws, rfl, hn, q, rfl⟩ := rp_lst.mp hx
      rw [seq_lst hn]
      exact ⟨.refl, ws, rp_tup.mpr ⟨_, rfl, q⟩, fun w hw => List.mem_cons_of_mem _ hw⟩
    · cases hr
      obtain ⟨ds, rfl, q⟩ := rp_tup.mp hx
      exact ⟨.refl, us, rp_tup.mpr ⟨_, rfl, q⟩, fun w hw => hw⟩
    · cases hr
      obtain ⟨n, rfl, hn, _⟩ := rp_scr.mp hx
      have : seq? h (.ref n) = some (List.map D.int ‹List Int›) := by show h[n]?.bind O.list? = _; rw [hn]; rfl
      rw [this]
      exact ⟨.refl, [], rp_tup.mpr ⟨_, rfl, Rps.ints.mpr ⟨rfl, rfl⟩⟩, by simp⟩
    · cases hr
  · -- sorted
    have hx0 := hx; clear hx; obtain ⟨d, rfl, hx⟩ := one_ps hx0; clear hx0
    split at hr
    · rename_i ps
      obtain ⟨n, ds, ws, rfl, hn, q, rfl⟩ := rp_lst.mp hx
      have hl : list? h (.ref n) = some ds := by show h[n]?.bind O.list? = _; rw [hn]; rfl
      unfold bltE
      dsimp only
      rw [rn_bnd, hl]
      rw [rn_some]
      split at hr
      · rename_i ts ht
        obtain ⟨hg, rfl⟩ := grd_some hr
        obtain ⟨a, _, _, _⟩ := strsP_ok ht q
        rw [a]
        dsimp only
        rw [rn_bnd, rn_must]
        exact ⟨hg, OpS.new (rps_strs _) (by simp)⟩
      · rename_i hnone
        obtain ⟨is, h1, hr⟩ := Option.bind_eq_some_iff.mp hr
        obtain ⟨hg, rfl⟩ := grd_some hr
        obtain ⟨a, _, e1, e2⟩ := intsP_ok h1 q
        have hn : texts? ds = none := by
          subst e1 e2
          cases is with
          | nil => simp [strsP] at hnone
          | cons i is => rfl
        rw [hn]
        dsimp only
        rw [a]
        dsimp only
        rw [rn_bnd, rn_must]
        exact ⟨hg, OpS.new (Rps.ints.mpr ⟨rfl, rfl⟩) (by simp)⟩
    · cases hr
  · cases hr
    obtain ⟨d, e, vs, ws, rfl, rfl, q1, q2⟩ := two_ps hx
    obtain ⟨rfl, _⟩ := rp_int.mp q1
    obtain ⟨rfl, _⟩ := rp_int.mp q2
    exact OpS.sc (rp_int.mpr ⟨rfl, rfl⟩) rfl
  · cases hr
    obtain ⟨d, e, vs, ws, rfl, rfl, q1, q2⟩ := two_ps hx
    obtain ⟨rfl, _⟩ := rp_int.mp q1
    obtain ⟨rfl, _⟩ := rp_int.mp q2
    exact OpS.sc (rp_int.mpr ⟨rfl, rfl⟩) rfl
  · have hx0 := hx; clear hx; obtain ⟨d, rfl, hx⟩ := one_ps hx0; clear hx0
    obtain ⟨is, h1, hr⟩ := Option.bind_eq_some_iff.mp hr
    obtain ⟨m, h2, rfl⟩ := Option.map_eq_some_iff.mp hr
    obtain ⟨n, ds, ws, rfl, hn, q, rfl⟩ := rp_lst.mp hx
    obtain ⟨a, _⟩ := intsP_ok h1 q
    have hl : (list? h (.ref n)).bind ints? = some is := by show (h[n]?.bind O.list?).bind ints? = _; rw [hn]; exact a
    show Rn (bnd (lft ((list? h (.ref n)).bind ints?)) _ h) _
    rw [rn_bnd, hl, rn_some, rn_bnd, h2]
    exact OpS.sc (rp_int.mpr ⟨rfl, rfl⟩) rfl
  · have hx0 := hx; clear hx; obtain ⟨d, rfl, hx⟩ := one_ps hx0; clear hx0
    obtain ⟨is, h1, hr⟩ := Option.bind_eq_some_iff.mp hr
    obtain ⟨m, h2, rfl⟩ := Option.map_eq_some_iff.mp hr
    obtain ⟨n, ds, ws, rfl, hn, q, rfl⟩ := rp_lst.mp hx
    obtain ⟨a, _⟩ := intsP_ok h1 q
    have hl : (list? h (.ref n)).bind ints? = some is := by show (h[n]?.bind O.list?).bind ints? = _; rw [hn]; exact a
    show Rn (bnd (lft ((list? h (.ref n)).bind ints?)) _ h) _
    rw [rn_bnd, hl, rn_some, rn_bnd, h2]
    exact OpS.sc (rp_int.mpr ⟨rfl, rfl⟩) rfl
  · have hx0 := hx; clear hx; obtain ⟨d, rfl, hx⟩ := one_ps hx0; clear hx0
    obtain ⟨bs, h1, rfl⟩ := Option.map_eq_some_iff.mp hr
    obtain ⟨n, ds, ws, rfl, hn, q, rfl⟩ := rp_lst.mp hx
    have hl : (list? h (.ref n)).bind bools? = some bs := by show (h[n]?.bind O.list?).bind bools? = _; rw [hn]; exact blsP_ok h1 q
    show Rn (bnd (lft ((list? h (.ref n)).bind bools?)) _ h) _
    rw [rn_bnd, hl, rn_some]
    exact OpS.sc (rp_bl.mpr ⟨rfl, rfl⟩) rfl
  · have hx0 := hx; clear hx; obtain ⟨d, rfl, hx⟩ := one_ps hx0; clear hx0
    obtain ⟨is, h1, rfl⟩ := Option.map_eq_some_iff.mp hr
    obtain ⟨n, ds, ws, rfl, hn, q, rfl⟩ := rp_lst.mp hx
    obtain ⟨a, _⟩ := intsP_ok h1 q
    have hl : (list? h (.ref n)).bind ints? = some is := by show (h[n]?.bind O.list?).bind ints? = _; rw [hn]; exact a
    show Rn (bnd (lft ((list? h (.ref n)).bind ints?)) _ h) _
    rw [rn_bnd, hl, rn_some]
    exact OpS.sc (rp_int.mpr ⟨rfl, rfl⟩) rfl
  · cases hr
    have hx0 := hx; clear hx; obtain ⟨d, rfl, hx⟩ := one_ps hx0; clear hx0
    obtain ⟨rfl, _⟩ := rp_int.mp hx
    exact OpS.sc (rp_int.mpr ⟨rfl, rfl⟩) rfl
  · have hx0 := hx; clear hx; obtain ⟨d, rfl, hx⟩ := one_ps hx0; clear hx0
    obtain ⟨k, h1, rfl⟩ := Option.map_eq_some_iff.mp hr
    show Rn (bnd (isiE T d _) _ h) _
    rw [rn_bnd]
    refine (isTyP_ok h1 hx).mono fun k' h' ⟨e1, e2⟩ => ?_
    subst e1 e2
    exact OpS.sc (rp_bl.mpr ⟨rfl, rfl⟩) rfl
  · have hx0 := hx; clear hx; obtain ⟨d, rfl, hx⟩ := one_ps hx0; clear hx0
    split at hr
    · cases hr
      obtain ⟨n, ds, ws, rfl, hn, q, rfl⟩ := rp_lst.mp hx
      obtain ⟨vs', z1, z2⟩ := q.rev
      show Rn (bnd (lft (h[n]?.bind O.list?)) (fun ds => new (.lst ds.reverse)) h) _
      rw [hn, rn_bnd]
      exact OpS.new z1 fun w hw => List.mem_cons_of_mem _ (z2.subset hw)
    · cases hr
      obtain ⟨n, rfl, hn, rfl⟩ := rp_scr.mp hx
      obtain ⟨vs', z1, z2⟩ := (Rps.ints (h := h) (us := []) (is := _)).mpr ⟨rfl, rfl⟩ |>.rev
      show Rn (bnd (lft (h[n]?.bind O.list?)) (fun ds => new (.lst ds.reverse)) h) _
      rw [hn, rn_bnd]
      exact OpS.new z1 fun w hw => List.mem_cons_of_mem _ (z2.subset hw)
    · cases hr
  · cases hr
theorem py_find {ps : List P} {p : PyData} : (P.pys ps).findIdx? (fun z => PyData.eqv z p) = ps.findIdx? fun z => PyData.eqv z.py p := by
  induction ps with
  | nil => rfl
  | cons q ps ih => rw [P.pys, List.findIdx?_cons, List.findIdx?_cons, ih]
theorem bmtP_ok {b : Bm} {x r : P} {xs : List P} {d : D} {ds : List D} (hr : bmtP b x xs = some r) (hx : Rp h x d us) (hxs : Rps h xs ds vs) : (∀ h', FrA h h' → Rn (tyM b d h') fun _ h2 => h2 = h') ∧ Rn (bmtE b d ds h) (OpS h vs r) := by
  unfold bmtP at hr
  split at hr
  · split at hr
    · obtain ⟨ts, h1, hr⟩ := Option.bind_eq_some_iff.mp hr
      obtain ⟨hg, rfl⟩ := grd_some hr
      obtain ⟨rfl, _⟩ := rp_str.mp hx
      obtain ⟨e, rfl, hy⟩ := one_ps hxs
      refine ⟨fun h' _ => by show Rn (must true h') _; rw [rn_must]; exact ⟨rfl, rfl⟩, ?_⟩
      have hl : (seq? h e).bind texts? = some ts := by
        split at h1
        · obtain ⟨n, ds, ws, rfl, hn, q, rfl⟩ := rp_lst.mp hy
          rw [seq_lst hn]
          exact (strsP_ok h1 q).1
        · obtain ⟨ds, rfl, q⟩ := rp_tup.mp hy
          exact (strsP_ok h1 q).1
        · cases h1
      unfold bmtE
      dsimp only
      rw [rn_bnd, hl, rn_some, rn_bnd, rn_must]
      exact ⟨hg, OpS.sc (rp_str.mpr ⟨rfl, rfl⟩) rfl⟩
    · cases hr
  · split at hr
    · obtain ⟨_, h0, hr⟩ := Option.bind_eq_some_iff.mp hr
      obtain ⟨hg, _⟩ := grd_some h0
      rw [Bool.and_eq_true] at hg
      obtain ⟨j, h1, rfl⟩ := Option.map_eq_some_iff.mp hr
      obtain ⟨e, rfl, hy⟩ := one_ps hxs
      have hx' := hx
      obtain ⟨n, ds, ws, rfl, hn, q, rfl⟩ := rp_lst.mp hx
      refine ⟨fun h' f => ?_, ?_⟩
      · unfold tyM
        dsimp only
        rw [f.2 n (List.getElem?_eq_some_iff.mp hn).1, hn]
        exact rfl
      · unfold bmtE
        dsimp only
        rw [rn_bnd, hx'.data hg.1]
        simp only [rn_ok, rn_bnd]
        rw [hy.data hg.2]
        simp only [rn_ok]
        rw [P.py]
        simp only [rn_bnd]
        rw [py_find, h1]
        exact OpS.sc (rp_int.mpr ⟨rfl, rfl⟩) rfl
    · cases hr
  · split at hr
    · cases hr
      obtain ⟨rfl, _⟩ := rp_str.mp hx
      obtain ⟨e, rfl, hy⟩ := one_ps hxs
      obtain ⟨rfl, _⟩ := rp_str.mp hy
      refine ⟨fun h' _ => by show Rn (must true h') _; rw [rn_must]; exact ⟨rfl, rfl⟩, ?_⟩
      exact OpS.sc (rp_bl.mpr ⟨rfl, rfl⟩) rfl
    · cases hr
  · split at hr
    · cases hr
      obtain ⟨rfl, _⟩ := rp_str.mp hx
      obtain ⟨e, rfl, hy⟩ := one_ps hxs
      obtain ⟨rfl, _⟩ := rp_str.mp hy
      refine ⟨fun h' _ => by show Rn (must true h') _; rw [rn_must]; exact ⟨rfl, rfl⟩, ?_⟩
      exact OpS.sc (rp_bl.mpr ⟨rfl, rfl⟩) rfl
    · cases hr
  · split at hr
    · cases hr
      obtain ⟨rfl, _⟩ := rp_str.mp hx
      obtain ⟨e, rfl, hy⟩ := one_ps hxs
      obtain ⟨rfl, _⟩ := rp_str.mp hy
      refine ⟨fun h' _ => by show Rn (must true h') _; rw [rn_must]; exact ⟨rfl, rfl⟩, ?_⟩
      exact OpS.sc (rp_int.mpr ⟨rfl, rfl⟩) rfl
    · cases hr
  · split at hr
    · obtain ⟨hg, rfl⟩ := grd_some hr
      obtain ⟨rfl, _⟩ := rp_str.mp hx
      rw [Rps] at hxs
      obtain ⟨rfl, rfl⟩ := hxs
      refine ⟨fun h' _ => by show Rn (must true h') _; rw [rn_must]; exact ⟨rfl, rfl⟩, ?_⟩
      show Rn (bnd (must _) _ h) _
      rw [rn_bnd, rn_must]
      exact ⟨hg, OpS.sc (rp_str.mpr ⟨rfl, rfl⟩) rfl⟩
    · cases hr
  · split at hr
    · obtain ⟨hg, rfl⟩ := grd_some hr
      obtain ⟨rfl, _⟩ := rp_str.mp hx
      obtain ⟨e, rfl, hy⟩ := one_ps hxs
      obtain ⟨rfl, _⟩ := rp_str.mp hy
      refine ⟨fun h' _ => by show Rn (must true h') _; rw [rn_must]; exact ⟨rfl, rfl⟩, ?_⟩
      show Rn (bnd (must _) _ h) _
      rw [rn_bnd, rn_must]
      exact ⟨hg, OpS.sc (rp_str.mpr ⟨rfl, rfl⟩) rfl⟩
    · cases hr
  · split at hr
    · obtain ⟨hg, rfl⟩ := grd_some hr
      obtain ⟨rfl, _⟩ := rp_str.mp hx
      obtain ⟨e, rfl, hy⟩ := one_ps hxs
      obtain ⟨rfl, _⟩ := rp_str.mp hy
      refine ⟨fun h' _ => by show Rn (must true h') _; rw [rn_must]; exact ⟨rfl, rfl⟩, ?_⟩
      show Rn (bnd (must _) _ h) _
      rw [rn_bnd, rn_must]
      exact ⟨hg, OpS.new (rps_strs _) (by simp)⟩
    · cases hr
  · split at hr
    · obtain ⟨hg, rfl⟩ := grd_some hr
      obtain ⟨rfl, _⟩ := rp_str.mp hx
      obtain ⟨e, rfl, hy⟩ := one_ps hxs
      obtain ⟨rfl, _⟩ := rp_str.mp hy
      refine ⟨fun h' _ => by show Rn (must true h') _; rw [rn_must]; exact ⟨rfl, rfl⟩, ?_⟩
      show Rn (bnd (must _) _ h) _
      rw [rn_bnd, rn_must]
      exact ⟨hg, .refl, [], rp_tup.mpr ⟨_, rfl, rps_strs _⟩, by simp⟩
    · cases hr
  · cases hr
end
end U
end

section
set_option maxRecDepth 100000
set_option maxHeartbeats 1000000
/-! Expressions on values without places, and that they are right. -/
namespace U
open PySem
abbrev SL := Option (P × Nat)
abbrev Rho := List SL
/-- what is all one's own has nothing of others' -/
def lkv (lv : Nat) (lk : List Nat) : List Nat := match lv with
  | 2 => []
  | _ => lk
def vr (p : P) (lv : Nat) (lk : List Nat) : PV := match p.scal with
  | true => ⟨p, 2, []⟩
  | false => ⟨p, lv, lkv lv lk⟩
def partv (r : P) (x : PV) : PV := match r.scal with
  | true => ⟨r, 2, []⟩
  | false => ⟨r, match x.lv with | 2 => 2 | _ => 0, x.lk⟩
structure PVs where
  ps : List P
  two : Bool
  lk : List Nat
def lstv (v : PVs) : PV := match P.scals v.ps with
  | true => ⟨.lst v.ps, 2, []⟩
  | false => (match v.two with
    | true => ⟨.lst v.ps, 2, []⟩
    | false => ⟨.lst v.ps, 1, v.lk⟩)
def tupv (v : PVs) : PV := match P.scals v.ps with
  | true => ⟨.tup v.ps, 2, []⟩
  | false => (match v.two with
    | true => ⟨.tup v.ps, 2, []⟩
    | false => ⟨.tup v.ps, 0, v.lk⟩)
/-- keys and values by turns -/
def pairsP : List P → Option (List D × List P)
  | [] => some ([], [])
  | k :: v :: r => (keyP k).bind fun k => (pairsP r).map fun q => (k :: q.1, v :: q.2)
  | _ => none
/-- keys unlike one another -/
def nodK : List D → Bool
  | [] => true
  | k :: r => (r.all fun z => !D.beq k z) && nodK r
def dctv (ks : List D) (v : PVs) : PV := let w := lstv v; ⟨.dct ks v.ps, w.lv, w.lk⟩
def nrm (p : P) (lv : Nat) : P × Nat := (p, match p.scal with | true => 2 | false => lv)
mutual
def asgP : Tg → P → Nat → Rho → Option Rho
  | .nm i, p, lv, ρ => grd (decide (i < ρ.length)) (ρ.set i (some (nrm p lv)))
  | .tp ts, .tup ps, _, ρ => asgPs ts ps 0 ρ
  | .tp _, _, _, _ => none
def asgPs : List Tg → List P → Nat → Rho → Option Rho
  | [], [], _, ρ => some ρ
  | t :: ts, p :: ps, lv, ρ => (asgP t p lv ρ).bind fun ρ' => asgPs ts ps lv ρ'
  | _, _, _, _ => none
end
/-- these are one's own no more -/
def drp (lk : List Nat) (ρ : Rho) : Rho := match lk with
  | [] => ρ
  | i :: r => (drp r ρ).modify i fun s => s.map fun q => nrm q.1 0
def wpP (ρ : Rho) : List Nat → Rho
  | [] => ρ
  | v :: vs => (wpP ρ vs).set v none
def seqP (x : P) : Option (List P) := match x with
  | .tup ps => some ps
  | .lst ps => some ps
  | .scr is => some (is.map .int)
  | _ => none
def isTupP : P → Bool
  | .tup _ => true
  | _ => false
def walkP (x : P) : Option (List P) := match x with
  | .str s => grd (decide (s.length ≤ LIM)) (s.map fun c => .str [c])
  | x => seqP x
def rngP (lo : Int) (n : Nat) : List P := (List.range n).map fun k : Nat => P.int (lo + (k : Int))
/-- downwards -/
def rngD (lo : Int) (n : Nat) : List P := (List.range n).map fun k : Nat => P.int (lo - (k : Int))
def enmP (i : Nat) : List P → List P
  | [] => []
  | p :: ps => .tup [.int i, p] :: enmP (i + 1) ps
def zipP : List P → List P → List P
  | a :: r, b :: q => .tup [a, b] :: zipP r q
  | _, _ => []
def compP (f : P → Option (Option PV)) : List P → Option PVs
  | [] => some ⟨[], true, []⟩
  | p :: ps => (f p).bind fun x => (compP f ps).map fun v => match x with
    | some x => ⟨x.p :: v.ps, (x.lv == 2) && v.two, x.lk ++ v.lk⟩
    | none => v
section
variable (FP : Nat → List P → Option (P × Nat))
mutual
def evP : CE → Rho → Option PV
  | .var i, ρ => (ρ[i]?.bind id).map fun s => vr s.1 0 [i]
  | .cst d, _ => (dP d).map fun p => vr p 2 []
  | .bin o a b, ρ => (evP a ρ).bind fun x => (evP b ρ).bind fun y => (binP o x.p y.p).map fun r => opv r (x.lk ++ y.lk)
  | .neg a, ρ => (evP a ρ).bind fun x => match x.p with
    | .int i => some ⟨.int (-i), 2, []⟩
    | _ => none
  | .cmp o a b, ρ => (evP a ρ).bind fun x => (evP b ρ).bind fun y => (cmpP o x.p y.p).map fun k => ⟨.bl k, 2, []⟩
  | .chn o p a b c, ρ => (evP a ρ).bind fun x => (evP b ρ).bind fun y => (cmpP o x.p y.p).bind fun k => match k with
    | true => (evP c ρ).bind fun z => (cmpP p y.p z.p).map fun k => ⟨.bl k, 2, []⟩
    | false => some ⟨.bl false, 2, []⟩
  | .and a b, ρ => (evP a ρ).bind fun x => match x.p with
    | .bl true => evP b ρ
    | .bl false => some ⟨.bl false, 2, []⟩
    | _ => none
  | .or a b, ρ => (evP a ρ).bind fun x => match x.p with
    | .bl true => some ⟨.bl true, 2, []⟩
    | .bl false => evP b ρ
    | _ => none
  | .not a, ρ => (evP a ρ).bind fun x => match x.p with
    | .bl b => some ⟨.bl (!b), 2, []⟩
    | _ => none
  | .ite c a b, ρ => (evPT c ρ).bind fun k => match k with
    | true => evP a ρ
    | false => evP b ρ
  | .tup es, ρ => (evPs es ρ).bind fun v => grd (decide (v.ps.length ≤ LIM)) (tupv v)
  | .lst es, ρ => (evPs es ρ).bind fun v => grd (decide (v.ps.length ≤ LIM)) (lstv v)
  | .dct es, ρ => (evPs es ρ).bind fun v => (pairsP v.ps).bind fun q => grd (decide (q.1.length ≤ 15) && nodK q.1) (dctv q.1 ⟨q.2, v.two, v.lk⟩)
  | .idx a i, ρ => (evP a ρ).bind fun x => (evP i ρ).bind fun k => (idxP x.p k.p).map fun r => partv r x
  | .slc a l u, ρ => (evP a ρ).bind fun x => (evP l ρ).bind fun l' => (endP l l'.p).bind fun lo => (evP u ρ).bind fun u' => (endP u u'.p).bind fun hi => (slcP x.p lo hi).map fun r => opv r x.lk
  | .call f es, ρ => (evPs es ρ).bind fun v => (FP f v.ps).map fun r => vr r.1 r.2 v.lk
  | .blt b es, ρ => (evPs es ρ).bind fun v => (bltP b v.ps).map fun r => opv r v.lk
  | .bmt b a es, ρ => (evP a ρ).bind fun x => (evPs es ρ).bind fun v => (bmtP b x.p v.ps).map fun r => opv r v.lk
  | .comp own elt t it c, ρ => (evPI it ρ).bind fun w => (compP (fun p => (asgP t p 0 (wpP (drp w.lk ρ) own)).bind fun ρ' => match c with
      | none => (evP elt ρ').map some
      | some c => (evPT c ρ').bind fun k => match k with
        | true => (evP elt ρ').map some
        | false => some none) w.ps).bind fun v => grd (decide (v.ps.length ≤ LIM)) (lstv ⟨v.ps, v.two, w.lk ++ v.lk⟩)
  | _, _ => none
def evPs : CEs → Rho → Option PVs
  | .nil, _ => some ⟨[], true, []⟩
  | .cons e es, ρ => (evP e ρ).bind fun x => (evPs es ρ).map fun v => ⟨x.p :: v.ps, (x.lv == 2) && v.two, x.lk ++ v.lk⟩
def evPT : CT → Rho → Option Bool
  | .and a b, ρ => (evPT a ρ).bind fun k => match k with
    | true => evPT b ρ
    | false => some false
  | .or a b, ρ => (evPT a ρ).bind fun k => match k with
    | true => some true
    | false => evPT b ρ
  | .not a, ρ => (evPT a ρ).map fun k => !k
  | .val e, ρ => (evP e ρ).bind fun x => truP x.p
def evPI : Wk → Rho → Option PVs
  | .e a, ρ => (evP a ρ).bind fun x => (walkP x.p).map fun ps => ⟨ps, false, x.lk⟩
  | .rng1 a, ρ => (evP a ρ).bind fun x => match x.p with
    | .int j => grd (in62 j) ⟨rngP 0 j.toNat, true, []⟩
    | _ => none
  | .rng2 a b, ρ => (evP a ρ).bind fun x => (evP b ρ).bind fun y => match x.p, y.p with
    | .int i, .int j => grd (in62 i && in62 j) ⟨rngP i (j - i).toNat, true, []⟩
    | _, _ => none
  | .rng3 a b k, ρ => (evP a ρ).bind fun x => (evP b ρ).bind fun y => match x.p, y.p with
    | .int i, .int j => grd (in62 i && in62 j && decide (k = -1)) ⟨rngD i (i - j).toNat, true, []⟩
    | _, _ => none
  | .zip a b, ρ => (evP a ρ).bind fun x => (evP b ρ).bind fun y => (seqP x.p).bind fun ps => (seqP y.p).bind fun qs => grd (isTupP x.p == isTupP y.p) ⟨zipP ps qs, false, x.lk ++ y.lk⟩
  | .enm a, ρ => (evP a ρ).bind fun x => (seqP x.p).bind fun ps => grd (!isTupP x.p) ⟨enmP 0 ps, false, x.lk⟩
  | .rev a, ρ => (evP a ρ).bind fun x => (seqP x.p).map fun ps => ⟨ps.reverse, false, x.lk⟩
  | _, _ => none
end
end

/-! ### what stands behind it -/
abbrev Ow := Nat → Option Nat
/-- from here on owners are no slots -/
abbrev BIG : Nat := 1000000
def Lv (ow : Ow) (i lv : Nat) (us : List Nat) : Prop := (lv = 2 → us.Nodup ∧ ∀ r ∈ us, ow r = some i) ∧ (lv = 1 → ∃ n ws, us = n :: ws ∧ ow n = some i ∧ ∀ r ∈ ws, ow r = none) ∧ (lv ≠ 2 → lv ≠ 1 → ∀ r ∈ us, ow r = none)
structure Inv (h : Hd) (σ : St) (ρ : Rho) (ow : Ow) : Prop where
  len : ρ.length = σ.length
  rep : ∀ (i : Nat) p lv, ρ[i]? = some (some (p, lv)) → ∃ d us, σ[i]? = some (some d) ∧ Rp h p d us ∧ Lv ow i lv us
  own : ∀ r i, ow r = some i → Mut h r
  small : ρ.length ≤ BIG
theorem Inv.fr {h h' : Hd} {σ : St} {ρ : Rho} {ow : Ow} (I : Inv h σ ρ ow) (f : FrA h h') : Inv h' σ ρ ow :=
  ⟨I.len, fun i p lv e => let ⟨d, us, e1, r, l⟩ := I.rep i p lv e; ⟨d, us, e1, r.frA f, l⟩, fun r i e => (I.own r i e).fr f, I.small⟩
/-- whose a place is: new, nobody's, of a slot that is told -/
def Ok (h0 : Nat) (ow : Ow) (lk : List Nat) (r : Nat) : Prop := h0 ≤ r ∨ ow r = none ∨ ∃ i ∈ lk, i < BIG ∧ ow r = some i
theorem Ok.mono {h0 h1 : Nat} {ow : Ow} {lk lk' : List Nat} {r : Nat} (k : Ok h1 ow lk r) (a : h0 ≤ h1) (b : ∀ i ∈ lk, i ∈ lk') : Ok h0 ow lk' r := by
  rcases k with k | k | ⟨i, k1, k2⟩
  · exact .inl (Nat.le_trans a k)
  · exact .inr (.inl k)
  · exact .inr (.inr ⟨i, b i k1, k2⟩)
structure Tv (h0 : Nat) (ow : Ow) (lk : List Nat) (lv : Nat) (us : List Nat) (h' : Hd) : Prop where
  ok : ∀ r ∈ us, Ok h0 ow lk r
  two : lv = 2 → us.Nodup ∧ ∀ r ∈ us, h0 ≤ r ∧ Mut h' r
  one : lv = 1 → ∃ n ws, us = n :: ws ∧ h0 ≤ n ∧ n ∉ ws ∧ Mut h' n
theorem Tv.nil {h0 : Nat} {ow : Ow} {lk : List Nat} {lv : Nat} {h' : Hd} (hl : lv = 2) : Tv h0 ow lk lv [] h' := ⟨by simp, fun _ => by simp, fun e => by omega⟩
theorem opv_p {r : P} {lk : List Nat} : (opv r lk).p = r := by
  unfold opv
  cases r.scal with
  | true => rfl
  | false =>
    cases r <;> dsimp only
    split <;> rfl
theorem opv_tv {h0 : Nat} {h h' : Hd} {us : List Nat} {r : P} {x : D} {lk : List Nat} {ow : Ow} (o : OpS h us r x h') (hu : ∀ w ∈ us, w < h.length ∧ Ok h0 ow lk w) (hh : h0 ≤ h.length) : FrA h h' ∧ ∃ ws, Rp h' (opv r lk).p x ws ∧ Tv h0 ow (opv r lk).lk (opv r lk).lv ws h' := by
  obtain ⟨f, ws, q, z⟩ := o
  rw [opv_p]
  refine ⟨f, ws, q, ?_⟩
  unfold opv
  cases hs : r.scal with
  | true =>
    obtain ⟨rfl, _⟩ := q.scal hs
    exact .nil rfl
  | false =>
    cases r with
    | lst ps =>
      dsimp only at z ⊢
      obtain ⟨n, ws', rfl, hn, hm, hw⟩ := z
      cases hp : P.scals ps with
      | true =>
        obtain ⟨m, ds, wz, _, _, qs, e⟩ := rp_lst.mp q
        obtain ⟨rfl, _⟩ := qs.scal hp
        cases e
        exact ⟨by simp; exact .inl (Nat.le_trans hh hn), fun _ => ⟨by simp, by simp; exact ⟨Nat.le_trans hh hn, hm⟩⟩, (by intro e; cases e)⟩
      | false =>
        refine ⟨fun w hw' => ?_, (by intro e; cases e), fun _ => ⟨n, ws', rfl, Nat.le_trans hh hn, fun z => ?_, hm⟩⟩
        · rcases List.mem_cons.mp hw' with rfl | hw'
          · exact .inl (Nat.le_trans hh hn)
          · exact (hu w (hw w hw')).2
        · have := (hu n (hw n z)).1
          omega
    | _ => exact ⟨fun w hw' => (hu w (z w hw')).2, (by intro e; cases e), (by intro e; cases e)⟩
theorem vr_tv {h0 : Nat} {h' : Hd} {us : List Nat} {p : P} {d : D} {lv : Nat} {lk : List Nat} {ow : Ow} (q : Rp h' p d us) (t : Tv h0 ow lk lv us h') : Rp h' (vr p lv lk).p d us ∧ Tv h0 ow (vr p lv lk).lk (vr p lv lk).lv us h' := by
  unfold vr
  cases hs : p.scal with
  | true =>
    obtain ⟨rfl, _⟩ := q.scal hs
    exact ⟨q, .nil rfl⟩
  | false =>
    refine ⟨q, ?_⟩
    show Tv h0 ow (lkv lv lk) lv us h'
    unfold lkv
    split
    · exact ⟨fun r hr => .inl ((t.two rfl).2 r hr).1, t.two, t.one⟩
    · exact t
theorem partv_tv {h0 : Nat} {h' : Hd} {us ws : List Nat} {r : P} {d : D} {x : PV} {ow : Ow} (q : Rp h' r d ws) (hs : ws.Sublist us) (t : Tv h0 ow x.lk x.lv us h') : Rp h' (partv r x).p d ws ∧ Tv h0 ow (partv r x).lk (partv r x).lv ws h' := by
  unfold partv
  cases hz : r.scal with
  | true =>
    obtain ⟨rfl, _⟩ := q.scal hz
    exact ⟨q, .nil rfl⟩
  | false =>
    refine ⟨q, fun w hw => t.ok w (hs.subset hw), fun e => ?_, fun e => ?_⟩
    · have e : (match x.lv with | 2 => 2 | _ => 0) = 2 := e
      split at e
      · rename_i e2
        obtain ⟨a, b⟩ := t.two e2
        exact ⟨a.sublist hs, fun w hw => b w (hs.subset hw)⟩
      · cases e
    · have e : (match x.lv with | 2 => 2 | _ => 0) = 1 := e
      split at e <;> cases e
/-- a list of values, told -/
structure TvS (h0 : Nat) (ow : Ow) (v : PVs) (us : List Nat) (h' : Hd) : Prop where
  ok : ∀ r ∈ us, Ok h0 ow v.lk r
  two : v.two = true → us.Nodup ∧ ∀ r ∈ us, h0 ≤ r ∧ Mut h' r
theorem TvS.cons {h0 : Nat} {h1 h' : Hd} {ow : Ow} {x : PV} {v : PVs} {us vs : List Nat} (a : Tv h0 ow x.lk x.lv us h1) (b : TvS h1.length ow v vs h') (hu : ∀ r ∈ us, r < h1.length) (hh : h0 ≤ h1.length) (f : FrA h1 h') : TvS h0 ow ⟨x.p :: v.ps, (x.lv == 2) && v.two, x.lk ++ v.lk⟩ (us ++ vs) h' := by
  refine ⟨fun r hr => ?_, fun e => ?_⟩
  · rcases List.mem_append.mp hr with hr | hr
    · exact (a.ok r hr).mono (Nat.le_refl _) fun i hi => List.mem_append_left _ hi
    · exact (b.ok r hr).mono hh fun i hi => List.mem_append_right _ hi
  · rw [Bool.and_eq_true, beq_iff_eq] at e
    obtain ⟨a1, a2⟩ := a.two e.1
    obtain ⟨b1, b2⟩ := b.two e.2
    refine ⟨List.nodup_append.mpr ⟨a1, b1, fun r hr s hs e => ?_⟩, fun r hr => ?_⟩
    · subst e
      have := hu r hr
      have := (b2 r hs).1
      omega
    · rcases List.mem_append.mp hr with hr | hr
      · exact ⟨(a2 r hr).1, (a2 r hr).2.fr f⟩
      · exact ⟨Nat.le_trans hh (b2 r hr).1, (b2 r hr).2⟩
theorem lstv_p {v : PVs} : (lstv v).p = .lst v.ps := by
  unfold lstv
  cases P.scals v.ps with
  | true => rfl
  | false => cases v.two <;> rfl
theorem tupv_p {v : PVs} : (tupv v).p = .tup v.ps := by
  unfold tupv
  cases P.scals v.ps with
  | true => rfl
  | false => cases v.two <;> rfl
theorem lstv_tv {h0 : Nat} {h : Hd} {ow : Ow} {v : PVs} {us : List Nat} {ds : List D} (q : Rps h v.ps ds us) (t : TvS h0 ow v us h) (hh : h0 ≤ h.length) :
    FrA h (h ++ [.lst ds]) ∧ ∃ ws, Rp (h ++ [.lst ds]) (lstv v).p (.ref h.length) ws ∧ Tv h0 ow (lstv v).lk (lstv v).lv ws (h ++ [.lst ds]) := by
  rw [lstv_p]
  have hm : Mut (h ++ [.lst ds]) h.length := by show _ < _; simp
  refine ⟨.app, h.length :: us, rp_lst.mpr ⟨_, ds, us, rfl, by simp, q.frA .app, rfl⟩, ?_⟩
  have hn : h.length ∉ us := fun z => by have := q.lt _ z; omega
  unfold lstv
  cases hs : P.scals v.ps with
  | true =>
    obtain ⟨rfl, _⟩ := q.scal hs
    exact ⟨by simp; exact .inl hh, fun _ => ⟨by simp, by simp; exact ⟨hh, hm⟩⟩, (by intro e; cases e)⟩
  | false =>
    cases ht : v.two with
    | true =>
      obtain ⟨a, b⟩ := t.two ht
      refine ⟨fun r hr => ?_, fun _ => ⟨List.nodup_cons.mpr ⟨hn, a⟩, fun r hr => ?_⟩, (by intro e; cases e)⟩
      · rcases List.mem_cons.mp hr with rfl | hr
        · exact .inl hh
        · exact .inl (b r hr).1
      · rcases List.mem_cons.mp hr with rfl | hr
        · exact ⟨hh, hm⟩
        · exact ⟨(b r hr).1, (b r hr).2.fr .app⟩
    | false =>
      refine ⟨fun r hr => ?_, (by intro e; cases e), fun _ => ⟨_, us, rfl, hh, hn, hm⟩⟩
      rcases List.mem_cons.mp hr with rfl | hr
      · exact .inl hh
      · exact t.ok r hr
theorem tupv_tv {h0 : Nat} {h : Hd} {ow : Ow} {v : PVs} {us : List Nat} {ds : List D} (q : Rps h v.ps ds us) (t : TvS h0 ow v us h) :
    Rp h (tupv v).p (.tup ds) us ∧ Tv h0 ow (tupv v).lk (tupv v).lv us h := by
  rw [tupv_p]
  refine ⟨rp_tup.mpr ⟨ds, rfl, q⟩, ?_⟩
  unfold tupv
  cases hs : P.scals v.ps with
  | true =>
    obtain ⟨rfl, _⟩ := q.scal hs
    exact .nil rfl
  | false =>
    cases ht : v.two with
    | true => obtain ⟨a, b⟩ := t.two ht; exact ⟨fun r hr => .inl (b r hr).1, fun _ => ⟨a, b⟩, (by intro e; cases e)⟩
    | false => exact ⟨t.ok, (by intro e; cases e), (by intro e; cases e)⟩

theorem keyP_ok {p : P} {k : D} {d : D} {us : List Nat} {h : Hd} (e : keyP p = some k) (q : Rp h p d us) : d = k ∧ us = [] ∧ keyOk KD k = true := by
  cases p with
  | int i => cases e; obtain ⟨rfl, rfl⟩ := rp_int.mp q; exact ⟨rfl, rfl, rfl⟩
  | str s => cases e; obtain ⟨rfl, rfl⟩ := rp_str.mp q; exact ⟨rfl, rfl, rfl⟩
  | _ => cases e
theorem pairsP_ok : ∀ (n : Nat) {ps : List P} {q : List D × List P} {h : Hd} {ds : List D} {us : List Nat}, ps.length ≤ n → pairsP ps = some q → Rps h ps ds us → ∃ kvs, pairs? ds = some kvs ∧ kvs.map (·.1) = q.1 ∧ Rps h q.2 (kvs.map (·.2)) us ∧ (kvs.all fun p => keyOk KD p.1) = true
  | n, [], q, h, ds, us, _, e, r => by
    cases e
    rw [Rps] at r
    obtain ⟨rfl, rfl⟩ := r
    exact ⟨[], rfl, rfl, .nil, rfl⟩
  | n, [_], q, h, ds, us, _, e, r => by cases e
  | 0, _ :: _ :: _, q, h, ds, us, z, e, r => by simp at z
  | n + 1, k :: v :: ps, q, h, ds, us, z, e, r => by
    obtain ⟨kd, e1, e⟩ := Option.bind_eq_some_iff.mp (show (keyP k).bind _ = some q from e)
    obtain ⟨q', e2, rfl⟩ := Option.map_eq_some_iff.mp e
    rw [Rps] at r
    obtain ⟨d1, es, u1, u2, rfl, rfl, r1, r⟩ := r
    rw [Rps] at r
    obtain ⟨d2, es, u3, u4, rfl, rfl, r2, r⟩ := r
    obtain ⟨rfl, rfl, hk⟩ := keyP_ok e1 r1
    obtain ⟨kvs, a, b, c, d⟩ := pairsP_ok n (by simp at z; omega) e2 r
    refine ⟨(d1, d2) :: kvs, ?_, by simp [b], ?_, by simp [hk]; simpa using d⟩
    · show (pairs? es).map _ = _
      rw [a]; rfl
    · have := Rps.cons r2 c
      simpa using this
theorem putK_new' {acc : List (D × D)} {k v : D} (h : ∀ p ∈ acc, D.beq p.1 k = false) : putK acc k v = acc ++ [(k, v)] := by
  unfold putK
  have : (acc.any fun p => D.beq p.1 k) = false := by
    rw [List.any_eq_false]
    intro p hp
    rw [h p hp]; decide
  rw [this]
theorem mrgK_fold : ∀ {kvs acc : List (D × D)}, nodK (kvs.map (·.1)) = true → (∀ p ∈ acc, ∀ q ∈ kvs, D.beq p.1 q.1 = false) → kvs.foldl (fun acc kv => putK acc kv.1 kv.2) acc = acc ++ kvs
  | [], acc, _, _ => by simp
  | kv :: kvs, acc, h1, h2 => by
    rw [List.foldl_cons, putK_new' fun p hp => h2 p hp kv (by simp)]
    have h1 : ((kvs.map (·.1)).all (fun z => !D.beq kv.1 z) && nodK (kvs.map (·.1))) = true := h1
    rw [Bool.and_eq_true] at h1
    rw [mrgK_fold h1.2 fun p hp q hq => ?_]
    · simp
    · rcases List.mem_append.mp hp with hp | hp
      · exact h2 p hp q (List.mem_cons_of_mem _ hq)
      · rw [List.mem_singleton.mp hp]
        have := List.all_eq_true.mp h1.1 q.1 (List.mem_map_of_mem hq)
        simpa using this
theorem mrgK_id {kvs : List (D × D)} (h : nodK (kvs.map (·.1)) = true) : mrgK kvs = kvs := by
  unfold mrgK
  rw [mrgK_fold h (by simp)]
  rfl
theorem dctv_tv {h0 : Nat} {h : Hd} {ow : Ow} {ks : List D} {v : PVs} {us : List Nat} {kvs : List (D × D)} (hk : kvs.map (·.1) = ks) (q : Rps h v.ps (kvs.map (·.2)) us) (t : TvS h0 ow v us h) (hh : h0 ≤ h.length) :
    FrA h (h ++ [.dct kvs]) ∧ ∃ ws, Rp (h ++ [.dct kvs]) (dctv ks v).p (.ref h.length) ws ∧ Tv h0 ow (dctv ks v).lk (dctv ks v).lv ws (h ++ [.dct kvs]) := by
  have hm : Mut (h ++ [.dct kvs]) h.length := by show _ < _; simp
  refine ⟨.app, h.length :: us, rp_dct.mpr ⟨_, kvs, us, rfl, by simp, hk, q.frA .app, rfl⟩, ?_⟩
  have hn : h.length ∉ us := fun z => by have := q.lt _ z; omega
  show Tv h0 ow (lstv v).lk (lstv v).lv (h.length :: us) (h ++ [.dct kvs])
  unfold lstv
  cases hs : P.scals v.ps with
  | true =>
    obtain ⟨rfl, _⟩ := q.scal hs
    exact ⟨by simp; exact .inl hh, fun _ => ⟨by simp, by simp; exact ⟨hh, hm⟩⟩, (by intro e; cases e)⟩
  | false =>
    cases ht : v.two with
    | true =>
      obtain ⟨a, b⟩ := t.two ht
      refine ⟨fun r hr => ?_, fun _ => ⟨List.nodup_cons.mpr ⟨hn, a⟩, fun r hr => ?_⟩, (by intro e; cases e)⟩
      · rcases List.mem_cons.mp hr with rfl | hr
        · exact .inl hh
        · exact .inl (b r hr).1
      · rcases List.mem_cons.mp hr with rfl | hr
        · exact ⟨hh, hm⟩
        · exact ⟨(b r hr).1, (b r hr).2.fr .app⟩
    | false =>
      refine ⟨fun r hr => ?_, (by intro e; cases e), fun _ => ⟨_, us, rfl, hh, hn, hm⟩⟩
      rcases List.mem_cons.mp hr with rfl | hr
      · exact .inl hh
      · exact t.ok r hr

/-! ### slots given up, wiped, set -/
def dow (lk : List Nat) (ow : Ow) : Ow := fun r => match ow r with
  | some i => if i ∈ lk ∧ i < BIG then none else some i
  | none => none
theorem dow_none {lk : List Nat} {ow : Ow} {r : Nat} : dow lk ow r = none ↔ ow r = none ∨ ∃ i ∈ lk, i < BIG ∧ ow r = some i := by
  unfold dow
  cases e : ow r with
  | none => simp
  | some i =>
    by_cases hi : i ∈ lk ∧ i < BIG
    · simp only [if_pos hi, true_iff]
      exact .inr ⟨i, hi.1, hi.2, rfl⟩
    · simp only [if_neg hi]
      constructor
      · intro z; cases z
      · rintro (z | ⟨j, h1, h2, h3⟩)
        · cases z
        · cases h3; exact (hi ⟨h1, h2⟩).elim
theorem dow_some {lk : List Nat} {ow : Ow} {r i : Nat} : dow lk ow r = some i ↔ ow r = some i ∧ ¬ (i ∈ lk ∧ i < BIG) := by
  unfold dow
  cases e : ow r with
  | none => simp
  | some j =>
    by_cases hi : j ∈ lk ∧ j < BIG
    · simp only [if_pos hi]
      constructor
      · intro z; cases z
      · rintro ⟨z, w⟩; cases z; exact (w hi).elim
    · simp only [if_neg hi]
      constructor
      · intro z; cases z; exact ⟨rfl, hi⟩
      · rintro ⟨z, _⟩; exact z
theorem drp_len (lk : List Nat) (ρ : Rho) : (drp lk ρ).length = ρ.length := by
  induction lk with
  | nil => rfl
  | cons i r ih => unfold drp; rw [List.length_modify, ih]
theorem drp_get {lk : List Nat} {ρ : Rho} {j : Nat} {p : P} {lv : Nat} (e : (drp lk ρ)[j]? = some (some (p, lv))) : ∃ lv0, ρ[j]? = some (some (p, lv0)) ∧ ((j ∉ lk ∧ lv = lv0) ∨ (p.scal = true ∧ (lv = 2 ∨ lv = lv0)) ∨ lv = 0) ∧ (j ∈ lk → p.scal = true ∨ lv = 0) := by
  induction lk generalizing p lv with
  | nil => exact ⟨lv, e, .inl ⟨by simp, rfl⟩, (by intro z; cases z)⟩
  | cons i r ih =>
    unfold drp at e
    rw [List.getElem?_modify] at e
    by_cases hij : i = j
    · subst hij
      simp only [if_true] at e
      cases e1 : (drp r ρ)[i]? with
      | none => rw [e1] at e; cases e
      | some s =>
        rw [e1] at e
        cases s with
        | none => cases e
        | some q =>
          obtain ⟨p0, lv1⟩ := q
          have e : some (some (nrm p0 0)) = some (some (p, lv)) := e
          injection e with e; injection e with e
          unfold nrm at e
          injection e with e2 e3
          subst e2
          obtain ⟨lv0, h1, h2⟩ := ih e1
          refine ⟨lv0, h1, ?_, fun _ => ?_⟩
          · cases hs : p0.scal with
            | true => rw [hs] at e3; exact .inr (.inl ⟨rfl, .inl e3.symm⟩)
            | false => rw [hs] at e3; exact .inr (.inr e3.symm)
          · cases hs : p0.scal with
            | true => exact .inl rfl
            | false => rw [hs] at e3; exact .inr e3.symm
    · simp only [if_neg hij] at e
      have e : (drp r ρ)[j]? = some (some (p, lv)) := by
        cases e1 : (drp r ρ)[j]? with
        | none => rw [e1] at e; cases e
        | some s => rw [e1] at e; simpa using e
      obtain ⟨lv0, h1, h2, h3⟩ := ih e
      refine ⟨lv0, h1, ?_, fun z => ?_⟩
      · rcases h2 with ⟨h2, h4⟩ | h2 | h2
        · exact .inl ⟨by simp; exact ⟨fun z => hij z.symm, h2⟩, h4⟩
        · exact .inr (.inl h2)
        · exact .inr (.inr h2)
      · rcases List.mem_cons.mp z with z | z
        · exact (hij z.symm).elim
        · exact h3 z
theorem Inv.drp {h : Hd} {σ : St} {ρ : Rho} {ow : Ow} (I : Inv h σ ρ ow) (lk : List Nat) : Inv h σ (U.drp lk ρ) (dow lk ow) := by
  refine ⟨(drp_len lk ρ).trans I.len, fun i p lv e => ?_, fun r i e => I.own r i (dow_some.mp e).1, by rw [drp_len]; exact I.small⟩
  obtain ⟨lv0, h1, h2, h3⟩ := drp_get e
  obtain ⟨d, us, e1, q, l⟩ := I.rep i p lv0 h1
  refine ⟨d, us, e1, q, ?_⟩
  cases hs : p.scal with
  | true =>
    obtain ⟨rfl, _⟩ := q.scal hs
    refine ⟨fun _ => by simp, fun e => ?_, fun _ _ => by simp⟩
    rcases h2 with ⟨_, e2⟩ | ⟨_, e2⟩ | e2
    · rw [e2] at e
      obtain ⟨n, ws, z, _⟩ := l.2.1 e
      cases z
    · rcases e2 with e2 | e2
      · omega
      · rw [e2] at e
        obtain ⟨n, ws, z, _⟩ := l.2.1 e
        cases z
    · omega
  | false =>
    have hsm : i < BIG := Nat.lt_of_lt_of_le (List.getElem?_eq_some_iff.mp h1).1 I.small
    by_cases hi : i ∈ lk
    · have e0 : lv = 0 := by
        rcases h3 hi with z | z
        · rw [hs] at z; cases z
        · exact z
      subst e0
      refine ⟨fun e => by omega, fun e => by omega, fun _ _ r hr => dow_none.mpr ?_⟩
      by_cases a : lv0 = 2
      · exact .inr ⟨i, hi, hsm, (l.1 a).2 r hr⟩
      · by_cases b : lv0 = 1
        · obtain ⟨n, ws, rfl, w1, w2⟩ := l.2.1 b
          rcases List.mem_cons.mp hr with rfl | hr
          · exact .inr ⟨i, hi, hsm, w1⟩
          · exact .inl (w2 r hr)
        · exact .inl (l.2.2 a b r hr)
    · have e0 : lv = lv0 ∨ lv = 0 := by
        rcases h2 with ⟨_, z⟩ | ⟨z, _⟩ | z
        · exact .inl z
        · rw [hs] at z; cases z
        · exact .inr z
      have e1 : lv = lv0 := by
        rcases h2 with ⟨_, z⟩ | ⟨z, _⟩ | z
        · exact z
        · rw [hs] at z; cases z
        · -- not given up: as it was
          exact (by
            have : ∀ (lk : List Nat) (lv : Nat), i ∉ lk → (U.drp lk ρ)[i]? = some (some (p, lv)) → lv = lv0 := by
              intro lk
              induction lk with
              | nil => intro lv _ e; have e : ρ[i]? = some (some (p, lv)) := e; rw [h1] at e; simp at e; exact e.symm
              | cons j r ih =>
                intro lv hj e
                unfold U.drp at e
                have hj1 : ¬ j = i := fun z => by subst z; simp at hj
                rw [List.getElem?_modify] at e
                simp only [if_neg hj1] at e
                refine ih lv (by simp at hj; exact hj.2) ?_
                cases e1 : (U.drp r ρ)[i]? with
                | none => rw [e1] at e; cases e
                | some s => rw [e1] at e; simpa using e
            exact this lk lv hi e)
      subst e1
      refine ⟨fun e => ⟨(l.1 e).1, fun r hr => dow_some.mpr ⟨(l.1 e).2 r hr, fun z => hi z.1⟩⟩, fun e => ?_, fun a b r hr => dow_none.mpr (.inl (l.2.2 a b r hr))⟩
      obtain ⟨n, ws, rfl, w1, w2⟩ := l.2.1 e
      exact ⟨n, ws, rfl, dow_some.mpr ⟨w1, fun z => hi z.1⟩, fun r hr => dow_none.mpr (.inl (w2 r hr))⟩
theorem Inv.wipe {h : Hd} {σ : St} {ρ : Rho} {ow : Ow} (I : Inv h σ ρ ow) : ∀ vs, Inv h (wp σ vs) (wpP ρ vs) ow
  | [] => I
  | v :: vs => by
    have J := Inv.wipe I vs
    refine ⟨by show ((wpP ρ vs).set v none).length = ((wp σ vs).set v none).length; simp [J.len], fun i p lv e => ?_, J.own, by show ((wpP ρ vs).set v none).length ≤ _; rw [List.length_set]; exact J.small⟩
    have e : ((wpP ρ vs).set v none)[i]? = some (some (p, lv)) := e
    by_cases hi : v = i
    · subst hi
      by_cases hl : v < (wpP ρ vs).length
      · rw [List.getElem?_set_self hl] at e; cases e
      · rw [List.getElem?_eq_none (by simpa using hl)] at e; cases e
    · rw [List.getElem?_set_ne hi] at e
      obtain ⟨d, us, e1, q, l⟩ := J.rep i p lv e
      exact ⟨d, us, by show ((wp σ vs).set v none)[i]? = _; rw [List.getElem?_set_ne hi]; exact e1, q, l⟩
/-- a value that is nobody's is stored -/
theorem nrm_p {p : P} {lv : Nat} : (nrm p lv).1 = p := rfl
theorem Inv.set0 {h : Hd} {σ : St} {ρ : Rho} {ow : Ow} {i : Nat} {p : P} {d : D} {us : List Nat} (I : Inv h σ ρ ow) (q : Rp h p d us) (hu : ∀ r ∈ us, ow r = none) : Inv h (σ.set i (some d)) (ρ.set i (some (nrm p 0))) ow := by
  refine ⟨by simp [I.len], fun j p' lv e => ?_, I.own, by rw [List.length_set]; exact I.small⟩
  by_cases hij : i = j
  · subst hij
    by_cases hl : i < ρ.length
    · rw [List.getElem?_set_self hl] at e
      injection e with e; injection e with e
      unfold nrm at e
      injection e with e1 e2
      subst e1
      refine ⟨d, us, by rw [List.getElem?_set_self (by rw [← I.len]; exact hl)], q, ?_⟩
      cases hs : p.scal with
      | true =>
        obtain ⟨rfl, _⟩ := q.scal hs
        rw [hs] at e2
        exact ⟨fun _ => by simp, (by intro z; rw [← e2] at z; cases z), fun _ _ => by simp⟩
      | false =>
        rw [hs] at e2
        exact ⟨(by intro z; rw [← e2] at z; cases z), (by intro z; rw [← e2] at z; cases z), fun _ _ => hu⟩
    · rw [List.getElem?_eq_none (by simpa using hl)] at e; cases e
  · rw [List.getElem?_set_ne hij] at e
    obtain ⟨d', us', e1, q', l⟩ := I.rep j p' lv e
    exact ⟨d', us', by rw [List.getElem?_set_ne hij]; exact e1, q', l⟩
mutual
theorem asg0 {h : Hd} {ow : Ow} : ∀ {t : Tg} {p : P} {ρ ρ' : Rho} {σ : St} {d : D} {us : List Nat}, asgP t p 0 ρ = some ρ' → Inv h σ ρ ow → Rp h p d us → (∀ r ∈ us, ow r = none) → ∃ σ', asg t d σ = some σ' ∧ Inv h σ' ρ' ow
  | .nm i, p, ρ, ρ', σ, d, us, e, I, q, hu => by
    obtain ⟨hg, rfl⟩ := grd_some (show grd (decide (i < ρ.length)) _ = some ρ' from e)
    refine ⟨σ.set i (some d), ?_, I.set0 q hu⟩
    show (if i < σ.length then some (σ.set i (some d)) else none) = _
    rw [if_pos (by rw [← I.len]; exact of_decide_eq_true hg)]
  | .tp ts, p, ρ, ρ', σ, d, us, e, I, q, hu => by
    cases p with
    | tup ps =>
      obtain ⟨ds, rfl, q1⟩ := rp_tup.mp q
      exact asgs0 (show asgPs ts ps 0 ρ = some ρ' from e) I q1 hu
    | _ => cases e
theorem asgs0 {h : Hd} {ow : Ow} : ∀ {ts : List Tg} {ps : List P} {ρ ρ' : Rho} {σ : St} {ds : List D} {us : List Nat}, asgPs ts ps 0 ρ = some ρ' → Inv h σ ρ ow → Rps h ps ds us → (∀ r ∈ us, ow r = none) → ∃ σ', asgs ts ds σ = some σ' ∧ Inv h σ' ρ' ow
  | [], [], ρ, ρ', σ, ds, us, e, I, q, hu => by
    cases e
    rw [Rps] at q
    obtain ⟨rfl, _⟩ := q
    exact ⟨σ, rfl, I⟩
  | [], _ :: _, ρ, ρ', σ, ds, us, e, I, q, hu => by cases e
  | _ :: _, [], ρ, ρ', σ, ds, us, e, I, q, hu => by cases e
  | t :: ts, p :: ps, ρ, ρ', σ, ds, us, e, I, q, hu => by
    obtain ⟨ρ1, e1, e2⟩ := Option.bind_eq_some_iff.mp (show (asgP t p 0 ρ).bind (fun ρ' => asgPs ts ps 0 ρ') = some ρ' from e)
    rw [Rps] at q
    obtain ⟨d, es, vs, ws, rfl, rfl, qa, qb⟩ := q
    obtain ⟨σ1, a1, I1⟩ := asg0 e1 I qa fun r hr => hu r (List.mem_append_left _ hr)
    obtain ⟨σ2, a2, I2⟩ := asgs0 e2 I1 qb fun r hr => hu r (List.mem_append_right _ hr)
    refine ⟨σ2, ?_, I2⟩
    show (asg t d σ).bind (fun σ' => asgs ts es σ') = some σ2
    rw [a1]
    exact a2
end
end U
end

section
set_option maxRecDepth 100000
set_option maxHeartbeats 1000000
/-! Expressions on values without places are right. -/
namespace U
open PySem
/-- what a def's run on values promises -/
def FSnd (F : Nat → List D → M D) (FP : Nat → List P → Option (P × Nat)) : Prop := ∀ f ps r, FP f ps = some r → ∀ (h : Hd) (ds : List D) (us : List Nat), Rps h ps ds us → Rn (F f ds h) fun d h' => FrA h h' ∧ ∃ ws, Rp h' r.1 d ws ∧
  (∀ x ∈ ws, h.length ≤ x ∨ x ∈ us) ∧ (r.2 = 2 → ws.Nodup ∧ ∀ x ∈ ws, h.length ≤ x ∧ Mut h' x) ∧ (r.2 = 1 → ∃ n ws', ws = n :: ws' ∧ h.length ≤ n ∧ n ∉ ws' ∧ Mut h' n)
section
variable {T : Tab} {F : Nat → List D → M D} {FP : Nat → List P → Option (P × Nat)}
def GE (h : Hd) (ow : Ow) (v : PV) (d : D) (h' : Hd) : Prop := FrA h h' ∧ ∃ us, Rp h' v.p d us ∧ Tv h.length ow v.lk v.lv us h'
def GEs (h : Hd) (ow : Ow) (v : PVs) (ds : List D) (h' : Hd) : Prop := FrA h h' ∧ ∃ us, Rps h' v.ps ds us ∧ TvS h.length ow v us h'
/-- what is walked: its items, its guards -/
def GI (h : Hd) (ow : Ow) (v : PVs) (p : List D × Gd) (h' : Hd) : Prop := FrA h h' ∧ (∃ us, Rps h' v.ps p.1 us ∧ ∀ r ∈ us, Ok h.length ow v.lk r) ∧ ∀ q ∈ p.2, h'[q.1]? = some q.2 ∧ Ok h.length ow v.lk q.1
theorem GE.sc {h h' : Hd} {ow : Ow} {p : P} {d : D} (f : FrA h h') (q : Rp h' p d []) : GE h ow ⟨p, 2, []⟩ d h' := ⟨f, [], q, .nil rfl⟩
theorem gd_of {gs : Gd} {h : Hd} (k : ∀ q ∈ gs, h[q.1]? = some q.2) : gdOk gs h = true := List.all_eq_true.mpr fun q hq => decide_eq_true (k q hq)
theorem bl_of {v : PV} {k : Bool} {d : D} {us : List Nat} {h : Hd} (e : v.p = .bl k) (q : Rp h v.p d us) : d = .bl k := by rw [e] at q; exact (rp_bl.mp q).1
theorem int_of {v : PV} {k : Int} {d : D} {us : List Nat} {h : Hd} (e : v.p = .int k) (q : Rp h v.p d us) : d = .int k := by rw [e] at q; exact (rp_int.mp q).1
theorem end_ok {c : CE} {p : P} {d : D} {us : List Nat} {h : Hd} {o : Option Int} (e : endP c p = some o) (q : Rp h p d us) : endC c d = some o := by
  unfold endP at e
  split at e
  · cases e; rfl
  · rename_i i hn
    cases e
    obtain ⟨rfl, _⟩ := rp_int.mp q
    unfold endC
    split
    · exact absurd rfl (hn)
    · rename_i h2; cases h2; rfl
    · rename_i h2; exact absurd rfl (h2 _)
  · cases e
theorem rps_rng (h : Hd) (lo : Int) (n : Nat) : Rps h (rngP lo n) (rngL lo n) [] := by
  have e : rngL lo n = (List.range n).map fun k : Nat => D.int (lo + (k : Int)) := by
    refine List.ext_getElem? fun i => ?_
    by_cases hi : i < n
    · rw [rngL_get n lo i hi, List.getElem?_map, List.getElem?_range hi]; rfl
    · rw [List.getElem?_eq_none (by rw [rngL_len]; omega), List.getElem?_eq_none (by simp; omega)]
  rw [e]
  unfold rngP
  generalize List.range n = l
  induction l with
  | nil => exact .nil
  | cons a l ih => have := Rps.cons (rp_int.mpr ⟨rfl, rfl⟩ : Rp h (.int (lo + (a : Int))) (.int (lo + (a : Int))) []) ih; simpa using this
theorem rps_rngD (h : Hd) (lo : Int) (n : Nat) : Rps h (rngD lo n) (rngK lo (-1) n) [] := by
  have e : rngK lo (-1) n = (List.range n).map fun k : Nat => D.int (lo - (k : Int)) := by
    refine List.ext_getElem? fun i => ?_
    by_cases hi : i < n
    · rw [rngK_get (-1) n lo i hi, List.getElem?_map, List.getElem?_range hi]
      show some (D.int _) = some (D.int _)
      congr 2
      omega
    · rw [List.getElem?_eq_none (by rw [rngK_len]; omega), List.getElem?_eq_none (by simp; omega)]
  rw [e]
  unfold rngD
  generalize List.range n = l
  induction l with
  | nil => exact .nil
  | cons a l ih => have := Rps.cons (rp_int.mpr ⟨rfl, rfl⟩ : Rp h (.int (lo - (a : Int))) (.int (lo - (a : Int))) []) ih; simpa using this
theorem rps_zip {h : Hd} : ∀ {ps qs : List P} {ds es : List D} {us vs : List Nat}, Rps h ps ds us → Rps h qs es vs → ∃ ws, Rps h (zipP ps qs) (zipL ds es) ws ∧ ∀ r ∈ ws, r ∈ us ∨ r ∈ vs
  | [], qs, ds, es, us, vs, a, b => by
    rw [Rps] at a
    obtain ⟨rfl, rfl⟩ := a
    exact ⟨[], by unfold zipP zipL; exact .nil, by simp⟩
  | p :: ps, [], ds, es, us, vs, a, b => by
    rw [Rps] at b
    obtain ⟨rfl, rfl⟩ := b
    rw [Rps] at a
    obtain ⟨d, es', vs', ws, rfl, rfl, qa, qb⟩ := a
    exact ⟨[], by unfold zipP zipL; exact .nil, by simp⟩
  | p :: ps, q :: qs, ds, es, us, vs, a, b => by
    rw [Rps] at a b
    obtain ⟨d, ds', u1, u2, rfl, rfl, qa, qb⟩ := a
    obtain ⟨e, es', v1, v2, rfl, rfl, qc, qd⟩ := b
    obtain ⟨ws, z, hz⟩ := rps_zip qb qd
    refine ⟨(u1 ++ v1) ++ ws, ?_, fun r hr => ?_⟩
    · unfold zipP zipL
      have : Rps h [p, q] [d, e] (u1 ++ v1) := by have := Rps.cons qa (Rps.one qc); simpa using this
      exact .cons (rp_tup.mpr ⟨_, rfl, this⟩) z
    · simp only [List.mem_append] at hr ⊢
      rcases hr with (hr | hr) | hr
      · exact .inl (.inl hr)
      · exact .inr (.inl hr)
      · rcases hz r hr with hr | hr
        · exact .inl (.inr hr)
        · exact .inr (.inr hr)
theorem rps_enm {h : Hd} : ∀ {ps : List P} {ds : List D} {us : List Nat} (i : Nat), Rps h ps ds us → Rps h (enmP i ps) (enmL i ds) us
  | [], ds, us, i, a => by
    rw [Rps] at a
    obtain ⟨rfl, rfl⟩ := a
    unfold enmP enmL; exact .nil
  | p :: ps, ds, us, i, a => by
    rw [Rps] at a
    obtain ⟨d, ds', u1, u2, rfl, rfl, qa, qb⟩ := a
    unfold enmP enmL
    refine .cons (rp_tup.mpr ⟨_, rfl, ?_⟩) (rps_enm (i + 1) qb)
    have := Rps.cons (rp_int.mpr ⟨rfl, rfl⟩ : Rp h (.int (i : Int)) (.int (i : Int)) []) (Rps.one qa)
    simpa using this
theorem seq_ok {x : P} {ps : List P} {d : D} {us : List Nat} {h : Hd} {h0 : Nat} {ow : Ow} {lk : List Nat} (e : seqP x = some ps) (q : Rp h x d us) (hu : ∀ r ∈ us, Ok h0 ow lk r) : Rn (seqE d h) fun p h' => h' = h ∧ (∃ ws, Rps h ps p.1 ws ∧ ∀ r ∈ ws, Ok h0 ow lk r) ∧ (∀ q ∈ p.2, h[q.1]? = some q.2 ∧ Ok h0 ow lk q.1) ∧ isTup d = isTupP x := by
  cases x with
  | tup ps' =>
    cases e
    obtain ⟨ds, rfl, q1⟩ := rp_tup.mp q
    exact ⟨rfl, ⟨us, q1, hu⟩, by simp, rfl⟩
  | lst ps' =>
    cases e
    obtain ⟨n, ds, ws, rfl, hn, q1, rfl⟩ := rp_lst.mp q
    unfold seqE
    dsimp only
    rw [hn]
    refine ⟨rfl, ⟨ws, q1, fun r hr => hu r (List.mem_cons_of_mem _ hr)⟩, fun z hz => ?_, rfl⟩
    have hz : z = (n, .lst ds) := by simpa using hz
    subst hz
    exact ⟨hn, hu n (List.mem_cons_self ..)⟩
  | scr is =>
    cases e
    obtain ⟨n, rfl, hn, rfl⟩ := rp_scr.mp q
    unfold seqE
    dsimp only
    rw [hn]
    refine ⟨rfl, ⟨[], Rps.ints.mpr ⟨rfl, rfl⟩, by simp⟩, fun z hz => ?_, rfl⟩
    have hz : z = (n, .flst (is.map .int)) := by simpa using hz
    subst hz
    exact ⟨hn, hu n (by simp)⟩
  | _ => cases e
theorem walk_ok {x : P} {ps : List P} {d : D} {us : List Nat} {h : Hd} {h0 : Nat} {ow : Ow} {lk : List Nat} (e : walkP x = some ps) (q : Rp h x d us) (hu : ∀ r ∈ us, Ok h0 ow lk r) : Rn (walkE d h) fun p h' => h' = h ∧ (∃ ws, Rps h ps p.1 ws ∧ ∀ r ∈ ws, Ok h0 ow lk r) ∧ (∀ q ∈ p.2, h[q.1]? = some q.2 ∧ Ok h0 ow lk q.1) := by
  have viaSeq : seqP x = some ps → walkE d = seqE d → Rn (walkE d h) fun p h' => h' = h ∧ (∃ ws, Rps h ps p.1 ws ∧ ∀ r ∈ ws, Ok h0 ow lk r) ∧ (∀ q ∈ p.2, h[q.1]? = some q.2 ∧ Ok h0 ow lk q.1) := fun e1 e2 => by
    rw [e2]
    exact (seq_ok e1 q hu).mono fun p h' ⟨a, b, c, _⟩ => ⟨a, b, c⟩
  cases x with
  | str s =>
    obtain ⟨hg, rfl⟩ := grd_some (show grd _ _ = some ps from e)
    obtain ⟨rfl, rfl⟩ := rp_str.mp q
    show Rn (bnd (must _) _ h) _
    rw [rn_bnd, rn_must]
    refine ⟨hg, rfl, ⟨[], ?_, by simp⟩, by simp⟩
    show Rps h (s.map fun c => .str [c]) (s.map fun c => .str [c]) []
    clear hg e viaSeq q
    induction s with
    | nil => exact .nil
    | cons c s ih => have := Rps.cons (rp_str.mpr ⟨rfl, rfl⟩ : Rp h (.str [c]) (.str [c]) []) ih; simpa using this
  | tup ps' => obtain ⟨ds, rfl, _⟩ := rp_tup.mp q; exact viaSeq e rfl
  | lst ps' =>
    obtain ⟨n, ds, ws, rfl, hn, _⟩ := rp_lst.mp q
    exact viaSeq e rfl
  | scr is =>
    obtain ⟨n, rfl, hn, _⟩ := rp_scr.mp q
    exact viaSeq e rfl
  | _ => cases e
theorem bindE' {α β : Type} {o : Option α} {f : α → Option β} {b : β} (h : o.bind f = some b) : ∃ a, o = some a ∧ f a = some b := Option.bind_eq_some_iff.mp h
mutual
theorem dP_ok {h : Hd} : ∀ (d : D) {p : P}, dP d = some p → Rp h p d []
  | .non, p, e => by rw [dP] at e; cases e; exact rp_non.mpr ⟨rfl, rfl⟩
  | .bl b, p, e => by rw [dP] at e; cases e; exact rp_bl.mpr ⟨rfl, rfl⟩
  | .int b, p, e => by rw [dP] at e; cases e; exact rp_int.mpr ⟨rfl, rfl⟩
  | .str b, p, e => by rw [dP] at e; cases e; exact rp_str.mpr ⟨rfl, rfl⟩
  | .tup ds, p, e => by
    rw [dP] at e
    obtain ⟨ps, e1, rfl⟩ := Option.map_eq_some_iff.mp e
    exact rp_tup.mpr ⟨ds, rfl, dPs_ok ds e1⟩
  | .ref n, p, e => by rw [dP] at e; cases e
theorem dPs_ok {h : Hd} : ∀ (ds : List D) {ps : List P}, dPs ds = some ps → Rps h ps ds []
  | [], ps, e => by rw [dPs] at e; cases e; exact .nil
  | d :: ds, ps, e => by
    rw [dPs] at e
    obtain ⟨p, e1, e⟩ := bindE' e
    obtain ⟨qs, e2, rfl⟩ := Option.map_eq_some_iff.mp e
    have := Rps.cons (dP_ok d e1) (dPs_ok (h := h) ds e2)
    simpa using this
end
theorem tyM_of {b : Bm} {x r : P} {xs : List P} {d : D} {us : List Nat} {h : Hd} (hr : bmtP b x xs = some r) (hx : Rp h x d us) : Rn (tyM b d h) fun _ h2 => h2 = h := by
  unfold bmtP at hr
  split at hr
  · split at hr
    · obtain ⟨rfl, _⟩ := rp_str.mp hx
      show Rn (must true h) _
      rw [rn_must]; exact ⟨rfl, rfl⟩
    · cases hr
  · split at hr
    · obtain ⟨n, ds, ws, rfl, hn, q, rfl⟩ := rp_lst.mp hx
      unfold tyM
      dsimp only
      rw [hn]
      exact rfl
    · cases hr
  all_goals first
    | (split at hr
       · obtain ⟨rfl, _⟩ := rp_str.mp hx
         show Rn (must true h) _
         rw [rn_must]
         exact ⟨rfl, rfl⟩
       · cases hr)
    | cases hr
/-- a comprehension's turns -/
theorem turns_ok {h0 : Nat} {ow : Ow} {gs : Gd} {f : D → M (List D)} {g : P → Option (Option PV)} {J : Hd → Prop} (hJ : ∀ h h', J h → FrA h h' → J h')
    (hf : ∀ p d us h x, Rp h p d us → h0 ≤ h.length → (∀ q ∈ gs, h[q.1]? = some q.2) → g p = some x → (∀ r ∈ us, ow r = none) → J h → Rn (f d h) fun vs h' => FrA h h' ∧ match x with
      | some v => ∃ d ws, vs = [d] ∧ Rp h' v.p d ws ∧ Tv h.length ow v.lk v.lv ws h'
      | none => vs = []) :
    ∀ (ps : List P) (ds : List D) (us : List Nat) (h : Hd) (v : PVs), Rps h ps ds us → h0 ≤ h.length → (∀ q ∈ gs, h[q.1]? = some q.2) → (∀ r ∈ us, ow r = none) → J h → compP g ps = some v → Rn (comp gs f ds h) (GEs h ow v)
  | [], ds, us, h, v, q, hh, hg, hu, hm, e => by
    cases e
    rw [Rps] at q
    obtain ⟨rfl, rfl⟩ := q
    unfold comp
    simp only [rn_bnd, rn_gd, rn_ret]
    exact ⟨gd_of hg, .refl, [], .nil, by simp, by simp⟩
  | p :: ps, ds, us, h, v, q, hh, hg, hu, hm, e => by
    obtain ⟨x, e1, e⟩ := bindE' (show (g p).bind _ = some v from e)
    obtain ⟨w, e2, rfl⟩ := Option.map_eq_some_iff.mp e
    rw [Rps] at q
    obtain ⟨d, es, u1, u2, rfl, rfl, qa, qb⟩ := q
    unfold comp
    simp only [rn_bnd, rn_gd, rn_ret, rn_noer]
    refine ⟨gd_of hg, (hf p d u1 h x qa hh hg e1 (fun r hr => hu r (List.mem_append_left _ hr)) hm).mono fun vs h1 ⟨f1, k⟩ => ?_⟩
    have hg1 : ∀ q ∈ gs, h1[q.1]? = some q.2 := fun q hq => (f1.2 _ (List.getElem?_eq_some_iff.mp (hg q hq)).1).trans (hg q hq)
    refine (turns_ok hJ hf ps es u2 h1 w (qb.frA f1) (Nat.le_trans hh f1.1) hg1 (fun r hr => hu r (List.mem_append_right _ hr)) (hJ _ _ hm f1) e2).mono fun ws h2 ⟨f2, us2, r2, t2⟩ => ?_
    refine ⟨f1.trans f2, ?_⟩
    cases x with
    | none =>
      subst k
      exact ⟨us2, r2, ⟨fun r hr => (t2.ok r hr).mono f1.1 fun _ z => z, fun e => ⟨(t2.two e).1, fun r hr => ⟨Nat.le_trans f1.1 ((t2.two e).2 r hr).1, ((t2.two e).2 r hr).2⟩⟩⟩⟩
    | some y =>
      obtain ⟨d', w', rfl, r1, t1⟩ := k
      exact ⟨w' ++ us2, .cons (r1.frA f2) r2, TvS.cons t1 t2 r1.lt f1.1 f2⟩
mutual
theorem evP_ok (hF : FSnd F FP) : ∀ (e : CE) {h : Hd} {σ : St} {ρ : Rho} {ow : Ow} {v : PV}, Inv h σ ρ ow → evP FP e ρ = some v → Rn (evE T F e σ h) (GE h ow v)
  | .var i, h, σ, ρ, ow, v, I, e => by
    obtain ⟨s, e1, rfl⟩ := Option.map_eq_some_iff.mp (show (ρ[i]?.bind id).map (fun s => vr s.1 0 [i]) = some v by rw [evP] at e; exact e)
    obtain ⟨o, e2, e3⟩ := bindE' e1
    cases (show o = some s from e3)
    obtain ⟨d, us, h1, q, l⟩ := I.rep i s.1 s.2 e2
    have hsm : i < BIG := Nat.lt_of_lt_of_le (List.getElem?_eq_some_iff.mp e2).1 I.small
    rw [rn_var, h1]
    refine ⟨.refl, us, vr_tv q ⟨fun r hr => ?_, (by intro z; cases z), (by intro z; cases z)⟩⟩
    by_cases a : s.2 = 2
    · exact .inr (.inr ⟨i, by simp, hsm, (l.1 a).2 r hr⟩)
    · by_cases b : s.2 = 1
      · obtain ⟨n, ws, rfl, w1, w2⟩ := l.2.1 b
        rcases List.mem_cons.mp hr with rfl | hr
        · exact .inr (.inr ⟨i, by simp, hsm, w1⟩)
        · exact .inr (.inl (w2 r hr))
      · exact .inr (.inl (l.2.2 a b r hr))
  | .cst d, h, σ, ρ, ow, v, I, e => by
    obtain ⟨p, e1, rfl⟩ := Option.map_eq_some_iff.mp (show (dP d).map (fun p => vr p 2 []) = some v by rw [evP] at e; exact e)
    rw [rn_cst]
    exact ⟨.refl, [], vr_tv (dP_ok d e1) (.nil rfl)⟩
  | .bin o a b, h, σ, ρ, ow, v, I, e => by
    rw [evP] at e
    obtain ⟨x, e1, e⟩ := bindE' e
    obtain ⟨y, e2, e⟩ := bindE' e
    obtain ⟨r, e3, rfl⟩ := Option.map_eq_some_iff.mp e
    rw [rn_bin]
    refine (evP_ok hF a I e1).mono fun d h1 ⟨f1, us, r1, t1⟩ => (evP_ok hF b (I.fr f1) e2).mono fun d2 h2 ⟨f2, vs, r2, t2⟩ => ?_
    refine (binP_ok e3 (r1.frA f2) r2).mono fun d3 h3 o3 => ?_
    have hu : ∀ w ∈ us ++ vs, w < h2.length ∧ Ok h.length ow (x.lk ++ y.lk) w := fun w hw => by
      rcases List.mem_append.mp hw with hw | hw
      · exact ⟨Nat.lt_of_lt_of_le (r1.lt w hw) f2.1, (t1.ok w hw).mono (Nat.le_refl _) fun i hi => List.mem_append_left _ hi⟩
      · exact ⟨r2.lt w hw, (t2.ok w hw).mono f1.1 fun i hi => List.mem_append_right _ hi⟩
    obtain ⟨f3, ws, r3, t3⟩ := opv_tv (h0 := h.length) (ow := ow) (lk := x.lk ++ y.lk) o3 hu (Nat.le_trans f1.1 f2.1)
    exact ⟨(f1.trans f2).trans f3, ws, r3, t3⟩
  | .neg a, h, σ, ρ, ow, v, I, e => by
    rw [evP] at e
    obtain ⟨x, e1, e⟩ := bindE' e
    rw [rn_neg]
    refine (evP_ok hF a I e1).mono fun d h1 ⟨f1, us, r1, t1⟩ => ?_
    split at e
    · rename_i i hi
      cases e
      rw [int_of hi r1]
      exact .sc f1 (rp_int.mpr ⟨rfl, rfl⟩)
    · cases e
  | .cmp o a b, h, σ, ρ, ow, v, I, e => by
    rw [evP] at e
    obtain ⟨x, e1, e⟩ := bindE' e
    obtain ⟨y, e2, e⟩ := bindE' e
    obtain ⟨r, e3, rfl⟩ := Option.map_eq_some_iff.mp e
    rw [rn_cmp]
    refine (evP_ok hF a I e1).mono fun d h1 ⟨f1, us, r1, t1⟩ => (evP_ok hF b (I.fr f1) e2).mono fun d2 h2 ⟨f2, vs, r2, t2⟩ => ?_
    refine (cmpP_ok e3 (r1.frA f2) r2).mono fun d3 h3 ⟨a3, b3⟩ => ?_
    subst a3 b3
    exact .sc (f1.trans f2) (rp_bl.mpr ⟨rfl, rfl⟩)
  | .chn o p a b c, h, σ, ρ, ow, v, I, e => by
    rw [evP] at e
    obtain ⟨x, e1, e⟩ := bindE' e
    obtain ⟨y, e2, e⟩ := bindE' e
    obtain ⟨k, e3, e⟩ := bindE' e
    rw [rn_chn]
    refine (evP_ok hF a I e1).mono fun d h1 ⟨f1, us, r1, t1⟩ => (evP_ok hF b (I.fr f1) e2).mono fun d2 h2 ⟨f2, vs, r2, t2⟩ => ?_
    refine (cmpP_ok e3 (r1.frA f2) r2).mono fun d3 h3 ⟨a3, b3⟩ => ?_
    subst a3 b3
    cases k with
    | true =>
      obtain ⟨z, e4, e⟩ := bindE' e
      obtain ⟨k, e5, rfl⟩ := Option.map_eq_some_iff.mp e
      dsimp only
      rw [rn_bnd]
      refine (evP_ok hF c (I.fr (f1.trans f2)) e4).mono fun d4 h4 ⟨f4, ws, r4, t4⟩ => ?_
      refine (cmpP_ok e5 (r2.frA f4) r4).mono fun d5 h5 ⟨a5, b5⟩ => ?_
      subst a5 b5
      exact .sc ((f1.trans f2).trans f4) (rp_bl.mpr ⟨rfl, rfl⟩)
    | false =>
      cases e
      exact .sc (f1.trans f2) (rp_bl.mpr ⟨rfl, rfl⟩)
  | .and a b, h, σ, ρ, ow, v, I, e => by
    rw [evP] at e
    obtain ⟨x, e1, e⟩ := bindE' e
    rw [rn_and]
    refine (evP_ok hF a I e1).mono fun d h1 ⟨f1, us, r1, t1⟩ => ?_
    split at e
    · rename_i hk
      rw [bl_of hk r1]
      exact (evP_ok hF b (I.fr f1) e).mono fun d2 h2 ⟨f2, vs, r2, t2⟩ => ⟨f1.trans f2, vs, r2, ⟨fun r hr => (t2.ok r hr).mono f1.1 fun _ z => z, fun z => ⟨(t2.two z).1, fun r hr => ⟨Nat.le_trans f1.1 ((t2.two z).2 r hr).1, ((t2.two z).2 r hr).2⟩⟩, fun z => let ⟨n, ws, a, b, c, d⟩ := t2.one z; ⟨n, ws, a, Nat.le_trans f1.1 b, c, d⟩⟩⟩
    · rename_i hk
      cases e
      rw [bl_of hk r1]
      exact .sc f1 (rp_bl.mpr ⟨rfl, rfl⟩)
    · cases e
  | .or a b, h, σ, ρ, ow, v, I, e => by
    rw [evP] at e
    obtain ⟨x, e1, e⟩ := bindE' e
    rw [rn_or]
    refine (evP_ok hF a I e1).mono fun d h1 ⟨f1, us, r1, t1⟩ => ?_
    split at e
    · rename_i hk
      cases e
      rw [bl_of hk r1]
      exact .sc f1 (rp_bl.mpr ⟨rfl, rfl⟩)
    · rename_i hk
      rw [bl_of hk r1]
      exact (evP_ok hF b (I.fr f1) e).mono fun d2 h2 ⟨f2, vs, r2, t2⟩ => ⟨f1.trans f2, vs, r2, ⟨fun r hr => (t2.ok r hr).mono f1.1 fun _ z => z, fun z => ⟨(t2.two z).1, fun r hr => ⟨Nat.le_trans f1.1 ((t2.two z).2 r hr).1, ((t2.two z).2 r hr).2⟩⟩, fun z => let ⟨n, ws, a, b, c, d⟩ := t2.one z; ⟨n, ws, a, Nat.le_trans f1.1 b, c, d⟩⟩⟩
    · cases e
  | .not a, h, σ, ρ, ow, v, I, e => by
    rw [evP] at e
    obtain ⟨x, e1, e⟩ := bindE' e
    rw [rn_not]
    refine (evP_ok hF a I e1).mono fun d h1 ⟨f1, us, r1, t1⟩ => ?_
    split at e
    · rename_i k hk
      cases e
      rw [bl_of hk r1]
      exact .sc f1 (rp_bl.mpr ⟨rfl, rfl⟩)
    · cases e
  | .ite c a b, h, σ, ρ, ow, v, I, e => by
    rw [evP] at e
    obtain ⟨k, e1, e⟩ := bindE' e
    rw [rn_ite]
    refine (evPT_ok hF c I e1).mono fun k' h1 ⟨f1, ek⟩ => ?_
    subst ek
    have up : ∀ {d2 h2}, GE h1 ow v d2 h2 → GE h ow v d2 h2 := fun {d2 h2} ⟨f2, vs, r2, t2⟩ => ⟨f1.trans f2, vs, r2, ⟨fun r hr => (t2.ok r hr).mono f1.1 fun _ z => z, fun z => ⟨(t2.two z).1, fun r hr => ⟨Nat.le_trans f1.1 ((t2.two z).2 r hr).1, ((t2.two z).2 r hr).2⟩⟩, fun z => let ⟨n, ws, a, b, c, d⟩ := t2.one z; ⟨n, ws, a, Nat.le_trans f1.1 b, c, d⟩⟩⟩
    cases k' with
    | true => rw [if_pos rfl]; exact (evP_ok hF a (I.fr f1) e).mono fun d2 h2 z => up z
    | false => rw [if_neg (by decide)]; exact (evP_ok hF b (I.fr f1) e).mono fun d2 h2 z => up z
  | .tup es, h, σ, ρ, ow, v, I, e => by
    rw [evP] at e
    obtain ⟨x, e1, e⟩ := bindE' e
    obtain ⟨hg, rfl⟩ := grd_some e
    rw [rn_tup]
    refine (evPs_ok hF es I e1).mono fun ds h1 ⟨f1, us, r1, t1⟩ => ?_
    obtain ⟨r2, t2⟩ := tupv_tv r1 t1
    exact ⟨by rw [r1.len]; exact of_decide_eq_true hg, f1, us, r2, t2⟩
  | .lst es, h, σ, ρ, ow, v, I, e => by
    rw [evP] at e
    obtain ⟨x, e1, e⟩ := bindE' e
    obtain ⟨hg, rfl⟩ := grd_some e
    rw [rn_lst]
    refine (evPs_ok hF es I e1).mono fun ds h1 ⟨f1, us, r1, t1⟩ => ?_
    obtain ⟨f2, ws, r2, t2⟩ := lstv_tv r1 t1 f1.1
    exact ⟨by rw [r1.len]; exact of_decide_eq_true hg, f1.trans f2, ws, r2, t2⟩
  | .idx a i, h, σ, ρ, ow, v, I, e => by
    rw [evP] at e
    obtain ⟨x, e1, e⟩ := bindE' e
    obtain ⟨y, e2, e⟩ := bindE' e
    obtain ⟨r, e3, rfl⟩ := Option.map_eq_some_iff.mp e
    rw [rn_idx]
    refine (evP_ok hF a I e1).mono fun d h1 ⟨f1, us, r1, t1⟩ => (evP_ok hF i (I.fr f1) e2).mono fun d2 h2 ⟨f2, vs, r2, t2⟩ => ?_
    refine (idxP_ok e3 (r1.frA f2) r2).mono fun d3 h3 ⟨e4, ws, r3, s3⟩ => ?_
    subst e4
    have t1' : Tv h.length ow x.lk x.lv us h3 := ⟨t1.ok, fun z => ⟨(t1.two z).1, fun r hr => ⟨((t1.two z).2 r hr).1, ((t1.two z).2 r hr).2.fr f2⟩⟩, fun z => let ⟨n, ws, a, b, c, d⟩ := t1.one z; ⟨n, ws, a, b, c, d.fr f2⟩⟩
    obtain ⟨r4, t4⟩ := partv_tv r3 s3 t1'
    exact ⟨f1.trans f2, ws, r4, t4⟩
  | .slc a l u, h, σ, ρ, ow, v, I, e => by
    rw [evP] at e
    obtain ⟨x, e1, e⟩ := bindE' e
    obtain ⟨y, e2, e⟩ := bindE' e
    obtain ⟨lo, e3, e⟩ := bindE' e
    obtain ⟨z, e4, e⟩ := bindE' e
    obtain ⟨hi, e5, e⟩ := bindE' e
    obtain ⟨r, e6, rfl⟩ := Option.map_eq_some_iff.mp e
    rw [rn_slc]
    refine (evP_ok hF a I e1).mono fun d h1 ⟨f1, us, r1, t1⟩ => (evP_ok hF l (I.fr f1) e2).mono fun d2 h2 ⟨f2, vs, r2, t2⟩ => ?_
    rw [end_ok e3 r2, rn_some]
    refine (evP_ok hF u (I.fr (f1.trans f2)) e4).mono fun d3 h3 ⟨f3, ws, r3, t3⟩ => ?_
    rw [end_ok e5 r3, rn_some]
    refine (slcP_ok e6 (r1.frA (f2.trans f3))).mono fun d4 h4 o4 => ?_
    obtain ⟨f4, ws, r4, t4⟩ := opv_tv (h0 := h.length) (ow := ow) (lk := x.lk) o4 (fun w hw => ⟨Nat.lt_of_lt_of_le (r1.lt w hw) (f2.trans f3).1, t1.ok w hw⟩) (f1.trans (f2.trans f3)).1
    exact ⟨((f1.trans f2).trans f3).trans f4, ws, r4, t4⟩
  | .call f es, h, σ, ρ, ow, v, I, e => by
    rw [evP] at e
    obtain ⟨x, e1, e⟩ := bindE' e
    obtain ⟨r, e2, rfl⟩ := Option.map_eq_some_iff.mp e
    rw [rn_call]
    refine (evPs_ok hF es I e1).mono fun ds h1 ⟨f1, us, r1, t1⟩ => ?_
    refine (hF f _ r e2 h1 ds us r1).mono fun d h2 ⟨f2, ws, r2, k1, k2, k3⟩ => ?_
    refine ⟨f1.trans f2, ws, vr_tv r2 ⟨fun w hw => ?_, fun z => ⟨(k2 z).1, fun r hr => ⟨Nat.le_trans f1.1 ((k2 z).2 r hr).1, ((k2 z).2 r hr).2⟩⟩, fun z => let ⟨n, ws, a, b, c, d⟩ := k3 z; ⟨n, ws, a, Nat.le_trans f1.1 b, c, d⟩⟩⟩
    rcases k1 w hw with z | z
    · exact .inl (Nat.le_trans f1.1 z)
    · exact t1.ok w z
  | .blt b es, h, σ, ρ, ow, v, I, e => by
    rw [evP] at e
    obtain ⟨x, e1, e⟩ := bindE' e
    obtain ⟨r, e2, rfl⟩ := Option.map_eq_some_iff.mp e
    rw [rn_blt]
    refine (evPs_ok hF es I e1).mono fun ds h1 ⟨f1, us, r1, t1⟩ => ?_
    refine (bltP_ok (T := T) e2 r1).mono fun d h2 o2 => ?_
    obtain ⟨f3, ws, r3, t3⟩ := opv_tv (h0 := h.length) (ow := ow) (lk := x.lk) o2 (fun w hw => ⟨r1.lt w hw, t1.ok w hw⟩) f1.1
    exact ⟨f1.trans f3, ws, r3, t3⟩
  | .bmt b a es, h, σ, ρ, ow, v, I, e => by
    rw [evP] at e
    obtain ⟨x, e0, e⟩ := bindE' e
    obtain ⟨y, e1, e⟩ := bindE' e
    obtain ⟨r, e2, rfl⟩ := Option.map_eq_some_iff.mp e
    rw [rn_bmt]
    refine (evP_ok hF a I e0).mono fun d h1 ⟨f1, us, r1, t1⟩ => ?_
    have ty : Rn (tyM b d h1) fun _ h' => h' = h1 := by
      -- the method's type, by any arguments
      exact tyM_of e2 r1
    refine ty.mono fun _ h' eh => ?_
    subst eh
    refine (evPs_ok hF es (I.fr f1) e1).mono fun ds h2 ⟨f2, vs, r2, t2⟩ => ?_
    refine (bmtP_ok e2 (r1.frA f2) r2).2.mono fun d h3 o3 => ?_
    obtain ⟨f3, ws, r3, t3⟩ := opv_tv (h0 := h.length) (ow := ow) (lk := y.lk) o3 (fun w hw => ⟨r2.lt w hw, (t2.ok w hw).mono f1.1 fun _ z => z⟩) (f1.trans f2).1
    exact ⟨(f1.trans f2).trans f3, ws, r3, t3⟩
  | .comp own elt t it c, h, σ, ρ, ow, v, I, e => by
    rw [evP] at e
    obtain ⟨w, e1, e⟩ := bindE' e
    obtain ⟨u, e2, e⟩ := bindE' e
    obtain ⟨hg, rfl⟩ := grd_some e
    rw [rn_comp]
    refine (evPI_ok hF it I e1).mono fun p h1 ⟨f1, ⟨us, r1, k1⟩, g1⟩ => ?_
    have I1 := (I.fr f1).drp w.lk
    have clean : ∀ {r}, Ok h.length ow w.lk r → dow w.lk ow r = none := fun {r} k => by
      rcases k with k | k | k
      · cases z : dow w.lk ow r with
        | none => rfl
        | some i => have := (I.own r i (dow_some.mp z).1).lt; omega
      · exact dow_none.mpr (.inl k)
      · exact dow_none.mpr (.inr k)
    refine (turns_ok (h0 := h1.length) (ow := dow w.lk ow) (J := fun h => Inv h σ (drp w.lk ρ) (dow w.lk ow)) (fun h h' a b => a.fr b) (fun p d us h2 x q hh hg2 ex hu fI => ?_) w.ps p.1 us h1 u r1 (Nat.le_refl _) (fun q hq => (g1 q hq).1) (fun r hr => clean (k1 r hr)) I1 e2).mono fun ds h2 ⟨f2, vs, r2, t2⟩ => ?_
    · -- a turn
      obtain ⟨ρ', a1, ex⟩ := bindE' ex
      obtain ⟨σ', a2, I3⟩ := asg0 a1 (fI.wipe own) q hu
      rw [rn_turn, a2, rn_some]
      cases c with
      | none =>
        obtain ⟨y, ey, rfl⟩ := Option.map_eq_some_iff.mp ex
        exact (evP_ok hF elt I3 ey).mono fun d3 h3 ⟨f3, ws, r3, t3⟩ => ⟨f3, d3, ws, rfl, r3, t3⟩
      | some c =>
        obtain ⟨k, ek, ex⟩ := bindE' ex
        dsimp only
        refine (evPT_ok hF c I3 ek).mono fun k' h3 ⟨f3, ek'⟩ => ?_
        subst ek'
        cases k' with
        | true =>
          obtain ⟨y, ey, rfl⟩ := Option.map_eq_some_iff.mp ex
          rw [if_pos rfl]
          exact (evP_ok hF elt (I3.fr f3) ey).mono fun d4 h4 ⟨f4, ws, r4, t4⟩ => ⟨f3.trans f4, d4, ws, rfl, r4, ⟨fun r hr => (t4.ok r hr).mono f3.1 fun _ z => z, fun z => ⟨(t4.two z).1, fun r hr => ⟨Nat.le_trans f3.1 ((t4.two z).2 r hr).1, ((t4.two z).2 r hr).2⟩⟩, fun z => let ⟨n, ws, a, b, c, d⟩ := t4.one z; ⟨n, ws, a, Nat.le_trans f3.1 b, c, d⟩⟩⟩
        | false =>
          cases ex
          rw [if_neg (by decide)]
          exact ⟨f3, rfl⟩
    · have t3 : TvS h.length ow ⟨u.ps, u.two, w.lk ++ u.lk⟩ vs h2 := by
        refine ⟨fun r hr => ?_, fun z => ⟨(t2.two z).1, fun r hr => ⟨Nat.le_trans f1.1 ((t2.two z).2 r hr).1, ((t2.two z).2 r hr).2⟩⟩⟩
        rcases t2.ok r hr with k | k | ⟨i, k1, k2⟩
        · exact .inl (Nat.le_trans f1.1 k)
        · rcases dow_none.mp k with k | ⟨i, k1, k3, k2⟩
          · exact .inr (.inl k)
          · exact .inr (.inr ⟨i, List.mem_append_left _ k1, k3, k2⟩)
        · exact .inr (.inr ⟨i, List.mem_append_right _ k1, k2.1, (dow_some.mp k2.2).1⟩)
      obtain ⟨f3, ws, r3, t4⟩ := lstv_tv (v := ⟨u.ps, u.two, w.lk ++ u.lk⟩) r2 t3 (f1.trans f2).1
      exact ⟨by rw [r2.len]; exact of_decide_eq_true hg, (f1.trans f2).trans f3, ws, r3, t4⟩
  | .dct es, h, σ, ρ, ow, v, I, e => by
    rw [evP] at e
    obtain ⟨x, e1, e⟩ := bindE' e
    obtain ⟨q, e2, e⟩ := bindE' e
    obtain ⟨hg, rfl⟩ := grd_some e
    rw [Bool.and_eq_true, decide_eq_true_eq] at hg
    rw [rn_dct]
    refine (evPs_ok hF es I e1).mono fun ds h1 ⟨f1, us, r1, t1⟩ => ?_
    obtain ⟨kvs, a, b, c, d⟩ := pairsP_ok _ (Nat.le_refl _) e2 r1
    refine ⟨kvs, a, by rw [← List.length_map, b]; exact hg.1, d, ?_⟩
    rw [mrgK_id (by rw [b]; exact hg.2)]
    obtain ⟨f2, ws, r2, t2⟩ := dctv_tv (v := ⟨q.2, x.two, x.lk⟩) b c ⟨t1.ok, t1.two⟩ f1.1
    exact ⟨f1.trans f2, ws, r2, t2⟩
  | .step .., _, _, _, _, _, _, e => (by have e : (none : Option PV) = some _ := e; cases e)
  | .fld .., _, _, _, _, _, _, e => (by have e : (none : Option PV) = some _ := e; cases e)
  | .loc .., _, _, _, _, _, _, e => (by have e : (none : Option PV) = some _ := e; cases e)
  | .mk .., _, _, _, _, _, _, e => (by have e : (none : Option PV) = some _ := e; cases e)
  | .mth .., _, _, _, _, _, _, e => (by have e : (none : Option PV) = some _ := e; cases e)
  | .sup .., _, _, _, _, _, _, e => (by have e : (none : Option PV) = some _ := e; cases e)
  | .lsti .., _, _, _, _, _, _, e => (by have e : (none : Option PV) = some _ := e; cases e)
  | .lam .., _, _, _, _, _, _, e => (by have e : (none : Option PV) = some _ := e; cases e)
  termination_by e => sizeOf e
theorem evPs_ok (hF : FSnd F FP) : ∀ (es : CEs) {h : Hd} {σ : St} {ρ : Rho} {ow : Ow} {v : PVs}, Inv h σ ρ ow → evPs FP es ρ = some v → Rn (evEs T F es σ h) (GEs h ow v)
  | .nil, h, σ, ρ, ow, v, I, e => by
    rw [evPs] at e
    cases e
    exact ⟨.refl, [], .nil, by simp, by simp⟩
  | .cons a es, h, σ, ρ, ow, v, I, e => by
    rw [evPs] at e
    obtain ⟨x, e1, e⟩ := bindE' e
    obtain ⟨w, e2, rfl⟩ := Option.map_eq_some_iff.mp e
    rw [rn_cons]
    refine (evP_ok hF a I e1).mono fun d h1 ⟨f1, us, r1, t1⟩ => (evPs_ok hF es (I.fr f1) e2).mono fun ds h2 ⟨f2, vs, r2, t2⟩ => ?_
    exact ⟨f1.trans f2, us ++ vs, .cons (r1.frA f2) r2, TvS.cons t1 t2 r1.lt f1.1 f2⟩
  termination_by es => sizeOf es
theorem evPT_ok (hF : FSnd F FP) : ∀ (c : CT) {h : Hd} {σ : St} {ρ : Rho} {ow : Ow} {k : Bool}, Inv h σ ρ ow → evPT FP c ρ = some k → Rn (evT T F c σ h) fun k' h' => FrA h h' ∧ k' = k
  | .and a b, h, σ, ρ, ow, k, I, e => by
    rw [evPT] at e
    obtain ⟨x, e1, e⟩ := bindE' e
    rw [rn_tand]
    refine (evPT_ok hF a I e1).mono fun k1 h1 ⟨f1, ek⟩ => ?_
    subst ek
    cases k1 with
    | true => rw [if_pos rfl]; exact (evPT_ok hF b (I.fr f1) e).mono fun k2 h2 ⟨f2, ek⟩ => ⟨f1.trans f2, ek⟩
    | false => rw [if_neg (by decide)]; cases e; exact ⟨f1, rfl⟩
  | .or a b, h, σ, ρ, ow, k, I, e => by
    rw [evPT] at e
    obtain ⟨x, e1, e⟩ := bindE' e
    rw [rn_tor]
    refine (evPT_ok hF a I e1).mono fun k1 h1 ⟨f1, ek⟩ => ?_
    subst ek
    cases k1 with
    | true => rw [if_pos rfl]; cases e; exact ⟨f1, rfl⟩
    | false => rw [if_neg (by decide)]; exact (evPT_ok hF b (I.fr f1) e).mono fun k2 h2 ⟨f2, ek⟩ => ⟨f1.trans f2, ek⟩
  | .not a, h, σ, ρ, ow, k, I, e => by
    rw [evPT] at e
    obtain ⟨x, e1, rfl⟩ := Option.map_eq_some_iff.mp e
    rw [rn_tnot]
    exact (evPT_ok hF a I e1).mono fun k1 h1 ⟨f1, ek⟩ => ⟨f1, by rw [ek]⟩
  | .val a, h, σ, ρ, ow, k, I, e => by
    rw [evPT] at e
    obtain ⟨x, e1, e⟩ := bindE' e
    rw [rn_tval]
    refine (evP_ok hF a I e1).mono fun d h1 ⟨f1, us, r1, t1⟩ => (truP_ok e r1).mono fun k1 h2 ⟨e2, e3⟩ => ?_
    subst e2 e3
    exact ⟨f1, rfl⟩
  termination_by c => sizeOf c
theorem evPI_ok (hF : FSnd F FP) : ∀ (w : Wk) {h : Hd} {σ : St} {ρ : Rho} {ow : Ow} {v : PVs}, Inv h σ ρ ow → evPI FP w ρ = some v → Rn (evI T F w σ h) (GI h ow v)
  | .e a, h, σ, ρ, ow, v, I, e => by
    rw [evPI] at e
    obtain ⟨x, e1, e⟩ := bindE' e
    obtain ⟨ps, e2, rfl⟩ := Option.map_eq_some_iff.mp e
    rw [rn_we]
    refine (evP_ok hF a I e1).mono fun d h1 ⟨f1, us, r1, t1⟩ => (walk_ok e2 r1 t1.ok).mono fun p h2 ⟨e3, a, b⟩ => ?_
    subst e3
    exact ⟨f1, a, b⟩
  | .rng1 a, h, σ, ρ, ow, v, I, e => by
    rw [evPI] at e
    obtain ⟨x, e1, e⟩ := bindE' e
    rw [rn_rng1]
    refine (evP_ok hF a I e1).mono fun d h1 ⟨f1, us, r1, t1⟩ => ?_
    split at e
    · rename_i j hj
      obtain ⟨hg, rfl⟩ := grd_some e
      rw [int_of hj r1]
      dsimp only
      rw [rn_bnd, rn_must]
      exact ⟨hg, f1, ⟨[], rps_rng _ _ _, by simp⟩, by simp⟩
    · cases e
  | .rng2 a b, h, σ, ρ, ow, v, I, e => by
    rw [evPI] at e
    obtain ⟨x, e1, e⟩ := bindE' e
    obtain ⟨y, e2, e⟩ := bindE' e
    rw [rn_rng2]
    refine (evP_ok hF a I e1).mono fun d h1 ⟨f1, us, r1, t1⟩ => (evP_ok hF b (I.fr f1) e2).mono fun d2 h2 ⟨f2, vs, r2, t2⟩ => ?_
    split at e
    · rename_i i j hi hj
      obtain ⟨hg, rfl⟩ := grd_some e
      rw [int_of hi r1, int_of hj r2]
      dsimp only
      rw [rn_bnd, rn_must]
      exact ⟨hg, f1.trans f2, ⟨[], rps_rng _ _ _, by simp⟩, by simp⟩
    · cases e
  | .rng3 a b k, h, σ, ρ, ow, v, I, e => by
    rw [evPI] at e
    obtain ⟨x, e1, e⟩ := bindE' e
    obtain ⟨y, e2, e⟩ := bindE' e
    rw [rn_rng3]
    refine (evP_ok hF a I e1).mono fun d h1 ⟨f1, us, r1, t1⟩ => (evP_ok hF b (I.fr f1) e2).mono fun d2 h2 ⟨f2, vs, r2, t2⟩ => ?_
    split at e
    · rename_i i j hi hj
      obtain ⟨hg, rfl⟩ := grd_some e
      rw [int_of hi r1, int_of hj r2]
      dsimp only
      rw [rn_bnd, rn_must]
      exact ⟨hg, f1.trans f2, ⟨[], rps_rngD _ _ _, by simp⟩, by simp⟩
    · cases e
  | .zip a b, h, σ, ρ, ow, v, I, e => by
    rw [evPI] at e
    obtain ⟨x, e1, e⟩ := bindE' e
    obtain ⟨y, e2, e⟩ := bindE' e
    obtain ⟨ps, e3, e⟩ := bindE' e
    obtain ⟨qs, e4, e⟩ := bindE' e
    obtain ⟨hg, rfl⟩ := grd_some e
    rw [rn_zip]
    refine (evP_ok hF a I e1).mono fun d h1 ⟨f1, us, r1, t1⟩ => (evP_ok hF b (I.fr f1) e2).mono fun d2 h2 ⟨f2, vs, r2, t2⟩ => ?_
    refine (seq_ok (h0 := h.length) (ow := ow) (lk := x.lk ++ y.lk) e3 (r1.frA f2) (fun r hr => (t1.ok r hr).mono (Nat.le_refl _) fun i hi => List.mem_append_left _ hi)).mono fun p h3 ⟨e5, ⟨w1, a1, b1⟩, c1, d1⟩ => ?_
    subst e5
    refine (seq_ok (h0 := h.length) (ow := ow) (lk := x.lk ++ y.lk) e4 r2 (fun r hr => (t2.ok r hr).mono f1.1 fun i hi => List.mem_append_right _ hi)).mono fun p' h4 ⟨e6, ⟨w2, a2, b2⟩, c2, d2'⟩ => ?_
    subst e6
    obtain ⟨ws, z1, z2⟩ := rps_zip a1 a2
    refine ⟨by rw [d1, d2']; exact hg, f1.trans f2, ⟨ws, z1, fun r hr => (z2 r hr).elim (b1 r) (b2 r)⟩, fun q hq => ?_⟩
    exact (List.mem_append.mp hq).elim (c1 q) (c2 q)
  | .enm a, h, σ, ρ, ow, v, I, e => by
    rw [evPI] at e
    obtain ⟨x, e1, e⟩ := bindE' e
    obtain ⟨ps, e3, e⟩ := bindE' e
    obtain ⟨hg, rfl⟩ := grd_some e
    rw [rn_enm]
    refine (evP_ok hF a I e1).mono fun d h1 ⟨f1, us, r1, t1⟩ => ?_
    have ht : isTup d = isTupP x.p := by
      have k := seq_ok e3 r1 t1.ok
      revert k
      cases seqE d h1 with
      | ok p h3 => exact fun k => k.2.2.2
      | er _ _ => exact fun k => k.elim
      | no => exact fun k => k.elim
    refine ⟨by rw [ht]; exact hg, (seq_ok e3 r1 t1.ok).mono fun p h3 ⟨e5, ⟨w1, a1, b1⟩, c1, d1⟩ => ?_⟩
    subst e5
    exact ⟨f1, ⟨w1, rps_enm 0 a1, b1⟩, c1⟩
  | .rev a, h, σ, ρ, ow, v, I, e => by
    rw [evPI] at e
    obtain ⟨x, e1, e⟩ := bindE' e
    obtain ⟨ps, e3, rfl⟩ := Option.map_eq_some_iff.mp e
    rw [rn_rev]
    refine (evP_ok hF a I e1).mono fun d h1 ⟨f1, us, r1, t1⟩ => ?_
    refine (seq_ok e3 r1 t1.ok).mono fun p h3 ⟨e5, ⟨w1, a1, b1⟩, c1, d1⟩ => ?_
    subst e5
    obtain ⟨vs, z1, z2⟩ := a1.rev
    exact ⟨f1, ⟨vs, z1, fun r hr => b1 r (z2.subset hr)⟩, c1⟩
  | .items .., _, _, _, _, _, _, e => (by have e : (none : Option PVs) = some _ := e; cases e)
  | .vals .., _, _, _, _, _, _, e => (by have e : (none : Option PVs) = some _ := e; cases e)
  termination_by w => sizeOf w
end
end
end U
end

section
set_option maxRecDepth 100000
set_option maxHeartbeats 1000000
/-! Statements on values without places. -/
namespace U
open PySem
inductive PR where
  | nx (ρ : Rho)
  | rt (p : P) (lv : Nat)
  | bk (ρ : Rho)
  | ct (ρ : Rho)
  | no
def getP : P → List Nat → Option P
  | p, [] => some p
  | .tup ps, j :: r => ps[j]?.bind fun q => getP q r
  | .lst ps, j :: r => ps[j]?.bind fun q => getP q r
  | .dct _ vs, j :: r => vs[j]?.bind fun q => getP q r
  | _, _ :: _ => none
def setP : P → List Nat → P → Option P
  | _, [], q => some q
  | .tup ps, j :: r, q => ps[j]?.bind fun p0 => (setP p0 r q).map fun p1 => .tup (ps.set j p1)
  | .lst ps, j :: r, q => ps[j]?.bind fun p0 => (setP p0 r q).map fun p1 => .lst (ps.set j p1)
  | .dct ks vs, j :: r, q => vs[j]?.bind fun p0 => (setP p0 r q).map fun p1 => .dct ks (vs.set j p1)
  | _, _ :: _, _ => none
def slotP (ρ : Rho) (i : Nat) : Option (P × Nat) := ρ[i]?.bind id
/-- how much of it is one's own behind a change at a path -/
def lvP (two : Bool) (lv : Nat) (path : List Nat) : Nat := match two with
  | true => lv
  | false => (match path with
    | [] => 1
    | _ => 0)
def canP (lv : Nat) (path : List Nat) : Bool := match lv with
  | 2 => true
  | 1 => (match path with
    | [] => true
    | _ => false)
  | _ => false
/-- what a method makes of a list, and whether it brings nothing of others' -/
def mtdP (b : Bm) (ps : List P) (v : PVs) : Option (List P × Bool) := match b, v.ps with
  | .append, [q] => grd (decide (ps.length < LIM)) (ps ++ [q], q.scal || v.two)
  | .extend, [.lst qs] => grd (decide (ps.length + qs.length ≤ LIM)) (ps ++ qs, P.scals qs)
  | .clear, [] => some ([], true)
  | .reverse, [] => some (ps.reverse, true)
  | .pop, [] => (match ps with
    | [] => none
    | _ => some (ps.dropLast, true))
  | _, _ => none
def isMut : Bm → Bool
  | .append => true
  | .extend => true
  | .clear => true
  | .reverse => true
  | .pop => true
  | _ => false
/-- a value without places is put under a key -/
def putP (ks : List D) (vs : List P) (k : D) (q : P) : List D × List P := match ks.any fun z => D.beq z k with
  | true => (ks, List.zipWith (fun z p => match D.beq z k with | true => q | false => p) ks vs)
  | false => (ks ++ [k], vs ++ [q])
def forP (t : Tg) (body : Rho → PR) : List P → Rho → PR
  | [], ρ => .nx ρ
  | p :: ps, ρ => match asgP t p 0 ρ with
    | none => .no
    | some ρ' => (match body ρ' with
      | .nx ρ2 => forP t body ps ρ2
      | .ct ρ2 => forP t body ps ρ2
      | .bk ρ2 => .nx ρ2
      | r => r)
def whlP (c : Rho → Option Bool) (body : Rho → PR) : Nat → Rho → PR
  | 0, _ => .no
  | n + 1, ρ => match c ρ with
    | some true => (match body ρ with
      | .nx ρ2 => whlP c body n ρ2
      | .ct ρ2 => whlP c body n ρ2
      | .bk ρ2 => .nx ρ2
      | r => r)
    | some false => .nx ρ
    | none => .no
abbrev WF : Nat := 1000000
def oP (o : Option Rho) : PR := match o with
  | some ρ => .nx ρ
  | none => .no
section
variable (FP : Nat → List P → Option (P × Nat))
def pathP : CE → Rho → Option (Nat × List Nat)
  | .var i, _ => some (i, [])
  | .idx a k, ρ => (pathP a ρ).bind fun w => (evP FP k ρ).bind fun kv => (slotP ρ w.1).bind fun s => (getP s.1 w.2).bind fun q => match q, kv.p with
    | .lst ps, .int n => (ixD ps.length n).map fun j => (w.1, w.2 ++ [j])
    | .tup ps, .int n => (ixD ps.length n).map fun j => (w.1, w.2 ++ [j])
    | _, _ => none
  | _, _ => none
def mutP (b : Bm) (a : CE) (es : CEs) (ρ : Rho) : Option Rho :=
  (pathP FP a ρ).bind fun w => (evPs FP es ρ).bind fun v => (slotP ρ w.1).bind fun s => (grd (canP s.2 w.2 && !decide (w.1 ∈ v.lk)) ()).bind fun _ => (getP s.1 w.2).bind fun q => match q with
    | .lst ps => (mtdP b ps v).bind fun r => (setP s.1 w.2 (.lst r.1)).map fun p' => (drp v.lk ρ).set w.1 (some (p', lvP r.2 s.2 w.2))
    | _ => none
def setiP (a k e : CE) (ρ : Rho) : Option Rho :=
  (evP FP e ρ).bind fun v => (pathP FP a ρ).bind fun w => (evP FP k ρ).bind fun kv => (slotP ρ w.1).bind fun s => (grd (canP s.2 w.2 && !decide (w.1 ∈ v.lk)) ()).bind fun _ => (getP s.1 w.2).bind fun q => match q with
    | .lst ps => (match kv.p with
      | .int n => (ixD ps.length n).bind fun j => (setP s.1 w.2 (.lst (ps.set j v.p))).map fun p' => (drp v.lk ρ).set w.1 (some (p', lvP (v.p.scal || v.lv == 2) s.2 w.2))
      | _ => none)
    | .dct ks vs => (keyP kv.p).bind fun k => (grd (v.p.scal && decide (ks.length < LIM)) ()).bind fun _ => (setP s.1 w.2 (.dct (putP ks vs k v.p).1 (putP ks vs k v.p).2)).map fun p' => (drp v.lk ρ).set w.1 (some (p', lvP true s.2 w.2))
    | _ => none
/-- what is told: slots may be given away whole -/
def retP (e : CE) (ρ : Rho) : Option (P × Nat) := match e with
  | .var i => slotP ρ i
  | e => (evP FP e ρ).map fun v => (v.p, v.lv)
/-- x = l.pop(): a last item without places -/
def popP (a : CE) (t : Tg) (ρ : Rho) : Option Rho :=
  (pathP FP a ρ).bind fun w => (slotP ρ w.1).bind fun s => (getP s.1 w.2).bind fun q => match q with
    | .lst ps => (ps[ps.length - 1]?).bind fun y => (grd y.scal ()).bind fun _ => (mutP FP .pop a .nil ρ).bind fun ρ' => asgP t y 0 ρ'
    | _ => none
/-- a value stored -/
def stoP (t : Tg) (e : CE) (ρ : Rho) : Option Rho := match e with
  | .bmt .pop a .nil => popP FP a t ρ
  | e => (evP FP e ρ).bind fun v => asgP t v.p v.lv (drp v.lk ρ)
mutual
def evSP : CS → Rho → PR
  | .set t e, ρ => oP (stoP FP t e ρ)
  | .seti a k e, ρ => oP (setiP FP a k e ρ)
  | .ex e, ρ => (match e with
    | .bmt b a es => (match isMut b with
      | true => oP (mutP FP b a es ρ)
      | false => .no)
    | e => (match evP FP e ρ with
      | some _ => .nx ρ
      | none => .no))
  | .ret e, ρ => (match retP FP e ρ with
    | some r => .rt r.1 r.2
    | none => .no)
  | .ite c a b, ρ => (match evPT FP c ρ with
    | some true => evSPs a ρ
    | some false => evSPs b ρ
    | none => .no)
  | .for_ t w body, ρ => (match evPI FP w ρ with
    | some v => forP t (evSPs body) v.ps (drp v.lk ρ)
    | none => .no)
  | .whl c body, ρ => whlP (evPT FP c) (evSPs body) WF ρ
  | .brk, ρ => .bk ρ
  | .cnt, ρ => .ct ρ
  | .pss, ρ => .nx ρ
  | _, _ => .no
def evSPs : CSs → Rho → PR
  | .nil, ρ => .nx ρ
  | .cons s r, ρ => (match evSP s ρ with
    | .nx ρ' => evSPs r ρ'
    | x => x)
end
def runP (d : CDef) (ps : List P) : Option (P × Nat) := match decide (ps.length = d.ps) with
  | true => (match evSPs FP d.body ((ps.map fun p => some (nrm p 0)) ++ List.replicate (d.sl - d.ps) none) with
    | .nx _ => some (.non, 2)
    | .rt p lv => some (p, lv)
    | _ => none)
  | false => none
end
def callP (fn : Nat → Option CDef) : Nat → Nat → List P → Option (P × Nat)
  | 0, _, _ => none
  | n + 1, f, ps => (fn f).bind fun d => runP (callP fn n) d ps
end U
end

section
set_option maxRecDepth 100000
set_option maxHeartbeats 1000000
/-! Statements on values without places are right. -/
namespace U
open PySem
/-- behind: what nobody here owns is as it was, and nobody's still -/
structure Fo (h : Hd) (ow : Ow) (h' : Hd) (ow' : Ow) : Prop where
  le : h.length ≤ h'.length
  st : ∀ r, r < h.length → (∀ i, ow r = some i → BIG ≤ i) → h'[r]? = h[r]? ∧ ow' r = ow r
theorem Fo.refl {h : Hd} {ow : Ow} : Fo h ow h ow := ⟨Nat.le_refl _, fun _ _ _ => ⟨rfl, rfl⟩⟩
theorem Fo.trans {h h1 h2 : Hd} {ow ow1 ow2 : Ow} (a : Fo h ow h1 ow1) (b : Fo h1 ow1 h2 ow2) : Fo h ow h2 ow2 := ⟨Nat.le_trans a.le b.le, fun r hr k => by
  obtain ⟨e1, e2⟩ := a.st r hr k
  obtain ⟨e3, e4⟩ := b.st r (Nat.lt_of_lt_of_le hr a.le) (by rw [e2]; exact k)
  exact ⟨e3.trans e1, e4.trans e2⟩⟩
theorem Fo.of {h h' : Hd} {ow : Ow} (f : FrA h h') : Fo h ow h' ow := ⟨f.1, fun r hr _ => ⟨f.2 r hr, rfl⟩⟩
theorem Fo.drp {h : Hd} {ow : Ow} {lk : List Nat} : Fo h ow h (dow lk ow) := ⟨Nat.le_refl _, fun r hr k => ⟨rfl, by
  cases e : ow r with
  | none => exact dow_none.mpr (.inl e)
  | some i => exact dow_some.mpr ⟨e, fun z => by have := k i e; omega⟩⟩⟩
/-- own here -/
def Real (ow : Ow) (r : Nat) : Prop := ∃ i, i < BIG ∧ ow r = some i
def Fresh (h : Hd) (ow : Ow) (r : Nat) : Prop := h.length ≤ r ∨ Real ow r
theorem Fresh.back {h h1 : Hd} {ow ow1 : Ow} {r : Nat} (a : Fo h ow h1 ow1) (k : Fresh h1 ow1 r) : Fresh h ow r := by
  rcases k with k | ⟨i, k1, k2⟩
  · exact .inl (Nat.le_trans a.le k)
  · by_cases hr : r < h.length
    · by_cases z : ∀ i, ow r = some i → BIG ≤ i
      · have := (a.st r hr z).2
        rw [k2] at this
        have := z i this.symm
        omega
      · have : ∃ i, ow r = some i ∧ i < BIG := by
          cases e : ow r with
          | none => exact (z fun i hi => by rw [e] at hi; cases hi).elim
          | some j =>
            refine ⟨j, rfl, ?_⟩
            by_cases w : j < BIG
            · exact w
            · exact (z fun i hi => by rw [e] at hi; cases hi; omega).elim
        obtain ⟨j, e, w⟩ := this
        exact .inr ⟨j, w, e⟩
    · exact .inl (by omega)
def Alien (ow : Ow) (r : Nat) : Prop := ∃ i, BIG ≤ i ∧ ow r = some i
def NX (h : Hd) (ow : Ow) (ρ' : Rho) (σ' : St) (h' : Hd) : Prop := ∃ ow', Inv h' σ' ρ' ow' ∧ Fo h ow h' ow'
def RT (h : Hd) (ow : Ow) (p : P) (lv : Nat) (d : D) (h' : Hd) : Prop := ∃ ow' ws, Fo h ow h' ow' ∧ Rp h' p d ws ∧ (∀ x ∈ ws, ¬ Alien ow' x) ∧ (lv = 2 → ws.Nodup ∧ ∀ x ∈ ws, Fresh h ow x) ∧ (lv = 1 → ∃ n ws', ws = n :: ws' ∧ n ∉ ws' ∧ Fresh h ow n)
def PN (r : PR) (h : Hd) (ow : Ow) (σ' : St) (h' : Hd) : Prop := ∃ ρ', r = .nx ρ' ∧ NX h ow ρ' σ' h'
def PRt (r : PR) (h : Hd) (ow : Ow) (d : D) (h' : Hd) : Prop := ∃ p lv, r = .rt p lv ∧ RT h ow p lv d h'
def PC (r : PR) (h : Hd) (ow : Ow) (σ' : St) (h' : Hd) : Prop := ∃ ρ', r = .ct ρ' ∧ NX h ow ρ' σ' h'
def PB' (r : PR) (h : Hd) (ow : Ow) (σ' : St) (h' : Hd) : Prop := ∃ ρ', r = .bk ρ' ∧ NX h ow ρ' σ' h'
abbrev SOk (r : PR) (h : Hd) (ow : Ow) (s : SR) : Prop := Sn s (PN r h ow) (PRt r h ow) (PC r h ow) (PB' r h ow)
section
variable {h h1 h' : Hd} {ow ow1 : Ow} {ρ : Rho} {σ : St} {r : PR}
theorem NX.back {ρ' : Rho} {σ' : St} (a : Fo h ow h1 ow1) (k : NX h1 ow1 ρ' σ' h') : NX h ow ρ' σ' h' := let ⟨o, i, f⟩ := k; ⟨o, i, a.trans f⟩
theorem RT.back {p : P} {lv : Nat} {d : D} (a : Fo h ow h1 ow1) (k : RT h1 ow1 p lv d h') : RT h ow p lv d h' :=
  let ⟨o, ws, f, q, w, k2, k1⟩ := k
  ⟨o, ws, a.trans f, q, w, fun z => ⟨(k2 z).1, fun x hx => ((k2 z).2 x hx).back a⟩, fun z => let ⟨n, ws', e, m, g⟩ := k1 z; ⟨n, ws', e, m, g.back a⟩⟩
theorem SOk.back {s : SR} (a : Fo h ow h1 ow1) (k : SOk r h1 ow1 s) : SOk r h ow s :=
  Sn.mono k (fun _ _ ⟨ρ', e, q⟩ => ⟨ρ', e, q.back a⟩) (fun _ _ ⟨p, lv, e, q⟩ => ⟨p, lv, e, q.back a⟩) (fun _ _ ⟨ρ', e, q⟩ => ⟨ρ', e, q.back a⟩) fun _ _ ⟨ρ', e, q⟩ => ⟨ρ', e, q.back a⟩
/-! ### storing -/
/-- a new value, one's own as told, is stored -/
theorem Inv.setN {i : Nat} {p : P} {lv : Nat} {d : D} {us : List Nat} (I : Inv h σ ρ ow) (f : FrA h h') (hi : i < ρ.length) (q : Rp h' p d us) (hu : ∀ r ∈ us, h.length ≤ r ∨ ow r = none)
    (h2 : lv = 2 → us.Nodup ∧ ∀ r ∈ us, h.length ≤ r) (h1 : lv = 1 → ∃ n ws, us = n :: ws ∧ h.length ≤ n ∧ n ∉ ws) : ∃ ow', Inv h' (σ.set i (some d)) (ρ.set i (some (nrm p lv))) ow' ∧ Fo h ow h' ow' := by
  have hsm : i < BIG := Nat.lt_of_lt_of_le hi I.small
  have nn : ∀ r, h.length ≤ r → ow r = none := fun r hr => by
    cases e : ow r with
    | none => rfl
    | some j => have := (I.own r j e).lt; omega
  -- who owns what is stored
  obtain ⟨ow', ho, hl⟩ : ∃ ow' : Ow, (∀ r, r < h.length → ow' r = ow r) ∧ (∀ r j, ow' r = some j → (ow r = some j ∨ (j = i ∧ r ∈ us))) ∧ Lv ow' i (nrm p lv).2 us := by
    unfold nrm
    cases hs : p.scal with
    | true =>
      obtain ⟨rfl, _⟩ := q.scal hs
      exact ⟨ow, fun _ _ => rfl, fun r j e => .inl e, fun _ => by simp, (by intro z; cases z), fun _ _ => by simp⟩
    | false =>
      dsimp only
      by_cases e2 : lv = 2
      · obtain ⟨a, b⟩ := h2 e2
        refine ⟨fun r => if r ∈ us then some i else ow r, fun r hr => if_neg fun z => by have := b r z; omega, fun r j e => ?_, fun _ => ⟨a, fun r hr => if_pos hr⟩, fun z => by omega, fun z _ => (z e2).elim⟩
        dsimp only at e
        split at e
        · rename_i z; cases e; exact .inr ⟨rfl, z⟩
        · exact .inl e
      · by_cases e1 : lv = 1
        · obtain ⟨n, ws, rfl, hn, hnw⟩ := h1 e1
          refine ⟨fun r => if r = n then some i else ow r, fun r hr => if_neg fun z => by omega, fun r j e => ?_, fun z => (e2 z).elim, fun _ => ⟨n, ws, rfl, if_pos rfl, fun r hr => ?_⟩, fun _ z => (z e1).elim⟩
          · dsimp only at e
            split at e
            · rename_i z; cases e; exact .inr ⟨rfl, by rw [z]; simp⟩
            · exact .inl e
          · show (if r = n then some i else ow r) = none
            rw [if_neg (fun z => by subst z; exact hnw hr)]
            rcases hu r (List.mem_cons_of_mem _ hr) with z | z
            · exact nn r z
            · exact z
        · refine ⟨ow, fun _ _ => rfl, fun r j e => .inl e, fun z => (e2 z).elim, fun z => (e1 z).elim, fun _ _ r hr => ?_⟩
          rcases hu r hr with z | z
          · exact nn r z
          · exact z
  refine ⟨ow', ⟨by simp [I.len], fun j p' lv' e => ?_, fun r j e => ?_, by rw [List.length_set]; exact I.small⟩, ⟨f.1, fun r hr _ => ⟨f.2 r hr, ho r hr⟩⟩⟩
  · by_cases hij : i = j
    · subst hij
      rw [List.getElem?_set_self hi] at e
      injection e with e; injection e with e
      have e1 : p = p' := congrArg Prod.fst e
      have e2 : (nrm p lv).2 = lv' := congrArg Prod.snd e
      subst e1
      exact ⟨d, us, by rw [List.getElem?_set_self (by rw [← I.len]; exact hi)], q, by rw [← e2]; exact hl.2⟩
    · rw [List.getElem?_set_ne hij] at e
      obtain ⟨d', us', e1, q', l⟩ := I.rep j p' lv' e
      refine ⟨d', us', by rw [List.getElem?_set_ne hij]; exact e1, q'.frA f, ?_⟩
      have same : ∀ r ∈ us', ow' r = ow r := fun r hr => ho r (q'.lt r hr)
      refine ⟨fun z => ⟨(l.1 z).1, fun r hr => (same r hr).trans ((l.1 z).2 r hr)⟩, fun z => ?_, fun a b r hr => (same r hr).trans (l.2.2 a b r hr)⟩
      obtain ⟨n, ws, rfl, w1, w2⟩ := l.2.1 z
      exact ⟨n, ws, rfl, (same n (by simp)).trans w1, fun r hr => (same r (by simp [hr])).trans (w2 r hr)⟩
  · rcases hl.1 r j e with z | ⟨_, z⟩
    · exact (I.own r j z).fr f
    · exact q.lt r z
theorem clean_of {lk : List Nat} {r : Nat} (I : Inv h σ ρ ow) (k : Ok h.length ow lk r) : h.length ≤ r ∨ dow lk ow r = none := by
  rcases k with k | k | k
  · exact .inl k
  · exact .inr (dow_none.mpr (.inl k))
  · exact .inr (dow_none.mpr (.inr k))
theorem asgN {t : Tg} {v : PV} {ρ' : Rho} {d : D} (e : asgP t v.p v.lv (drp v.lk ρ) = some ρ') (I : Inv h σ ρ ow) (g : GE h ow v d h') : ∃ σ', asg t d σ = some σ' ∧ NX h ow ρ' σ' h' := by
  obtain ⟨f, us, q, tv⟩ := g
  have J := I.drp v.lk
  have hu : ∀ r ∈ us, h.length ≤ r ∨ dow v.lk ow r = none := fun r hr => clean_of I (tv.ok r hr)
  cases t with
  | nm i =>
    obtain ⟨hg, rfl⟩ := grd_some (show grd (decide (i < (drp v.lk ρ).length)) _ = some ρ' from e)
    have hi := of_decide_eq_true hg
    obtain ⟨ow', I', F'⟩ := J.setN f hi q hu (fun z => ⟨(tv.two z).1, fun r hr => ((tv.two z).2 r hr).1⟩) (fun z => let ⟨n, ws, a, b, c, _⟩ := tv.one z; ⟨n, ws, a, b, c⟩)
    refine ⟨σ.set i (some d), ?_, ow', I', Fo.drp.trans F'⟩
    show (if i < σ.length then some (σ.set i (some d)) else none) = _
    rw [if_pos (by rw [← I.len, ← drp_len v.lk ρ]; exact hi)]
  | tp ts =>
    have J' := J.fr f
    have hz : ∀ r ∈ us, dow v.lk ow r = none := fun r hr => by
      rcases hu r hr with z | z
      · cases e : dow v.lk ow r with
        | none => rfl
        | some j => have := (J.own r j e).lt; omega
      · exact z
    cases hp : v.p with
    | tup ps =>
      rw [hp] at e q
      obtain ⟨ds, rfl, q1⟩ := rp_tup.mp q
      obtain ⟨σ', a1, I'⟩ := asgs0 (show asgPs ts ps 0 (drp v.lk ρ) = some ρ' from e) J' q1 hz
      exact ⟨σ', a1, _, I', Fo.drp.trans (.of f)⟩
    | _ => rw [hp] at e; cases e
/-! ### places within a value -/
def Kid (h : Hd) (d : D) (j : Nat) (d1 : D) : Prop := (∃ ds, d = .tup ds ∧ ds[j]? = some d1) ∨ (∃ n ds, d = .ref n ∧ h[n]? = some (.lst ds) ∧ ds[j]? = some d1) ∨ ∃ n kvs, d = .ref n ∧ h[n]? = some (.dct kvs) ∧ (kvs.map (·.2))[j]? = some d1
def At (h : Hd) : D → List Nat → D → Prop
  | d, [], d' => d' = d
  | d, j :: r, d' => ∃ d1, Kid h d j d1 ∧ At h d1 r d'
theorem Kid.fr {d d1 : D} {j : Nat} (k : Kid h d j d1) (f : FrA h h') : Kid h' d j d1 := by
  rcases k with k | ⟨n, ds, e, a, b⟩ | ⟨n, ds, e, a, b⟩
  · exact .inl k
  · exact .inr (.inl ⟨n, ds, e, (f.2 n (List.getElem?_eq_some_iff.mp a).1).trans a, b⟩)
  · exact .inr (.inr ⟨n, ds, e, (f.2 n (List.getElem?_eq_some_iff.mp a).1).trans a, b⟩)
theorem At.fr {path : List Nat} : ∀ {d d' : D}, At h d path d' → FrA h h' → At h' d path d' := by
  induction path with
  | nil => intro d d' k f; exact k
  | cons j r ih => intro d d' k f; obtain ⟨d1, a, b⟩ := k; exact ⟨d1, a.fr f, ih b f⟩
theorem At.snoc {path : List Nat} {j : Nat} : ∀ {d d1 d' : D}, At h d path d1 → Kid h d1 j d' → At h d (path ++ [j]) d' := by
  induction path with
  | nil => intro d d1 d' k a; cases (show d1 = d from k); exact ⟨d', a, rfl⟩
  | cons i r ih => intro d d1 d' k a; obtain ⟨d2, b, c⟩ := k; exact ⟨d2, b, ih c a⟩
theorem rps_split {ps : List P} {ds : List D} {us : List Nat} {j : Nat} {p0 : P} : Rps h ps ds us → ps[j]? = some p0 → ∃ d0 A us0 B, ds[j]? = some d0 ∧ us = A ++ us0 ++ B ∧ Rp h p0 d0 us0 ∧
    ∀ h' q us', Rp h' q d0 us' → (∀ r ∈ A ++ B, h'[r]? = h[r]?) → Rps h' (ps.set j q) ds (A ++ us' ++ B) := by
  induction ps generalizing ds us j with
  | nil => intro _ e; simp at e
  | cons p ps ih =>
    intro k e
    rw [Rps] at k
    obtain ⟨d, es, vs, ws, rfl, rfl, qa, qb⟩ := k
    cases j with
    | zero =>
      simp at e; subst e
      refine ⟨d, [], vs, ws, by simp, by simp, qa, fun h' q us' z f => ?_⟩
      simp only [List.set_cons_zero, List.nil_append]
      exact .cons z (qb.fr fun r hr => f r (by simpa using hr))
    | succ j =>
      obtain ⟨d0, A, us0, B, e1, e2, q0, k⟩ := ih qb (by simpa using e)
      refine ⟨d0, vs ++ A, us0, B, by simpa using e1, by rw [e2]; simp, q0, fun h' q us' z f => ?_⟩
      simp only [List.set_cons_succ]
      have := Rps.cons (qa.fr fun r hr => f r (by simp [hr])) (k h' q us' z fun r hr => f r (by
        rcases List.mem_append.mp hr with hr | hr
        · simp [hr]
        · simp [hr]))
      simpa using this
/-- a part of a value at a path, and the value with another part there -/
theorem Rp.path {path : List Nat} : ∀ {p : P} {d d' : D} {us : List Nat} {q0 : P}, Rp h p d us → getP p path = some q0 → At h d path d' → ∃ A us0 B, us = A ++ us0 ++ B ∧ Rp h q0 d' us0 ∧
    ∀ h' q us', Rp h' q d' us' → (∀ r ∈ A ++ B, h'[r]? = h[r]?) → ∃ p', setP p path q = some p' ∧ Rp h' p' d (A ++ us' ++ B) := by
  induction path with
  | nil =>
    intro p d d' us q0 k e a
    have e : some p = some q0 := by cases p <;> exact e
    cases e
    cases (show d' = d from a)
    exact ⟨[], us, [], by simp, k, fun h' q us' z f => ⟨q, by cases p <;> rfl, by simpa using z⟩⟩
  | cons j r ih =>
    intro p d d' us q0 k e a
    obtain ⟨d1, a1, a2⟩ := a
    cases p with
    | tup ps =>
      obtain ⟨p0, e1, e2⟩ := bindE' (show ps[j]?.bind (fun q => getP q r) = some q0 from e)
      obtain ⟨ds, rfl, q⟩ := rp_tup.mp k
      obtain ⟨d0, A, us0, B, e3, e4, q3, k3⟩ := rps_split q e1
      have ed : d1 = d0 := by
        rcases a1 with ⟨ds', z, w⟩ | ⟨n, ds', z, _⟩ | ⟨n, ds', z, _⟩
        · cases z; rw [e3] at w; cases w; rfl
        · cases z
        · cases z
      subst ed
      obtain ⟨A', us1, B', e5, q5, k5⟩ := ih q3 e2 a2
      refine ⟨A ++ A', us1, B' ++ B, by rw [e4, e5]; simp, q5, fun h' q us' z f => ?_⟩
      obtain ⟨p1, z1, z2⟩ := k5 h' q us' z fun r hr => f r (by
        rcases List.mem_append.mp hr with hr | hr <;> simp [hr])
      refine ⟨.tup (ps.set j p1), by show ps[j]?.bind _ = _; rw [e1]; show (setP p0 r q).map _ = _; rw [z1]; rfl, rp_tup.mpr ⟨ds, rfl, ?_⟩⟩
      have := k3 h' p1 _ z2 fun r hr => f r (by rcases List.mem_append.mp hr with hr | hr <;> simp [hr])
      simpa using this
    | lst ps =>
      obtain ⟨p0, e1, e2⟩ := bindE' (show ps[j]?.bind (fun q => getP q r) = some q0 from e)
      obtain ⟨n, ds, ws, rfl, hn, q, rfl⟩ := rp_lst.mp k
      obtain ⟨d0, A, us0, B, e3, e4, q3, k3⟩ := rps_split q e1
      have ed : d1 = d0 := by
        rcases a1 with ⟨ds', z, w⟩ | ⟨m, ds', z, w1, w2⟩ | ⟨m, ds', z, w1, w2⟩
        · cases z
        · cases z; rw [hn] at w1; cases w1; rw [e3] at w2; cases w2; rfl
        · cases z; rw [hn] at w1; cases w1
      subst ed
      obtain ⟨A', us1, B', e5, q5, k5⟩ := ih q3 e2 a2
      refine ⟨n :: (A ++ A'), us1, B' ++ B, by rw [e4, e5]; simp, q5, fun h' q us' z f => ?_⟩
      obtain ⟨p1, z1, z2⟩ := k5 h' q us' z fun r hr => f r (by
        rcases List.mem_append.mp hr with hr | hr <;> simp [hr])
      refine ⟨.lst (ps.set j p1), by show ps[j]?.bind _ = _; rw [e1]; show (setP p0 r q).map _ = _; rw [z1]; rfl, ?_⟩
      have := k3 h' p1 _ z2 fun r hr => f r (by rcases List.mem_append.mp hr with hr | hr <;> simp [hr])
      refine rp_lst.mpr ⟨n, ds, _, rfl, (f n (by simp)).trans hn, this, by simp⟩
    | dct ks qs =>
      obtain ⟨p0, e1, e2⟩ := bindE' (show qs[j]?.bind (fun q => getP q r) = some q0 from e)
      obtain ⟨n, kvs, ws, rfl, hn, hk, q, rfl⟩ := rp_dct.mp k
      obtain ⟨d0, A, us0, B, e3, e4, q3, k3⟩ := rps_split q e1
      have ed : d1 = d0 := by
        rcases a1 with ⟨ds', z, w⟩ | ⟨m, ds', z, w1, w2⟩ | ⟨m, ds', z, w1, w2⟩
        · cases z
        · cases z; rw [hn] at w1; cases w1
        · cases z; rw [hn] at w1; cases w1; rw [e3] at w2; cases w2; rfl
      subst ed
      obtain ⟨A', us1, B', e5, q5, k5⟩ := ih q3 e2 a2
      refine ⟨n :: (A ++ A'), us1, B' ++ B, by rw [e4, e5]; simp, q5, fun h' q us' z f => ?_⟩
      obtain ⟨p1, z1, z2⟩ := k5 h' q us' z fun r hr => f r (by
        rcases List.mem_append.mp hr with hr | hr <;> simp [hr])
      refine ⟨.dct ks (qs.set j p1), by show qs[j]?.bind _ = _; rw [e1]; show (setP p0 r q).map _ = _; rw [z1]; rfl, ?_⟩
      have := k3 h' p1 _ z2 fun r hr => f r (by rcases List.mem_append.mp hr with hr | hr <;> simp [hr])
      refine rp_dct.mpr ⟨n, kvs, _, rfl, (f n (by simp)).trans hn, hk, this, by simp⟩
    | _ => cases e
variable {T : Tab} {F : Nat → List D → M D} {FP : Nat → List P → Option (P × Nat)}
theorem kid_of {q : P} {d : D} {us : List Nat} {j : Nat} {ps : List P} (hq : q = .lst ps ∨ q = .tup ps) (k : Rp h q d us) (hj : j < ps.length) : ∃ d1, Kid h d j d1 ∧ ∀ (n : Int), ixD ps.length n = some j → Rn (idxE d (.int n) h) fun x h' => x = d1 ∧ h' = h := by
  rcases hq with rfl | rfl
  · obtain ⟨n, ds, ws, rfl, hn, q, rfl⟩ := rp_lst.mp k
    have hl := q.len
    obtain ⟨d1, hd⟩ : ∃ d1, ds[j]? = some d1 := ⟨ds[j]'(by omega), by simp [hl, hj]⟩
    refine ⟨d1, .inr (.inl ⟨n, ds, rfl, hn, hd⟩), fun i hi => ?_⟩
    unfold idxE
    dsimp only
    rw [hn]
    dsimp only
    rw [hl, hi]
    show Rn (lft ds[j]? h) _
    rw [hd]
    exact ⟨rfl, rfl⟩
  · obtain ⟨ds, rfl, q⟩ := rp_tup.mp k
    have hl := q.len
    obtain ⟨d1, hd⟩ : ∃ d1, ds[j]? = some d1 := ⟨ds[j]'(by omega), by simp [hl, hj]⟩
    refine ⟨d1, .inl ⟨ds, rfl, hd⟩, fun i hi => ?_⟩
    show Rn (lft ((ixD ds.length i).bind fun j => ds[j]?) h) _
    rw [hl, hi]
    show Rn (lft ds[j]? h) _
    rw [hd]
    exact ⟨rfl, rfl⟩
theorem ixD_lt {n j : Nat} {k : Int} (e : ixD n k = some j) : j < n := by
  unfold ixD at e
  split at e
  · split at e
    · cases e; omega
    · cases e
  · split at e
    · cases e; omega
    · cases e
theorem pathP_ok (hF : FSnd F FP) : ∀ (a : CE) {h : Hd} {w : Nat × List Nat} {d0 : D}, Inv h σ ρ ow → pathP FP a ρ = some w → σ[w.1]? = some (some d0) → Rn (evE T F a σ h) fun d h' => FrA h h' ∧ At h' d0 w.2 d
  | .var i, h, w, d0, I, e, hd => by
    cases e
    rw [rn_var, hd]
    exact ⟨.refl, rfl⟩
  | .idx a k, h, w, d0, I, e, hd => by
    rw [pathP] at e
    obtain ⟨w0, e1, e⟩ := bindE' e
    obtain ⟨kv, e2, e⟩ := bindE' e
    obtain ⟨s, e3, e⟩ := bindE' e
    obtain ⟨q, e4, e⟩ := bindE' e
    have hw : ∃ ps n j, (q = .lst ps ∨ q = .tup ps) ∧ kv.p = .int n ∧ ixD ps.length n = some j ∧ w = (w0.1, w0.2 ++ [j]) := by
      split at e
      · rename_i ps n hn
        obtain ⟨j, e5, rfl⟩ := Option.map_eq_some_iff.mp e
        exact ⟨ps, n, j, .inl rfl, hn, e5, rfl⟩
      · rename_i ps n hn
        obtain ⟨j, e5, rfl⟩ := Option.map_eq_some_iff.mp e
        exact ⟨ps, n, j, .inr rfl, hn, e5, rfl⟩
      · cases e
    obtain ⟨ps, n, j, hq, hn, hj, rfl⟩ := hw
    rw [rn_idx]
    refine (pathP_ok hF a I e1 hd).mono fun d h1 ⟨f1, a1⟩ => (evP_ok hF k (I.fr f1) e2).mono fun kd h2 ⟨f2, vs, r2, t2⟩ => ?_
    rw [int_of hn r2]
    have I2 := I.fr (f1.trans f2)
    obtain ⟨o, e5, e6⟩ := bindE' e3
    cases (show o = some s from e6)
    obtain ⟨d0', us, e7, q7, _⟩ := I2.rep w0.1 s.1 s.2 e5
    have hd' : σ[w0.1]? = some (some d0) := hd
    rw [hd'] at e7
    cases e7
    obtain ⟨A, us0, B, _, q8, _⟩ := q7.path e4 (a1.fr f2)
    obtain ⟨d1, k1, k2⟩ := kid_of hq q8 (ixD_lt hj)
    refine (k2 n hj).mono fun x h3 ⟨e9, e10⟩ => ?_
    subst e9 e10
    exact ⟨f1.trans f2, At.snoc (a1.fr f2) k1⟩
  | .cst _, _, _, _, _, e, _ => by have e : (none : Option (Nat × List Nat)) = some _ := e; cases e
  | .bin .., _, _, _, _, e, _ => by have e : (none : Option (Nat × List Nat)) = some _ := e; cases e
  | .neg .., _, _, _, _, e, _ => by have e : (none : Option (Nat × List Nat)) = some _ := e; cases e
  | .cmp .., _, _, _, _, e, _ => by have e : (none : Option (Nat × List Nat)) = some _ := e; cases e
  | .chn .., _, _, _, _, e, _ => by have e : (none : Option (Nat × List Nat)) = some _ := e; cases e
  | .and .., _, _, _, _, e, _ => by have e : (none : Option (Nat × List Nat)) = some _ := e; cases e
  | .or .., _, _, _, _, e, _ => by have e : (none : Option (Nat × List Nat)) = some _ := e; cases e
  | .not .., _, _, _, _, e, _ => by have e : (none : Option (Nat × List Nat)) = some _ := e; cases e
  | .ite .., _, _, _, _, e, _ => by have e : (none : Option (Nat × List Nat)) = some _ := e; cases e
  | .tup .., _, _, _, _, e, _ => by have e : (none : Option (Nat × List Nat)) = some _ := e; cases e
  | .lst .., _, _, _, _, e, _ => by have e : (none : Option (Nat × List Nat)) = some _ := e; cases e
  | .dct .., _, _, _, _, e, _ => by have e : (none : Option (Nat × List Nat)) = some _ := e; cases e
  | .slc .., _, _, _, _, e, _ => by have e : (none : Option (Nat × List Nat)) = some _ := e; cases e
  | .step .., _, _, _, _, e, _ => by have e : (none : Option (Nat × List Nat)) = some _ := e; cases e
  | .fld .., _, _, _, _, e, _ => by have e : (none : Option (Nat × List Nat)) = some _ := e; cases e
  | .call .., _, _, _, _, e, _ => by have e : (none : Option (Nat × List Nat)) = some _ := e; cases e
  | .loc .., _, _, _, _, e, _ => by have e : (none : Option (Nat × List Nat)) = some _ := e; cases e
  | .mk .., _, _, _, _, e, _ => by have e : (none : Option (Nat × List Nat)) = some _ := e; cases e
  | .mth .., _, _, _, _, e, _ => by have e : (none : Option (Nat × List Nat)) = some _ := e; cases e
  | .sup .., _, _, _, _, e, _ => by have e : (none : Option (Nat × List Nat)) = some _ := e; cases e
  | .blt .., _, _, _, _, e, _ => by have e : (none : Option (Nat × List Nat)) = some _ := e; cases e
  | .bmt .., _, _, _, _, e, _ => by have e : (none : Option (Nat × List Nat)) = some _ := e; cases e
  | .comp .., _, _, _, _, e, _ => by have e : (none : Option (Nat × List Nat)) = some _ := e; cases e
  | .lsti .., _, _, _, _, e, _ => by have e : (none : Option (Nat × List Nat)) = some _ := e; cases e
  | .lam .., _, _, _, _, e, _ => by have e : (none : Option (Nat × List Nat)) = some _ := e; cases e
  termination_by a => sizeOf a
end
end U
end

section
set_option maxRecDepth 100000
set_option maxHeartbeats 1000000
/-! Statements on values without places are right: changes. -/
namespace U
open PySem
section
variable {h h1 h' : Hd} {ow ow1 : Ow} {ρ : Rho} {σ : St} {r : PR}
variable {T : Tab} {F : Nat → List D → M D} {FP : Nat → List P → Option (P × Nat)}
mutual
theorem rp_unique : ∀ {p : P} {d : D} {u1 u2 : List Nat}, Rp h p d u1 → Rp h p d u2 → u1 = u2
  | .non, _, _, _, a, b => (rp_non.mp a).2.trans (rp_non.mp b).2.symm
  | .bl _, _, _, _, a, b => (rp_bl.mp a).2.trans (rp_bl.mp b).2.symm
  | .int _, _, _, _, a, b => (rp_int.mp a).2.trans (rp_int.mp b).2.symm
  | .str _, _, _, _, a, b => (rp_str.mp a).2.trans (rp_str.mp b).2.symm
  | .raw _, _, _, _, a, b => (rp_raw.mp a).2.trans (rp_raw.mp b).2.symm
  | .tup ps, d, u1, u2, a, b => by
    obtain ⟨ds, rfl, q⟩ := rp_tup.mp a
    obtain ⟨ds', e, q'⟩ := rp_tup.mp b
    cases e
    exact rps_unique q q'
  | .lst ps, d, u1, u2, a, b => by
    obtain ⟨n, ds, ws, rfl, hn, q, rfl⟩ := rp_lst.mp a
    obtain ⟨n', ds', ws', e, hn', q', rfl⟩ := rp_lst.mp b
    cases e
    rw [hn] at hn'
    cases hn'
    rw [rps_unique q q']
  | .scr is, d, u1, u2, a, b => by
    obtain ⟨n, rfl, _, rfl⟩ := rp_scr.mp a
    obtain ⟨n', e, _, rfl⟩ := rp_scr.mp b
    cases e
    rfl
  | .dct ks vs, d, u1, u2, a, b => by
    obtain ⟨n, ds, ws, rfl, hn, _, q, rfl⟩ := rp_dct.mp a
    obtain ⟨n', ds', ws', e, hn', _, q', rfl⟩ := rp_dct.mp b
    cases e
    rw [hn] at hn'
    cases hn'
    rw [rps_unique q q']
theorem rps_unique : ∀ {ps : List P} {ds : List D} {u1 u2 : List Nat}, Rps h ps ds u1 → Rps h ps ds u2 → u1 = u2
  | [], ds, u1, u2, a, b => by rw [Rps] at a b; rw [a.2, b.2]
  | p :: ps, ds, u1, u2, a, b => by
    rw [Rps] at a b
    obtain ⟨d, es, vs, ws, rfl, rfl, qa, qb⟩ := a
    obtain ⟨d', es', vs', ws', e, rfl, qa', qb'⟩ := b
    cases e
    rw [rp_unique qa qa', rps_unique qb qb']
end
theorem getP_nil {p : P} : getP p [] = some p := by cases p <;> rfl
theorem setP_nil {p q : P} : setP p [] q = some q := by cases p <;> rfl
/-- what a changed list is made of: parts of the old one, parts of what came -/
def NewL (h1 : Hd) (ps' : List P) (ds' : List D) (ws wsv : List Nat) (two vtwo : Bool) : Prop := ∃ ws' ws1 ws2, Rps h1 ps' ds' ws' ∧ ws'.Perm (ws1 ++ ws2) ∧ ws1.Sublist ws ∧ ws2.Sublist wsv ∧ (two = true → ws2 = [] ∨ vtwo = true)
/-- an object of one's own is written: h0 the heap in which the slots were told, h1 now, dL the object's place; S: what it holds, by which places -/
theorem mut_gen {h0 h1 : Hd} {w : Nat × List Nat} {s : P × Nat} {d0 dL : D} {Lf Lf' : P} {S : O → List Nat → Prop} {v : PVs} {wsv : List Nat} {two : Bool} {p' : P} (I : Inv h0 σ ρ ow) (f : FrA h0 h1) (hs : slotP ρ w.1 = some s) (hc : (canP s.2 w.2 && !decide (w.1 ∈ v.lk)) = true)
    (hd : σ[w.1]? = some (some d0)) (hat : At h1 d0 w.2 dL) (hg : getP s.1 w.2 = some Lf) (tv : TvS h0.length ow v wsv h1) (hsp : setP s.1 w.2 Lf' = some p') (hlt : ∀ x ∈ wsv, x < h1.length)
    (leaf : ∀ {d us}, Rp h1 Lf d us → ∃ n o ws, d = .ref n ∧ h1[n]? = some o ∧ S o ws ∧ us = n :: ws) (uniq : ∀ {o ws ws'}, S o ws → S o ws' → ws = ws') :
    ∃ n o ws, dL = .ref n ∧ h1[n]? = some o ∧ S o ws ∧ ∀ o' ws' wa wb, (∀ h2 : Hd, h2[n]? = some o' → (∀ x ∈ ws', h2[x]? = h1[x]?) → Rp h2 Lf' (.ref n) (n :: ws')) → ws'.Perm (wa ++ wb) → wa.Sublist ws → wb.Sublist wsv → (two = true → wb = [] ∨ v.two = true) →
      NX h0 ow ((drp v.lk ρ).set w.1 (some (p', lvP two s.2 w.2))) σ (h1.set n o') := by
  rw [Bool.and_eq_true] at hc
  obtain ⟨hc, hnl⟩ := hc
  have hnl : w.1 ∉ v.lk := by simpa using hnl
  obtain ⟨o, e1, e2⟩ := bindE' hs
  cases (show o = some s from e2)
  have hsm : w.1 < BIG := Nat.lt_of_lt_of_le (List.getElem?_eq_some_iff.mp e1).1 I.small
  have hwl : w.1 < ρ.length := (List.getElem?_eq_some_iff.mp e1).1
  obtain ⟨d0', us, e3, q0, lv⟩ := I.rep w.1 s.1 s.2 e1
  rw [hd] at e3
  cases e3
  have q1 := q0.frA f
  obtain ⟨A, us0, B, eu, ql, km⟩ := q1.path hg hat
  obtain ⟨n, oo, ws, rfl, hn, qs, rfl⟩ := leaf ql
  have hn0 : n < h0.length := q0.lt n (by rw [eu]; simp)
  have old : ∀ r ∈ A ++ ws ++ B, r < h0.length := fun r hr => q0.lt r (by rw [eu]; simp at hr ⊢; rcases hr with hr | hr | hr <;> simp [hr])
  -- at the slot's own value
  have atroot : w.2 = [] → s.1 = Lf ∧ us = n :: ws ∧ A = [] ∧ B = [] := fun hp => by
    have e6 : getP s.1 [] = some Lf := by rw [← hp]; exact hg
    rw [getP_nil] at e6
    have e6 := Option.some.inj e6
    have e8 : (D.ref n) = d0 := by
      have := hat
      rw [hp] at this
      exact this
    have q2 := q1
    rw [e6, ← e8] at q2
    obtain ⟨m2, ds2, ws2, ed, hm, qs2, e7⟩ := leaf q2
    cases ed
    rw [hn] at hm
    cases hm
    have := uniq qs qs2
    subst this
    rw [e7] at eu
    have hl := congrArg List.length eu
    simp at hl
    have hA : A = [] := List.length_eq_zero_iff.mp (by omega)
    have hB : B = [] := List.length_eq_zero_iff.mp (by omega)
    exact ⟨e6, e7, hA, hB⟩
  -- the list is owned by the slot
  have own : ow n = some w.1 := by
    unfold canP at hc
    split at hc
    · rename_i e; exact (lv.1 e).2 n (by rw [eu]; simp)
    · rename_i e
      split at hc
      · rename_i hp
        obtain ⟨m, ws1, e5, w1, w2⟩ := lv.2.1 e
        obtain ⟨_, e7, _, _⟩ := atroot hp
        rw [e7] at e5
        cases e5
        exact w1
      · cases hc
    · cases hc
  refine ⟨n, oo, ws, rfl, hn, qs, fun oo' ws' wa wb qn hperm hwa hwb htwo => ?_⟩
  have lv12 : s.2 = 2 ∨ (s.2 = 1 ∧ w.2 = []) := by
    unfold canP at hc
    split at hc
    · rename_i e; exact .inl e
    · rename_i e
      split at hc
      · rename_i hp; exact .inr ⟨e, hp⟩
      · cases hc
    · cases hc
  -- n is not among the rest
  have nA : n ∉ A ++ ws ++ B := by
    rcases lv12 with e | ⟨e, hp⟩
    · have nd := (lv.1 e).1
      rw [eu] at nd
      have pm : (A ++ (n :: ws) ++ B).Perm (n :: (A ++ ws ++ B)) := by
        simp only [List.append_assoc, List.cons_append]
        exact List.perm_middle
      exact (List.nodup_cons.mp (pm.nodup_iff.mp nd)).1
    · obtain ⟨m, ws1, e5, w1, w2⟩ := lv.2.1 e
      obtain ⟨_, e7, hA, hB⟩ := atroot hp
      rw [e7] at e5
      cases e5
      subst hA hB
      intro z
      have := w2 n (by simpa using z)
      rw [own] at this
      cases this
  have nV : n ∉ wsv := fun z => by
    rcases tv.ok n z with k | k | ⟨i, k1, _, k2⟩
    · omega
    · rw [own] at k; cases k
    · rw [own] at k2; cases k2; exact hnl k1
  have mem' : ∀ x ∈ ws', x ∈ ws ∨ x ∈ wsv := fun x hx => by
    rcases List.mem_append.mp (hperm.subset hx) with z | z
    · exact .inl (hwa.subset z)
    · exact .inr (hwb.subset z)
  have nW : n ∉ ws' := fun z => by
    rcases mem' n z with z | z
    · exact nA (by simp [z])
    · exact nV z
  -- the new value
  have same : ∀ x, x ≠ n → (h1.set n oo')[x]? = h1[x]? := fun x hx => List.getElem?_set_ne (Ne.symm hx)
  have hn1 : n < h1.length := (List.getElem?_eq_some_iff.mp hn).1
  obtain ⟨p2, e9, q9⟩ := km (h1.set n oo') Lf' (n :: ws') (qn _ (by rw [List.getElem?_set_self hn1]) fun x hx => same x fun z => nW (z ▸ hx)) fun x hx => same x fun z => nA (by
    subst z
    rcases List.mem_append.mp hx with z | z <;> simp [z])
  rw [hsp] at e9
  cases e9
  have J := I.drp v.lk
  have own' : dow v.lk ow n = some w.1 := dow_some.mpr ⟨own, fun z => hnl z.1⟩
  -- who owns what, behind
  have main : ∀ ow' : Ow, (∀ x, x < h0.length → dow v.lk ow x ≠ some w.1 → ow' x = dow v.lk ow x) → (∀ x j, ow' x = some j → x < h1.length) → Lv ow' w.1 (lvP two s.2 w.2) (A ++ (n :: ws') ++ B) → NX h0 ow ((drp v.lk ρ).set w.1 (some (p', lvP two s.2 w.2))) σ (h1.set n oo') := fun ow' ha hb hl => by
    refine ⟨ow', ⟨by simp [J.len], fun j p lv' e => ?_, fun x j e => by show x < _; rw [List.length_set]; exact hb x j e, by rw [List.length_set]; exact J.small⟩, ⟨by rw [List.length_set]; exact f.1, fun x hx k => ?_⟩⟩
    · by_cases hj : w.1 = j
      · subst hj
        rw [List.getElem?_set_self (by rw [drp_len]; exact hwl)] at e
        cases e
        exact ⟨d0, _, hd, q9, hl⟩
      · rw [List.getElem?_set_ne hj] at e
        obtain ⟨dj, uj, ej, qj, lj⟩ := J.rep j p lv' e
        have nu : ∀ x ∈ uj, dow v.lk ow x ≠ some w.1 := fun x hx z => by
          by_cases a : lv' = 2
          · rw [(lj.1 a).2 x hx] at z; cases z; exact hj rfl
          · by_cases b : lv' = 1
            · obtain ⟨m, wz, rfl, w1, w2⟩ := lj.2.1 b
              rcases List.mem_cons.mp hx with rfl | hx
              · rw [w1] at z; cases z; exact hj rfl
              · rw [w2 x hx] at z; cases z
            · rw [lj.2.2 a b x hx] at z; cases z
        have sm : ∀ x ∈ uj, ow' x = dow v.lk ow x := fun x hx => ha x (qj.lt x hx) (nu x hx)
        refine ⟨dj, uj, ej, (qj.frA f).fr fun x hx => same x fun z => nu x hx (by rw [z]; exact own'), fun z => ⟨(lj.1 z).1, fun x hx => (sm x hx).trans ((lj.1 z).2 x hx)⟩, fun z => ?_, fun a b x hx => (sm x hx).trans (lj.2.2 a b x hx)⟩
        obtain ⟨m, wz, rfl, w1, w2⟩ := lj.2.1 z
        exact ⟨m, wz, rfl, (sm m (by simp)).trans w1, fun x hx => (sm x (by simp [hx])).trans (w2 x hx)⟩
    · have hx1 : ow x ≠ some w.1 := fun z => by have := k w.1 z; omega
      have hd' : dow v.lk ow x = ow x := by
        cases e : ow x with
        | none => exact dow_none.mpr (.inl e)
        | some i => exact dow_some.mpr ⟨e, fun z => by have := k i e; omega⟩
      refine ⟨(same x fun z => by subst z; exact hx1 own).trans (f.2 x hx), ?_⟩
      rw [ha x hx (by rw [hd']; exact hx1), hd']
  have fresh : ∀ x, h0.length ≤ x → dow v.lk ow x = none := fun x hx => by
    cases e : dow v.lk ow x with
    | none => rfl
    | some j => have := (J.own x j e).lt; omega
  have bnd1 : ∀ x j, dow v.lk ow x = some j → x < h1.length := fun x j e => Nat.lt_of_lt_of_le (J.own x j e).lt f.1
  have okv : ∀ x ∈ wsv, dow v.lk ow x = none := fun x hx => by
    rcases tv.ok x hx with k | k | k
    · exact fresh x k
    · exact dow_none.mpr (.inl k)
    · exact dow_none.mpr (.inr k)
  have downed : ∀ x, ow x = some w.1 → dow v.lk ow x = some w.1 := fun x e => dow_some.mpr ⟨e, fun z => hnl z.1⟩
  cases two with
  | true =>
    have hwb2 : ∀ x ∈ wb, h0.length ≤ x := fun x hx => by
      rcases htwo rfl with z | z
      · rw [z] at hx; cases hx
      · exact ((tv.two z).2 x (hwb.subset hx)).1
    rcases lv12 with e | ⟨e, hp⟩
    · -- all of it one's own
      have nd := (lv.1 e).1
      have al := (lv.1 e).2
      refine main (fun x => if x ∈ wb then some w.1 else dow v.lk ow x) (fun x hx _ => if_neg fun z => by have := hwb2 x z; omega) (fun x j e => ?_) ?_
      · split at e
        · rename_i z; exact hlt x (hwb.subset z)
        · exact bnd1 x j e
      · have e2 : lvP true s.2 w.2 = 2 := e
        refine ⟨fun _ => ⟨?_, fun x hx => ?_⟩, (by intro z; rw [e2] at z; cases z), fun z => (z e2).elim⟩
        · have p1 : (A ++ (n :: ws') ++ B).Perm ((A ++ (n :: wa) ++ B) ++ wb) := by
            have p2 : (A ++ (n :: ws') ++ B).Perm (A ++ (n :: (wa ++ wb)) ++ B) := List.Perm.append_right _ (List.Perm.append_left _ (List.Perm.cons _ hperm))
            refine p2.trans ?_
            simp only [List.append_assoc, List.cons_append]
            refine List.Perm.append_left _ (List.Perm.cons _ (List.Perm.append_left _ ?_))
            exact List.perm_append_comm
          refine p1.nodup_iff.mpr (List.nodup_append.mpr ⟨?_, ?_, fun a ha b hb z => ?_⟩)
          · rw [eu] at nd
            exact nd.sublist (List.Sublist.append (List.Sublist.append (List.Sublist.refl _) (List.Sublist.cons_cons _ hwa)) (List.Sublist.refl _))
          · rcases htwo rfl with z | z
            · rw [z]; simp
            · exact (tv.two z).1.sublist hwb
          · subst z
            have h2 := hwb2 a hb
            have h3 : a < h0.length := by
              simp only [List.append_assoc, List.cons_append, List.mem_append, List.mem_cons] at ha
              rcases ha with z | z | z | z
              · exact old a (by simp [z])
              · rw [z]; exact hn0
              · exact old a (by simp [hwa.subset z])
              · exact old a (by simp [z])
            omega
        · show (if x ∈ wb then some w.1 else dow v.lk ow x) = some w.1
          by_cases hxb : x ∈ wb
          · exact if_pos hxb
          · rw [if_neg hxb]
            refine downed x (al x ?_)
            rw [eu]
            simp only [List.append_assoc, List.cons_append, List.mem_append, List.mem_cons] at hx ⊢
            rcases hx with z | z | z | z
            · exact .inl z
            · exact .inr (.inl z)
            · rcases List.mem_append.mp (hperm.subset z) with z | z
              · exact .inr (.inr (.inl (hwa.subset z)))
              · exact (hxb z).elim
            · exact .inr (.inr (.inr z))
    · -- its outer part
      obtain ⟨_, e7, rfl, rfl⟩ := atroot hp
      obtain ⟨m, wz, e5, w1, w2⟩ := lv.2.1 e
      rw [e7] at e5
      cases e5
      refine main (dow v.lk ow) (fun _ _ _ => rfl) bnd1 ?_
      have e2 : lvP true s.2 w.2 = 1 := e
      refine ⟨(by intro z; rw [e2] at z; cases z), fun _ => ⟨n, ws', by simp, own', fun x hx => ?_⟩, fun _ z => (z e2).elim⟩
      rcases mem' x hx with z | z
      · exact dow_none.mpr (.inl (w2 x z))
      · exact okv x z
  | false =>
    by_cases hp : w.2 = []
    · obtain ⟨_, e7, rfl, rfl⟩ := atroot hp
      have e2 : lvP false s.2 w.2 = 1 := by rw [hp]; rfl
      refine main (fun x => if x = n then some w.1 else if dow v.lk ow x = some w.1 then none else dow v.lk ow x) (fun x hx hz => ?_) (fun x j e => ?_) ?_
      · show (if x = n then some w.1 else if dow v.lk ow x = some w.1 then none else dow v.lk ow x) = _
        rw [if_neg (fun z => by subst z; exact hz own'), if_neg hz]
      · split at e
        · rename_i z; subst z; exact hn1
        · split at e
          · cases e
          · exact bnd1 x j e
      · refine ⟨(by intro z; rw [e2] at z; cases z), fun _ => ⟨n, ws', by simp, if_pos rfl, fun x hx => ?_⟩, fun _ z => (z e2).elim⟩
        show (if x = n then some w.1 else if dow v.lk ow x = some w.1 then none else dow v.lk ow x) = none
        rw [if_neg (fun z => by subst z; exact nW hx)]
        rcases mem' x hx with z | z
        · rcases lv12 with e | ⟨e, _⟩
          · rw [if_pos (downed x ((lv.1 e).2 x (by rw [e7]; simp [z])))]
          · obtain ⟨m, wz, e5, w1, w2⟩ := lv.2.1 e
            rw [e7] at e5
            cases e5
            have := dow_none (lk := v.lk).mpr (.inl (w2 x z))
            rw [this]; simp
        · rw [okv x z]; simp
    · have e2 : lvP false s.2 w.2 = 0 := by
        unfold lvP
        cases hq : w.2 with
        | nil => exact (hp hq).elim
        | cons _ _ => rfl
      have lv2 : s.2 = 2 := by
        rcases lv12 with e | ⟨_, e⟩
        · exact e
        · exact (hp e).elim
      refine main (fun x => if dow v.lk ow x = some w.1 then none else dow v.lk ow x) (fun x hx hz => if_neg hz) (fun x j e => ?_) ⟨(by intro z; rw [e2] at z; cases z), (by intro z; rw [e2] at z; cases z), fun _ _ x hx => ?_⟩
      · split at e
        · cases e
        · exact bnd1 x j e
      · show (if dow v.lk ow x = some w.1 then none else dow v.lk ow x) = none
        have al := (lv.1 lv2).2
        simp only [List.append_assoc, List.cons_append, List.mem_append, List.mem_cons] at hx
        have inn : x ∈ us → (if dow v.lk ow x = some w.1 then none else dow v.lk ow x) = none := fun z => if_pos (downed x (al x z))
        rcases hx with z | z | z | z
        · exact inn (by rw [eu]; simp [z])
        · exact inn (by rw [eu]; simp [z])
        · rcases mem' x z with z | z
          · exact inn (by rw [eu]; simp [z])
          · rw [okv x z]; simp
        · exact inn (by rw [eu]; simp [z])
/-- a list of one's own is written: h0 the heap in which the slots were told, h1 now, dL the list's place -/
theorem mut_ok {h0 h1 : Hd} {w : Nat × List Nat} {s : P × Nat} {d0 dL : D} {ps ps' : List P} {v : PVs} {wsv : List Nat} {two : Bool} {p' : P} (I : Inv h0 σ ρ ow) (f : FrA h0 h1) (hs : slotP ρ w.1 = some s) (hc : (canP s.2 w.2 && !decide (w.1 ∈ v.lk)) = true)
    (hd : σ[w.1]? = some (some d0)) (hat : At h1 d0 w.2 dL) (hg : getP s.1 w.2 = some (.lst ps)) (tv : TvS h0.length ow v wsv h1) (hsp : setP s.1 w.2 (.lst ps') = some p') (hlt : ∀ x ∈ wsv, x < h1.length) :
    ∃ n ds ws, dL = .ref n ∧ h1[n]? = some (.lst ds) ∧ Rps h1 ps ds ws ∧ ∀ ds', NewL h1 ps' ds' ws wsv two v.two → NX h0 ow ((drp v.lk ρ).set w.1 (some (p', lvP two s.2 w.2))) σ (h1.set n (.lst ds')) := by
  obtain ⟨n, o, ws, e1, e2, ⟨ds, rfl, qs⟩, fin⟩ := mut_gen (two := two) (Lf := .lst ps) (Lf' := .lst ps') (S := fun o ws => ∃ ds, o = .lst ds ∧ Rps h1 ps ds ws) I f hs hc hd hat hg tv hsp hlt
    (fun q => by obtain ⟨n, ds, ws, a, b, c, e⟩ := rp_lst.mp q; exact ⟨n, _, ws, a, b, ⟨ds, rfl, c⟩, e⟩)
    (fun a b => by obtain ⟨ds, rfl, qa⟩ := a; obtain ⟨ds', e, qb⟩ := b; cases e; exact rps_unique qa qb)
  exact ⟨n, ds, ws, e1, e2, qs, fun ds' ⟨ws', wa, wb, qn, hperm, hwa, hwb, htwo⟩ => fin (.lst ds') ws' wa wb (fun h2 a b => rp_lst.mpr ⟨n, ds', ws', rfl, a, qn.fr b, rfl⟩) hperm hwa hwb htwo⟩
/-- a dict of one's own is written -/
theorem mut_dct {h0 h1 : Hd} {w : Nat × List Nat} {s : P × Nat} {d0 dL : D} {ks ks' : List D} {ps ps' : List P} {v : PVs} {wsv : List Nat} {two : Bool} {p' : P} (I : Inv h0 σ ρ ow) (f : FrA h0 h1) (hs : slotP ρ w.1 = some s) (hc : (canP s.2 w.2 && !decide (w.1 ∈ v.lk)) = true)
    (hd : σ[w.1]? = some (some d0)) (hat : At h1 d0 w.2 dL) (hg : getP s.1 w.2 = some (.dct ks ps)) (tv : TvS h0.length ow v wsv h1) (hsp : setP s.1 w.2 (.dct ks' ps') = some p') (hlt : ∀ x ∈ wsv, x < h1.length) :
    ∃ n kvs ws, dL = .ref n ∧ h1[n]? = some (.dct kvs) ∧ kvs.map (·.1) = ks ∧ Rps h1 ps (kvs.map (·.2)) ws ∧ ∀ kvs' ws' wa wb, kvs'.map (·.1) = ks' → Rps h1 ps' (kvs'.map (·.2)) ws' → ws'.Perm (wa ++ wb) → wa.Sublist ws → wb.Sublist wsv → (two = true → wb = [] ∨ v.two = true) →
      NX h0 ow ((drp v.lk ρ).set w.1 (some (p', lvP two s.2 w.2))) σ (h1.set n (.dct kvs')) := by
  obtain ⟨n, o, ws, e1, e2, ⟨kvs, rfl, hk, qs⟩, fin⟩ := mut_gen (two := two) (Lf := .dct ks ps) (Lf' := .dct ks' ps') (S := fun o ws => ∃ kvs, o = .dct kvs ∧ kvs.map (·.1) = ks ∧ Rps h1 ps (kvs.map (·.2)) ws) I f hs hc hd hat hg tv hsp hlt
    (fun q => by obtain ⟨n, ds, ws, a, b, k, c, e⟩ := rp_dct.mp q; exact ⟨n, _, ws, a, b, ⟨ds, rfl, k, c⟩, e⟩)
    (fun a b => by obtain ⟨ds, rfl, _, qa⟩ := a; obtain ⟨ds', e, _, qb⟩ := b; cases e; exact rps_unique qa qb)
  exact ⟨n, kvs, ws, e1, e2, hk, qs, fun kvs' ws' wa wb hk' qn hperm hwa hwb htwo => fin (.dct kvs') ws' wa wb (fun h2 a b => rp_dct.mpr ⟨n, kvs', ws', rfl, a, hk', qn.fr b, rfl⟩) hperm hwa hwb htwo⟩
end
end U
end

section
set_option maxRecDepth 100000
set_option maxHeartbeats 1000000
/-! Statements and defs on values without places are right. -/
namespace U
open PySem
section
variable {h h1 h' : Hd} {ow ow1 : Ow} {ρ : Rho} {σ : St}
variable {T : Tab} {F : Nat → List D → M D} {FP : Nat → List P → Option (P × Nat)}
theorem TvS.up {h0 h1 : Nat} {v : PVs} {us : List Nat} {h2 : Hd} (t : TvS h1 ow v us h2) (a : h0 ≤ h1) : TvS h0 ow v us h2 := ⟨fun r hr => (t.ok r hr).mono a fun _ z => z, fun z => ⟨(t.two z).1, fun r hr => ⟨Nat.le_trans a ((t.two z).2 r hr).1, ((t.two z).2 r hr).2⟩⟩⟩
theorem oP_nx {o : Option Rho} (hn : oP o ≠ .no) : ∃ ρ', o = some ρ' ∧ oP o = .nx ρ' := by
  cases o with
  | none => exact (hn rfl).elim
  | some ρ' => exact ⟨ρ', rfl, rfl⟩
theorem leaf_at {h0 h1 : Hd} {w : Nat × List Nat} {s : P × Nat} {d0 dL : D} {ps : List P} (I : Inv h0 σ ρ ow) (f : FrA h0 h1) (hs : slotP ρ w.1 = some s) (hd : σ[w.1]? = some (some d0)) (hat : At h1 d0 w.2 dL) (hg : getP s.1 w.2 = some (.lst ps)) : ∃ n ds, dL = .ref n ∧ h1[n]? = some (.lst ds) := by
  obtain ⟨o, e1, e2⟩ := bindE' hs
  cases (show o = some s from e2)
  obtain ⟨d0', us, e3, q0, lv⟩ := I.rep w.1 s.1 s.2 e1
  rw [hd] at e3
  cases e3
  obtain ⟨A, us0, B, eu, ql, km⟩ := (q0.frA f).path hg hat
  obtain ⟨n, ds, ws, rfl, hn, qs, rfl⟩ := rp_lst.mp ql
  exact ⟨n, ds, rfl, hn⟩
theorem slot_d {i : Nat} {s : P × Nat} (I : Inv h σ ρ ow) (hs : slotP ρ i = some s) : ∃ d, σ[i]? = some (some d) := by
  obtain ⟨o, e1, e2⟩ := bindE' hs
  cases (show o = some s from e2)
  obtain ⟨d, us, e, _⟩ := I.rep i s.1 s.2 e1
  exact ⟨d, e⟩
theorem mutP_ok (hF : FSnd F FP) {b : Bm} {a : CE} {es : CEs} {ρ' : Rho} (I : Inv h σ ρ ow) (e : mutP FP b a es ρ = some ρ') (hb : isMut b = true) : Rn (evE T F (.bmt b a es) σ h) fun _ h' => NX h ow ρ' σ h' := by
  unfold mutP at e
  obtain ⟨w, e1, ea⟩ := bindE' e
  obtain ⟨v, e2, eb⟩ := bindE' ea
  obtain ⟨s, e3, ec⟩ := bindE' eb
  obtain ⟨u0, hc0, ed⟩ := bindE' ec
  have hc := (grd_some hc0).1
  obtain ⟨q, e4, ee⟩ := bindE' ed
  clear e ea eb ec ed hc0
  cases q with
  | lst ps =>
    obtain ⟨r, e5, ef⟩ := bindE' ee
    obtain ⟨p', e6, eg⟩ := Option.map_eq_some_iff.mp ef
    subst eg
    clear ee ef
    obtain ⟨d0, hd⟩ := slot_d I e3
    rw [rn_bmt]
    refine (pathP_ok hF a I e1 hd).mono fun dL h1 ⟨f1, a1⟩ => ?_
    obtain ⟨n, ds0, rfl, hn0⟩ := leaf_at I f1 e3 hd a1 e4
    have ty : Rn (tyM b (.ref n) h1) fun _ h2 => h2 = h1 := by
      unfold tyM
      dsimp only
      rw [hn0]
      cases b <;> first | exact rfl | cases hb
    refine ty.mono fun _ h1' eh => ?_
    subst eh
    refine (evPs_ok hF es (I.fr f1) e2).mono fun ds h2 ⟨f2, wsv, rv, tv0⟩ => ?_
    have tv := tv0.up f1.1
    obtain ⟨n', dsL, ws, en, hn, qs, fin⟩ := mut_ok (two := r.2) (ps' := r.1) I (f1.trans f2) e3 hc hd (a1.fr f2) e4 tv e6 rv.lt
    cases en
    have wr : ∀ ds', put n (.lst ds') h2 = .ok () (h2.set n (.lst ds')) := fun ds' => by
      unfold put
      rw [decide_eq_true (List.getElem?_eq_some_iff.mp hn).1]
    have lq : lst? h2 (.ref n) = some (n, dsL) := by
      unfold lst?
      dsimp only
      rw [hn]
    unfold mtdP at e5
    split at e5
    · rename_i p1 hp1
      obtain ⟨hl, rfl⟩ := grd_some e5
      rw [hp1] at rv
      obtain ⟨dq, rfl, rq⟩ := one_ps rv
      unfold bmtE
      dsimp only
      rw [rn_bnd, lq, rn_some, rn_bnd, rn_must]
      refine ⟨by rw [qs.len]; exact hl, ?_⟩
      rw [rn_bnd, wr]
      refine fin _ ⟨ws ++ wsv, ws, wsv, qs.app (.one rq), .refl _, .refl _, .refl _, fun z => ?_⟩
      rcases Bool.or_eq_true_iff.mp z with z | z
      · exact .inl (rq.scal z).1
      · exact .inr z
    · rename_i qs1 hp1
      obtain ⟨hl, rfl⟩ := grd_some e5
      rw [hp1] at rv
      obtain ⟨dq, rfl, rq⟩ := one_ps rv
      obtain ⟨m, es1, wz, rfl, hm, qz, rfl⟩ := rp_lst.mp rq
      have lq2 : lst? h2 (.ref m) = some (m, es1) := by
        unfold lst?
        dsimp only
        rw [hm]
      unfold bmtE
      dsimp only
      rw [rn_bnd, lq, rn_some, rn_bnd, lq2, rn_some, rn_bnd, rn_must]
      refine ⟨by rw [qs.len, qz.len]; exact hl, ?_⟩
      rw [rn_bnd, wr]
      exact fin _ ⟨ws ++ wz, ws, wz, qs.app qz, .refl _, .refl _, List.sublist_cons_self .., fun z => .inl (qz.scal z).1⟩
    · rename_i hp1
      cases e5
      rw [hp1] at rv
      rw [Rps] at rv
      obtain ⟨rfl, rfl⟩ := rv
      unfold bmtE
      dsimp only
      rw [rn_bnd, lq, rn_some, rn_bnd, wr]
      exact fin _ ⟨[], [], [], .nil, .refl _, List.nil_sublist _, .refl _, fun _ => .inl rfl⟩
    · rename_i hp1
      cases e5
      rw [hp1] at rv
      rw [Rps] at rv
      obtain ⟨rfl, rfl⟩ := rv
      obtain ⟨vs, z1, z2⟩ := qs.rev
      unfold bmtE
      dsimp only
      rw [rn_bnd, lq, rn_some, rn_bnd, wr]
      exact fin _ ⟨vs, ws, [], z1, by rw [List.append_nil]; exact z2, .refl _, .refl _, fun _ => .inl rfl⟩
    · rename_i hp1
      rw [hp1] at rv
      rw [Rps] at rv
      obtain ⟨rfl, rfl⟩ := rv
      split at e5
      · cases e5
      · rename_i hne
        cases e5
        obtain ⟨vs, z1, z2⟩ := qs.take (ps.length - 1)
        have hpos : 0 < dsL.length := by
          rw [qs.len]
          cases ps with
          | nil => exact (hne rfl).elim
          | cons _ _ => simp
        unfold bmtE
        dsimp only
        rw [rn_bnd, lq, rn_some, rn_bnd]
        rw [List.getElem?_eq_getElem (show dsL.length - 1 < dsL.length by omega), rn_some, rn_bnd, wr]
        refine fin _ ⟨vs, vs, [], ?_, by simp, z2, .refl _, fun _ => .inl rfl⟩
        rw [List.dropLast_eq_take, List.dropLast_eq_take, qs.len]
        exact z1
    · cases e5
  | _ => cases ee
theorem zip_put {k dv : D} {q : P} {h : Hd} (rq : Rp h q dv []) : ∀ {kvs : List (D × D)} {vs : List P} {ws : List Nat}, Rps h vs (kvs.map (·.2)) ws → ∃ ws', Rps h (List.zipWith (fun z p => match D.beq z k with | true => q | false => p) (kvs.map (·.1)) vs) ((kvs.map fun p => match D.beq p.1 k with | true => (p.1, dv) | false => p).map (·.2)) ws' ∧ ws'.Sublist ws
  | [], vs, ws, r => by
    cases vs with
    | nil => exact ⟨[], .nil, List.nil_sublist _⟩
    | cons p vs =>
      rw [Rps] at r
      obtain ⟨_, _, _, _, e, _⟩ := r
      cases e
  | kv :: kvs, [], ws, r => by
    rw [Rps] at r
    cases r.1
  | kv :: kvs, p :: vs, ws, r => by
    rw [Rps] at r
    obtain ⟨d, es, u1, u2, e, rfl, r1, r2⟩ := r
    cases e
    obtain ⟨w2, z1, z2⟩ := zip_put rq r2
    cases hb : D.beq kv.1 k with
    | true =>
      refine ⟨[] ++ w2, ?_, by rw [List.nil_append]; exact z2.trans (List.sublist_append_right ..)⟩
      simp only [List.map_cons, List.zipWith_cons_cons, hb]
      exact .cons rq z1
    | false =>
      refine ⟨u1 ++ w2, ?_, List.Sublist.append (.refl _) z2⟩
      simp only [List.map_cons, List.zipWith_cons_cons, hb]
      exact .cons r1 z1
theorem putP_ok {h : Hd} {ks : List D} {vs : List P} {kvs : List (D × D)} {ws : List Nat} {k dv : D} {q : P} (hk : kvs.map (·.1) = ks) (r : Rps h vs (kvs.map (·.2)) ws) (rq : Rp h q dv []) : ∃ ws', (putK kvs k dv).map (·.1) = (putP ks vs k q).1 ∧ Rps h (putP ks vs k q).2 ((putK kvs k dv).map (·.2)) ws' ∧ ws'.Sublist ws := by
  subst hk
  have e : ((kvs.map (·.1)).any fun z => D.beq z k) = kvs.any fun p => D.beq p.1 k := by rw [List.any_map]; rfl
  unfold putP putK
  rw [e]
  cases ha : kvs.any fun p => D.beq p.1 k with
  | true =>
    obtain ⟨ws', z1, z2⟩ := zip_put (k := k) rq r
    refine ⟨ws', ?_, z1, z2⟩
    dsimp only
    rw [List.map_map]
    refine List.map_congr_left fun p _ => ?_
    show (match D.beq p.1 k with | true => (p.1, dv) | false => p).1 = p.1
    cases D.beq p.1 k <;> rfl
  | false =>
    refine ⟨ws, by simp, ?_, .refl _⟩
    have := r.app (.one rq)
    simpa using this
theorem setiP_ok (hF : FSnd F FP) {a k_ e : CE} {ρ1 : Rho} (I : Inv h σ ρ ow) (e0 : setiP FP a k_ e ρ = some ρ1) : Rn (evE T F e σ h) fun v h1 => Rn (evE T F a σ h1) fun x h2 => Rn (evE T F k_ σ h2) fun k h3 => Rn (setE x k v h3) fun _ h4 => NX h ow ρ1 σ h4 := by
  unfold setiP at e0
  obtain ⟨v, e1, ea⟩ := bindE' e0
  obtain ⟨w, e2, eb⟩ := bindE' ea
  obtain ⟨kv, e3, ec⟩ := bindE' eb
  obtain ⟨s, e4, ed⟩ := bindE' ec
  obtain ⟨u0, hc0, ee⟩ := bindE' ed
  have hc := (grd_some hc0).1
  obtain ⟨q, e5, ef⟩ := bindE' ee
  clear e0 ea eb ec ed ee hc0
  cases q with
  | lst ps =>
    dsimp only at ef
    obtain ⟨n, hk⟩ : ∃ n, kv.p = .int n := by
      split at ef
      · rename_i n hn; exact ⟨n, hn⟩
      · cases ef
    rw [hk] at ef
    dsimp only at ef
    obtain ⟨j, e6, eg⟩ := bindE' ef
    obtain ⟨p', e7, eh⟩ := Option.map_eq_some_iff.mp eg
    subst eh
    clear ef eg
    obtain ⟨d0, hd⟩ := slot_d I e4
    refine (evP_ok hF e I e1).mono fun dv h1 ⟨f1, wsv, rv, tv⟩ => ?_
    refine (pathP_ok hF a (I.fr f1) e2 hd).mono fun dL h2 ⟨f2, a2⟩ => ?_
    refine (evP_ok hF k_ (I.fr (f1.trans f2)) e3).mono fun dk h3 ⟨f3, wk, rk, tk⟩ => ?_
    have f13 := f1.trans (f2.trans f3)
    have f23 := f2.trans f3
    rw [int_of hk rk]
    have tvs : TvS h.length ow ⟨[v.p], v.lv == 2, v.lk⟩ wsv h3 := ⟨tv.ok, fun z => ⟨(tv.two (beq_iff_eq.mp z)).1, fun r hr => ⟨((tv.two (beq_iff_eq.mp z)).2 r hr).1, ((tv.two (beq_iff_eq.mp z)).2 r hr).2.fr f23⟩⟩⟩
    have rv3 := rv.frA f23
    obtain ⟨m, dsL, ws, rfl, hn, qs, fin⟩ := mut_ok (two := v.p.scal || v.lv == 2) (v := ⟨[v.p], v.lv == 2, v.lk⟩) (ps' := ps.set j v.p) I f13 e4 hc hd (a2.fr f3) e5 tvs e7 rv3.lt
    have hj : j < ps.length := ixD_lt e6
    unfold setE
    dsimp only
    rw [hn]
    dsimp only
    rw [qs.len, e6]
    obtain ⟨A, B, C, ew, qn⟩ := qs.set (d := dv) j rv3 hj
    refine fin _ ⟨A ++ wsv ++ C, A ++ C, wsv, qn, ?_, ?_, .refl _, fun z => ?_⟩
    · simp only [List.append_assoc]
      exact List.Perm.append_left _ List.perm_append_comm
    · rw [ew]
      simp only [List.append_assoc]
      exact List.Sublist.append (.refl _) (List.sublist_append_right ..)
    · rcases Bool.or_eq_true_iff.mp z with z | z
      · exact .inl (rv3.scal z).1
      · exact .inr z
  | dct ks vs =>
    dsimp only at ef
    obtain ⟨k, hk, eg⟩ := bindE' ef
    obtain ⟨_, hg, eh⟩ := bindE' eg
    obtain ⟨p', e7, ei⟩ := Option.map_eq_some_iff.mp eh
    subst ei
    have hg := (grd_some hg).1
    rw [Bool.and_eq_true, decide_eq_true_eq] at hg
    clear ef eg eh
    obtain ⟨d0, hd⟩ := slot_d I e4
    refine (evP_ok hF e I e1).mono fun dv h1 ⟨f1, wsv, rv, tv⟩ => ?_
    refine (pathP_ok hF a (I.fr f1) e2 hd).mono fun dL h2 ⟨f2, a2⟩ => ?_
    refine (evP_ok hF k_ (I.fr (f1.trans f2)) e3).mono fun dk h3 ⟨f3, wk, rk, tk⟩ => ?_
    have f13 := f1.trans (f2.trans f3)
    have f23 := f2.trans f3
    obtain ⟨rfl, _, hkey⟩ := keyP_ok hk rk
    have rv3 := rv.frA f23
    obtain ⟨rfl, _⟩ := rv3.scal hg.1
    have tvs : TvS h.length ow ⟨[v.p], true, v.lk⟩ [] h3 := ⟨by simp, fun _ => by simp⟩
    obtain ⟨m, kvs, ws, rfl, hn, hks, qs, fin⟩ := mut_dct (two := true) (v := ⟨[v.p], true, v.lk⟩) (ks' := (putP ks vs dk v.p).1) (ps' := (putP ks vs dk v.p).2) I f13 e4 hc hd (a2.fr f3) e5 tvs e7 (by simp)
    unfold setE
    dsimp only
    rw [hn]
    dsimp only
    have hlen : kvs.length = ks.length := by rw [← hks, List.length_map]
    rw [hkey, decide_eq_true (show kvs.length < LIM by rw [hlen]; exact hg.2)]
    obtain ⟨ws', z1, z2, z3⟩ := putP_ok hks qs rv3 (k := dk)
    exact fin _ ws' ws' [] z1 z2 (by simp) z3 (.refl _) fun _ => .inl rfl
  | _ => cases ef
theorem pop_ok (hF : FSnd F FP) {a : CE} {ρ' : Rho} {w : Nat × List Nat} {s : P × Nat} {ps : List P} {y : P} (I : Inv h σ ρ ow) (e1 : pathP FP a ρ = some w) (e3 : slotP ρ w.1 = some s) (e4 : getP s.1 w.2 = some (.lst ps)) (hy : ps[ps.length - 1]? = some y) (hs : y.scal = true)
    (e : mutP FP .pop a .nil ρ = some ρ') : Rn (evE T F (.bmt .pop a .nil) σ h) fun d h' => NX h ow ρ' σ h' ∧ Rp h' y d [] := by
  unfold mutP at e
  obtain ⟨w', e1', ea⟩ := bindE' e
  rw [e1] at e1'; cases e1'
  obtain ⟨v, e2, eb⟩ := bindE' ea
  obtain ⟨s', e3', ec⟩ := bindE' eb
  rw [e3] at e3'; cases e3'
  obtain ⟨u0, hc0, ed⟩ := bindE' ec
  have hc := (grd_some hc0).1
  obtain ⟨q, e4', ee⟩ := bindE' ed
  rw [e4] at e4'; cases e4'
  clear e ea eb ec ed hc0
  obtain ⟨r, e5, ef⟩ := bindE' ee
  obtain ⟨p', e6, eg⟩ := Option.map_eq_some_iff.mp ef
  subst eg
  clear ee ef
  have ev : v = ⟨[], true, []⟩ := by rw [evPs] at e2; cases e2; rfl
  subst ev
  obtain ⟨d0, hd⟩ := slot_d I e3
  rw [rn_bmt]
  refine (pathP_ok hF a I e1 hd).mono fun dL h1 ⟨f1, a1⟩ => ?_
  obtain ⟨n, ds0, rfl, hn0⟩ := leaf_at I f1 e3 hd a1 e4
  have ty : Rn (tyM .pop (.ref n) h1) fun _ h2 => h2 = h1 := by
    unfold tyM
    dsimp only
    rw [hn0]
    exact rfl
  refine ty.mono fun _ h1' eh => ?_
  subst eh
  refine (evPs_ok hF .nil (I.fr f1) e2).mono fun ds h2 ⟨f2, wsv, rv, tv0⟩ => ?_
  have tv := tv0.up f1.1
  obtain ⟨n', dsL, ws, en, hn, qs, fin⟩ := mut_ok (two := r.2) (ps' := r.1) I (f1.trans f2) e3 hc hd (a1.fr f2) e4 tv e6 rv.lt
  cases en
  have wr : ∀ ds', put n (.lst ds') h2 = .ok () (h2.set n (.lst ds')) := fun ds' => by
    unfold put
    rw [decide_eq_true (List.getElem?_eq_some_iff.mp hn).1]
  have lq : lst? h2 (.ref n) = some (n, dsL) := by
    unfold lst?
    dsimp only
    rw [hn]
  rw [Rps] at rv
  obtain ⟨rfl, rfl⟩ := rv
  obtain ⟨yd, yv, hyd, ry, _⟩ := qs.get hy
  unfold mtdP at e5
  dsimp only at e5
  cases ps with
  | nil => cases e5
  | cons p0 ps0 =>
    cases e5
    obtain ⟨vs, z1, z2⟩ := qs.take ((p0 :: ps0).length - 1)
    unfold bmtE
    dsimp only
    rw [rn_bnd, lq, rn_some, rn_bnd]
    dsimp only
    rw [qs.len, hyd, rn_some, rn_bnd, wr]
    refine ⟨fin _ ⟨vs, vs, [], ?_, by simp, z2, .refl _, fun _ => .inl rfl⟩, (ry.scal hs).2 _⟩
    rw [List.dropLast_eq_take, List.dropLast_eq_take, qs.len]
    exact z1
theorem sto_ok (hF : FSnd F FP) {t : Tg} {e : CE} {ρ' : Rho} (I : Inv h σ ρ ow) (e0 : stoP FP t e ρ = some ρ') : Rn (evE T F e σ h) fun d h' => Rn (lft (asg t d σ) h') fun σ' h2 => NX h ow ρ' σ' h2 := by
  have gen : ∀ {e : CE}, (evP FP e ρ).bind (fun v => asgP t v.p v.lv (drp v.lk ρ)) = some ρ' → Rn (evE T F e σ h) fun d h' => Rn (lft (asg t d σ) h') fun σ' h2 => NX h ow ρ' σ' h2 := fun {e} e0 => by
    obtain ⟨v, e1, e2⟩ := bindE' e0
    refine (evP_ok hF e I e1).mono fun d h1 g => ?_
    obtain ⟨σ', a, n⟩ := asgN e2 I g
    rw [a, rn_some]
    exact n
  unfold stoP at e0
  split at e0
  · rename_i a
    unfold popP at e0
    obtain ⟨w, e1, ea⟩ := bindE' e0
    obtain ⟨s, e3, eb⟩ := bindE' ea
    obtain ⟨q, e4, ec⟩ := bindE' eb
    cases q with
    | lst ps =>
      dsimp only at ec
      obtain ⟨y, hy, ed⟩ := bindE' ec
      obtain ⟨_, hs0, ee⟩ := bindE' ed
      obtain ⟨ρ1, em, ef⟩ := bindE' ee
      refine (pop_ok hF I e1 e3 e4 hy (grd_some hs0).1 em).mono fun d h1 ⟨⟨ow1, I1, F1⟩, ry⟩ => ?_
      obtain ⟨σ', a1, I2⟩ := asg0 ef I1 ry (by simp)
      rw [a1, rn_some]
      exact ⟨ow1, I2, F1⟩
    | _ => cases ec
  · exact gen e0
/-! ### statements -/
theorem real_not {ow : Ow} {x : Nat} (k : ow x = none ∨ ∃ i, i < BIG ∧ ow x = some i) : ¬ Alien ow x := fun ⟨i, h1, h2⟩ => by
  rcases k with k | ⟨j, k1, k2⟩
  · rw [k] at h2; cases h2
  · rw [k2] at h2; cases h2; omega
theorem retP_ok (hF : FSnd F FP) {e : CE} {r : P × Nat} (I : Inv h σ ρ ow) (e0 : retP FP e ρ = some r) : Rn (evE T F e σ h) fun d h' => RT h ow r.1 r.2 d h' := by
  have gen : ∀ {v : PV} {e : CE}, evP FP e ρ = some v → Rn (evE T F e σ h) fun d h' => RT h ow v.p v.lv d h' := fun {v e} e1 => by
    refine (evP_ok hF e I e1).mono fun d h1 ⟨f1, us, q, t⟩ => ?_
    refine ⟨ow, us, .of f1, q, fun x hx => real_not ?_, fun z => ⟨(t.two z).1, fun x hx => .inl ((t.two z).2 x hx).1⟩, fun z => let ⟨n, ws, a, b, c, _⟩ := t.one z; ⟨n, ws, a, c, .inl b⟩⟩
    rcases t.ok x hx with k | k | ⟨i, _, k1, k2⟩
    · left
      cases e : ow x with
      | none => rfl
      | some j => have := (I.own x j e).lt; omega
    · exact .inl k
    · exact .inr ⟨i, k1, k2⟩
  have viaE : (evP FP e ρ).map (fun v => (v.p, v.lv)) = some r → Rn (evE T F e σ h) fun d h' => RT h ow r.1 r.2 d h' := fun e1 => by
    obtain ⟨v, e2, rfl⟩ := Option.map_eq_some_iff.mp e1
    exact gen e2
  unfold retP at e0
  split at e0
  · rename_i i
    obtain ⟨o, e1, e2⟩ := bindE' e0
    cases (show o = some r from e2)
    obtain ⟨d, us, e3, q, l⟩ := I.rep i r.1 r.2 e1
    have hsm : i < BIG := Nat.lt_of_lt_of_le (List.getElem?_eq_some_iff.mp e1).1 I.small
    rw [rn_var, e3]
    refine ⟨ow, us, .refl, q, fun x hx => real_not ?_, fun z => ⟨(l.1 z).1, fun x hx => .inr ⟨i, hsm, (l.1 z).2 x hx⟩⟩, fun z => ?_⟩
    · by_cases a : r.2 = 2
      · exact .inr ⟨i, hsm, (l.1 a).2 x hx⟩
      · by_cases b : r.2 = 1
        · obtain ⟨n, ws, rfl, w1, w2⟩ := l.2.1 b
          rcases List.mem_cons.mp hx with rfl | hx
          · exact .inr ⟨i, hsm, w1⟩
          · exact .inl (w2 x hx)
        · exact .inl (l.2.2 a b x hx)
    · obtain ⟨n, ws, rfl, w1, w2⟩ := l.2.1 z
      exact ⟨n, ws, rfl, (by intro y; rw [w2 n y] at w1; cases w1), .inr ⟨i, hsm, w1⟩⟩
  · exact viaE e0
theorem for_ok {t : Tg} {body : Rho → PR} {b : CSs} {gs : Gd} (hb : ∀ {h : Hd} {σ : St} {ρ : Rho} {ow : Ow}, Inv h σ ρ ow → body ρ ≠ .no → SOk (body ρ) h ow (evSs T F b σ h)) :
    ∀ (ps : List P) {ds : List D} {us : List Nat} {h : Hd} {σ : St} {ρ : Rho} {ow : Ow}, Inv h σ ρ ow → Rps h ps ds us → (∀ r ∈ us, ow r = none) → (∀ q ∈ gs, h[q.1]? = some q.2 ∧ ow q.1 = none) → forP t body ps ρ ≠ .no → SOk (forP t body ps ρ) h ow (forL gs (bodyF T F t b) ds σ h)
  | [], ds, us, h, σ, ρ, ow, I, q, hu, hg, hn => by
    rw [Rps] at q
    obtain ⟨rfl, rfl⟩ := q
    unfold forL
    rw [gd_of fun q hq => (hg q hq).1]
    exact ⟨ρ, rfl, ow, I, .refl⟩
  | p :: ps, ds, us, h, σ, ρ, ow, I, q, hu, hg, hn => by
    rw [Rps] at q
    obtain ⟨d, es, u1, u2, rfl, rfl, qa, qb⟩ := q
    unfold forL
    rw [gd_of fun q hq => (hg q hq).1]
    dsimp only
    unfold forP at hn ⊢
    cases ea : asgP t p 0 ρ with
    | none => rw [ea] at hn; exact (hn rfl).elim
    | some ρ' =>
      rw [ea] at hn
      dsimp only at hn ⊢
      obtain ⟨σ', a1, I'⟩ := asg0 ea I qa fun r hr => hu r (List.mem_append_left _ hr)
      have eb : bodyF T F t b d σ h = evSs T F b σ' h := by unfold bodyF; rw [a1]
      rw [eb]
      have hbn : body ρ' ≠ .no := fun z => by rw [z] at hn; exact hn rfl
      have k := hb I' hbn
      have rest : ∀ {ρ2 : Rho} {σ2 : St} {h2 : Hd}, NX h ow ρ2 σ2 h2 → forP t body ps ρ2 ≠ .no → SOk (forP t body ps ρ2) h ow (forL gs (bodyF T F t b) es σ2 h2) := fun {ρ2 σ2 h2} ⟨ow2, I2, F2⟩ hn2 => by
        have un : ∀ r, r < h.length → ow r = none → h2[r]? = h[r]? ∧ ow2 r = none := fun r hr e => by
          obtain ⟨z1, z2⟩ := F2.st r hr fun i z => by rw [e] at z; cases z
          exact ⟨z1, z2.trans e⟩
        refine SOk.back F2 (for_ok hb ps I2 (qb.fr fun r hr => (un r (qb.lt r hr) (hu r (List.mem_append_right _ hr))).1) (fun r hr => (un r (qb.lt r hr) (hu r (List.mem_append_right _ hr))).2) (fun q hq => ?_) hn2)
        obtain ⟨z1, z2⟩ := hg q hq
        obtain ⟨z3, z4⟩ := un q.1 (List.getElem?_eq_some_iff.mp z1).1 z2
        exact ⟨z3.trans z1, z4⟩
      cases es' : evSs T F b σ' h with
      | nx σ2 h2 =>
        rw [es'] at k
        obtain ⟨ρ2, e2, n2⟩ := k
        rw [e2] at hn ⊢
        exact rest n2 hn
      | ct σ2 h2 =>
        rw [es'] at k
        obtain ⟨ρ2, e2, n2⟩ := k
        rw [e2] at hn ⊢
        exact rest n2 hn
      | bk σ2 h2 =>
        rw [es'] at k
        obtain ⟨ρ2, e2, n2⟩ := k
        rw [e2] at hn ⊢
        exact ⟨ρ2, rfl, n2⟩
      | rt v h2 =>
        rw [es'] at k
        obtain ⟨p2, lv2, e2, n2⟩ := k
        rw [e2] at hn ⊢
        exact ⟨p2, lv2, rfl, n2⟩
      | er _ _ _ => rw [es'] at k; exact k.elim
      | no => rw [es'] at k; exact k.elim
theorem whlP_succ {c : Rho → Option Bool} {body : Rho → PR} {n : Nat} {ρ : Rho} : whlP c body (n + 1) ρ = match c ρ with
    | some true => (match body ρ with
      | .nx ρ2 => whlP c body n ρ2
      | .ct ρ2 => whlP c body n ρ2
      | .bk ρ2 => .nx ρ2
      | r => r)
    | some false => .nx ρ
    | none => .no := rfl
theorem whl_ok {c : CT} {body : Rho → PR} {b : CSs} (hF : FSnd F FP) (hb : ∀ {h : Hd} {σ : St} {ρ : Rho} {ow : Ow}, Inv h σ ρ ow → body ρ ≠ .no → SOk (body ρ) h ow (evSs T F b σ h)) {n : Nat} (I : Inv h σ ρ ow) (hn : whlP (evPT FP c) body n ρ ≠ .no) : SOk (whlP (evPT FP c) body n ρ) h ow (whl (evT T F c) (evSs T F b) σ h) := by
  refine whl_inv (fun m σ' h' => ∃ ρ' ow', Inv h' σ' ρ' ow' ∧ Fo h ow h' ow' ∧ whlP (evPT FP c) body m ρ' = whlP (evPT FP c) body n ρ) n ⟨ρ, ow, I, .refl, rfl⟩ ?_
  rintro m σ1 h1 ⟨ρ1, ow1, I1, F1, e1⟩
  rw [← e1] at hn ⊢
  cases m with
  | zero => exact (hn rfl).elim
  | succ m =>
    rw [whlP_succ] at hn ⊢
    cases ec : evPT FP c ρ1 with
    | none => rw [ec] at hn; exact (hn rfl).elim
    | some k =>
      rw [ec] at hn
      refine (evPT_ok hF c I1 ec).mono fun k' h2 ⟨f2, ek⟩ => ?_
      subst ek
      have I2 := I1.fr f2
      have F2 : Fo h ow h2 ow1 := F1.trans (.of f2)
      cases k' with
      | false =>
        rw [if_neg (by decide)]
        exact ⟨ρ1, rfl, ow1, I2, F2⟩
      | true =>
        rw [if_pos rfl]
        dsimp only at hn ⊢
        have hbn : body ρ1 ≠ .no := fun z => by rw [z] at hn; exact hn rfl
        have k := hb I2 hbn
        cases es' : evSs T F b σ1 h2 with
        | nx σ2 h3 =>
          rw [es'] at k
          obtain ⟨ρ2, e2, ow3, I3, F3⟩ := k
          rw [e2]
          exact ⟨m, Nat.lt_succ_self m, ρ2, ow3, I3, F2.trans F3, rfl⟩
        | ct σ2 h3 =>
          rw [es'] at k
          obtain ⟨ρ2, e2, ow3, I3, F3⟩ := k
          rw [e2]
          exact ⟨m, Nat.lt_succ_self m, ρ2, ow3, I3, F2.trans F3, rfl⟩
        | bk σ2 h3 =>
          rw [es'] at k
          obtain ⟨ρ2, e2, n2⟩ := k
          rw [e2]
          exact ⟨ρ2, rfl, n2.back F2⟩
        | rt v h3 =>
          rw [es'] at k
          obtain ⟨p2, lv2, e2, n2⟩ := k
          rw [e2]
          exact ⟨p2, lv2, rfl, n2.back F2⟩
        | er _ _ _ => rw [es'] at k; exact k.elim
        | no => rw [es'] at k; exact k.elim
mutual
theorem stP_ok (hF : FSnd F FP) (hT : T.wh = whl) : ∀ (s : CS) {h : Hd} {σ : St} {ρ : Rho} {ow : Ow}, Inv h σ ρ ow → evSP FP s ρ ≠ .no → SOk (evSP FP s ρ) h ow (evS T F s σ h)
  | .set t e, h, σ, ρ, ow, I, hn => by
    rw [evSP] at hn ⊢
    obtain ⟨ρ', e0, e3⟩ := oP_nx hn
    rw [e3]
    rw [SOk, sn_set]
    exact (sto_ok hF I e0).mono fun d h1 z => z.mono fun σ' h2 n => ⟨ρ', rfl, n⟩
  | .seti a k e, h, σ, ρ, ow, I, hn => by
    rw [evSP] at hn ⊢
    obtain ⟨ρ', e2, e3⟩ := oP_nx hn
    rw [e3]
    rw [SOk, sn_seti]
    exact (setiP_ok hF I e2).mono fun _ _ z => z.mono fun _ _ z => z.mono fun _ _ z => z.mono fun _ _ z => ⟨ρ', rfl, z⟩
  | .ex e, h, σ, ρ, ow, I, hn => by
    have pl : ∀ {r : PR}, r = (match evP FP e ρ with | some _ => .nx ρ | none => .no) → r ≠ .no → SOk r h ow (evS T F (.ex e) σ h) := fun {r} er hn => by
      subst er
      cases e1 : evP FP e ρ with
      | none => rw [e1] at hn; exact (hn rfl).elim
      | some v =>
        dsimp only
        rw [SOk, sn_ex]
        exact (evP_ok hF e I e1).mono fun d h1 ⟨f, _⟩ => ⟨ρ, rfl, ow, I.fr f, .of f⟩
    cases e with
    | bmt b a es =>
      rw [evSP] at hn ⊢
      cases hb : isMut b with
      | false => rw [hb] at hn; exact (hn rfl).elim
      | true =>
        rw [hb] at hn
        obtain ⟨ρ', e2, e3⟩ := oP_nx hn
        rw [e3]
        rw [SOk, sn_ex]
        exact (mutP_ok hF I e2 hb).mono fun _ _ z => ⟨ρ', rfl, z⟩
    | _ => exact pl rfl hn
  | .ret e, h, σ, ρ, ow, I, hn => by
    rw [evSP] at hn ⊢
    cases e1 : retP FP e ρ with
    | none => rw [e1] at hn; exact (hn rfl).elim
    | some r =>
      dsimp only
      rw [SOk, sn_ret]
      exact (retP_ok hF I e1).mono fun d h1 k => ⟨r.1, r.2, rfl, k⟩
  | .ite c a b, h, σ, ρ, ow, I, hn => by
    rw [evSP] at hn ⊢
    cases e1 : evPT FP c ρ with
    | none => rw [e1] at hn; exact (hn rfl).elim
    | some k =>
      rw [e1] at hn
      rw [SOk, sn_ite]
      refine (evPT_ok hF c I e1).mono fun k' h1 ⟨f, ek⟩ => ?_
      subst ek
      cases k' with
      | true => rw [if_pos rfl]; exact SOk.back (.of f) (stsP_ok hF hT a (I.fr f) hn)
      | false => rw [if_neg (by decide)]; exact SOk.back (.of f) (stsP_ok hF hT b (I.fr f) hn)
  | .for_ t w b, h, σ, ρ, ow, I, hn => by
    rw [evSP] at hn ⊢
    cases e1 : evPI FP w ρ with
    | none => rw [e1] at hn; exact (hn rfl).elim
    | some v =>
      rw [e1] at hn
      dsimp only at hn ⊢
      rw [SOk, sn_for]
      refine (evPI_ok hF w I e1).mono fun p h1 ⟨f, ⟨us, q, k⟩, g⟩ => ?_
      have J := (I.fr f).drp v.lk
      have clean : ∀ {r}, Ok h.length ow v.lk r → dow v.lk ow r = none := fun {r} k => by
        rcases k with k | k | k
        · cases z : dow v.lk ow r with
          | none => rfl
          | some i => have := (I.own r i (dow_some.mp z).1).lt; omega
        · exact dow_none.mpr (.inl k)
        · exact dow_none.mpr (.inr k)
      refine SOk.back (Fo.trans (.of f) .drp) (for_ok (fun {h σ ρ ow} I hn => stsP_ok hF hT b I hn) v.ps J q (fun r hr => clean (k r hr)) (fun q hq => ⟨(g q hq).1, clean (g q hq).2⟩) hn)
  | .whl c b, h, σ, ρ, ow, I, hn => by
    rw [evSP] at hn ⊢
    rw [SOk, sn_whl, hT]
    exact whl_ok hF (fun {h σ ρ ow} I hn => stsP_ok hF hT b I hn) I hn
  | .brk, h, σ, ρ, ow, I, hn => by rw [evSP]; exact ⟨ρ, rfl, ow, I, .refl⟩
  | .cnt, h, σ, ρ, ow, I, hn => by rw [evSP]; exact ⟨ρ, rfl, ow, I, .refl⟩
  | .pss, h, σ, ρ, ow, I, hn => by rw [evSP]; exact ⟨ρ, rfl, ow, I, .refl⟩
  | .seta .., _, _, _, _, _, hn => (hn rfl).elim
  | .auga .., _, _, _, _, _, hn => (hn rfl).elim
  | .rai .., _, _, _, _, _, hn => (hn rfl).elim
  | .tr .., _, _, _, _, _, hn => (hn rfl).elim
  termination_by s => sizeOf s
theorem stsP_ok (hF : FSnd F FP) (hT : T.wh = whl) : ∀ (s : CSs) {h : Hd} {σ : St} {ρ : Rho} {ow : Ow}, Inv h σ ρ ow → evSPs FP s ρ ≠ .no → SOk (evSPs FP s ρ) h ow (evSs T F s σ h)
  | .nil, h, σ, ρ, ow, I, hn => by rw [evSPs]; exact ⟨ρ, rfl, ow, I, .refl⟩
  | .cons s r, h, σ, ρ, ow, I, hn => by
    rw [evSPs] at hn ⊢
    have h1 : evSP FP s ρ ≠ .no := fun z => by rw [z] at hn; exact hn rfl
    have k := stP_ok hF hT s I h1
    rw [SOk, sn_cons]
    refine Sn.mono k (fun σ' h' ⟨ρ', e, ow', I', F'⟩ => ?_) (fun v h' ⟨p, lv, e, q⟩ => ?_) (fun σ' h' ⟨ρ', e, q⟩ => ?_) fun σ' h' ⟨ρ', e, q⟩ => ?_
    · rw [e] at hn ⊢
      exact SOk.back F' (stsP_ok hF hT r I' hn)
    · rw [e]; exact ⟨p, lv, rfl, q⟩
    · rw [e]; exact ⟨ρ', rfl, q⟩
    · rw [e]; exact ⟨ρ', rfl, q⟩
  termination_by s => sizeOf s
end
/-! ### defs -/
theorem callP_ok {T : Tab} (hT : T.wh = whl) (hsl : ∀ f d, T.fn f = some d → d.sl ≤ BIG ∧ d.ps ≤ d.sl) : ∀ n, FSnd (callD T n) (callP T.fn n)
  | 0 => fun f ps r e => by cases e
  | n + 1 => fun f ps r e h ds us q => by
    unfold callP at e
    obtain ⟨d, e1, e2⟩ := bindE' e
    unfold runP at e2
    cases hl : decide (ps.length = d.ps) with
    | false => rw [hl] at e2; cases e2
    | true =>
      rw [hl] at e2
      dsimp only at e2
      have hl := of_decide_eq_true hl
      obtain ⟨hs1, hs2⟩ := hsl f d e1
      -- at the def's start nothing is owned but by others
      let ow0 : Ow := fun x => if x < h.length ∧ x ∉ us then some BIG else none
      have I0 : Inv h (ds.map some ++ List.replicate (d.sl - d.ps) none) ((ps.map fun p => some (nrm p 0)) ++ List.replicate (d.sl - d.ps) none) ow0 := by
        refine ⟨by simp [q.len], fun i p lv e => ?_, fun x i e => ?_, by simp [hl]; omega⟩
        · have hi : i < ps.length := by
            by_cases z : i < ps.length
            · exact z
            · rw [List.getElem?_append_right (by simpa using z), List.getElem?_replicate] at e
              split at e <;> cases e
          rw [List.getElem?_append_left (by simpa using hi), List.getElem?_map] at e
          obtain ⟨p', e3, e4⟩ := Option.map_eq_some_iff.mp e
          obtain ⟨dd, vs, e5, e6, e7⟩ := q.get e3
          have e4 : nrm p' 0 = (p, lv) := Option.some.inj e4
          have ep : p' = p := congrArg Prod.fst e4
          have el : (nrm p' 0).2 = lv := congrArg Prod.snd e4
          subst ep
          refine ⟨dd, vs, by rw [List.getElem?_append_left (by rw [List.length_map, q.len]; exact hi), List.getElem?_map, e5]; rfl, e6, ?_⟩
          have hv : ∀ x ∈ vs, ow0 x = none := fun x hx => if_neg fun z => z.2 (e7.subset hx)
          unfold nrm at el
          cases hsc : p'.scal with
          | true =>
            obtain ⟨rfl, _⟩ := e6.scal hsc
            rw [hsc] at el
            exact ⟨fun _ => by simp, (by intro z; rw [← el] at z; cases z), fun _ _ => by simp⟩
          | false =>
            rw [hsc] at el
            exact ⟨(by intro z; rw [← el] at z; cases z), (by intro z; rw [← el] at z; cases z), fun _ _ => hv⟩
        · have e : (if x < h.length ∧ x ∉ us then some BIG else none) = some i := e
          split at e
          · rename_i z; exact z.1
          · cases e
      have foreign : ∀ {h' : Hd} {ow' : Ow} {x : Nat}, Fo h ow0 h' ow' → ¬ Alien ow' x → h.length ≤ x ∨ x ∈ us := fun {h' ow' x} F' na => by
        by_cases hx : h.length ≤ x
        · exact .inl hx
        · by_cases hu : x ∈ us
          · exact .inr hu
          · have e0 : ow0 x = some BIG := if_pos ⟨by omega, hu⟩
            have := (F'.st x (by omega) fun i z => by rw [e0] at z; cases z; exact Nat.le_refl _).2
            exact (na ⟨BIG, Nat.le_refl _, this.trans e0⟩).elim
      have frm : ∀ {h' : Hd} {ow' : Ow}, Fo h ow0 h' ow' → FrA h h' := fun {h' ow'} F' => ⟨F'.le, fun x hx => (F'.st x hx fun i z => by
        have z : (if x < h.length ∧ x ∉ us then some BIG else none) = some i := z
        split at z
        · cases z; exact Nat.le_refl _
        · cases z).1⟩
      have frs : ∀ {x : Nat}, Fresh h ow0 x → h.length ≤ x := fun {x} k => by
        rcases k with k | ⟨i, k1, k2⟩
        · exact k
        · have k2 : (if x < h.length ∧ x ∉ us then some BIG else none) = some i := k2
          split at k2
          · cases k2; omega
          · cases k2
      refine callD_succ e1 (by rw [q.len]; exact hl) ?_
      cases er : evSPs (callP T.fn n) d.body ((ps.map fun p => some (nrm p 0)) ++ List.replicate (d.sl - d.ps) none) with
      | nx ρ' =>
        rw [er] at e2
        cases e2
        have k := stsP_ok (T := T) (callP_ok hT hsl n) hT d.body I0 (by rw [er]; exact fun z => by cases z)
        rw [er] at k
        refine Sn.mono k (fun σ' h' ⟨ρ2, e, ow', I', F'⟩ => ?_) (fun v h' ⟨p, lv, e, _⟩ => by cases e) (fun σ' h' ⟨ρ2, e, _⟩ => by cases e) fun σ' h' ⟨ρ2, e, _⟩ => by cases e
        exact ⟨frm F', [], rp_non.mpr ⟨rfl, rfl⟩, by simp, fun _ => by simp, (by intro z; cases z)⟩
      | rt p lv =>
        rw [er] at e2
        cases e2
        have k := stsP_ok (T := T) (callP_ok hT hsl n) hT d.body I0 (by rw [er]; exact fun z => by cases z)
        rw [er] at k
        refine Sn.mono k (fun σ' h' ⟨ρ2, e, _⟩ => by cases e) (fun v h' ⟨p2, lv2, e, ow', ws, F', q', na, k2, k1⟩ => ?_) (fun σ' h' ⟨ρ2, e, _⟩ => by cases e) fun σ' h' ⟨ρ2, e, _⟩ => by cases e
        cases e
        exact ⟨frm F', ws, q', fun x hx => foreign F' (na x hx), fun z => ⟨(k2 z).1, fun x hx => ⟨frs ((k2 z).2 x hx), q'.lt x hx⟩⟩, fun z => let ⟨m, ws', a, b, c⟩ := k1 z; ⟨m, ws', a, frs c, b, q'.lt m (by rw [a]; simp)⟩⟩
      | bk _ => rw [er] at e2; cases e2
      | ct _ => rw [er] at e2; cases e2
      | no => rw [er] at e2; cases e2
/-- a law: told on values, it holds -/
theorem law_plain {bs : List CDef} {f : Nat} {ns : List Int} (hsl : (bs.all fun d => decide (d.sl ≤ BIG) && decide (d.ps ≤ d.sl)) = true) (e : ∃ lv, callP (fun f => bs[f]?) 200 f [.scr ns] = some (.bl true, lv)) : ∃ h', callD (tabOf bs) 200 f [.ref 0] [.flst (ns.map .int)] = .ok (.bl true) h' := by
  obtain ⟨lv, e⟩ := e
  have k := callP_ok (T := tabOf bs) rfl (fun f d hd => ?_) 200 f [.scr ns] (.bl true, lv) e [.flst (ns.map .int)] [.ref 0] [0] ?_
  · cases er : callD (tabOf bs) 200 f [.ref 0] [.flst (ns.map .int)] with
    | ok v h' =>
      rw [er] at k
      obtain ⟨_, ws, q, _⟩ := k
      rw [(rp_bl.mp q).1]
      exact ⟨h', rfl⟩
    | er _ _ => rw [er] at k; exact k.elim
    | no => rw [er] at k; exact k.elim
  · have := List.all_eq_true.mp hsl d (List.mem_of_getElem? hd)
    rw [Bool.and_eq_true, decide_eq_true_eq, decide_eq_true_eq] at this
    exact this
  · exact .one (rp_scr.mpr ⟨0, rfl, rfl, rfl⟩)
end
end U
end

section
set_option maxRecDepth 100000
set_option maxHeartbeats 1000000
/-! Reasoning about runs on values. -/
namespace U
open PySem
/-- it goes through, and Q holds of what it gives -/
theorem nrfl {α : Type} {a b : α} (h : a = b) : a = b := h
structure Tn {α : Type} (o : Option α) (Q : α → Prop) : Prop where
  h : ∃ a, o = some a ∧ Q a
theorem tn_iff {α : Type} {o : Option α} {Q : α → Prop} : Tn o Q ↔ ∃ a, o = some a ∧ Q a := ⟨fun a => a.h, fun a => ⟨a⟩⟩
theorem tn_mk {α : Type} {a : α} {Q : α → Prop} (h : Q a) : Tn (some a) Q := ⟨a, rfl, h⟩
theorem Tn.get {α : Type} {a : α} {Q : α → Prop} (h : Tn (some a) Q) : Q a := by
  obtain ⟨_, e, q⟩ := h.h
  cases e
  exact q
theorem Tn.nope {α : Type} {Q : α → Prop} (h : Tn (none : Option α) Q) : False := by
  obtain ⟨_, e, q⟩ := h.h
  cases e
theorem Tn.mono {α : Type} {o : Option α} {Q Q' : α → Prop} (a : Tn o Q) (h : ∀ x, Q x → Q' x) : Tn o Q' := by
  obtain ⟨x, e, q⟩ := a.h
  exact ⟨x, e, h x q⟩
structure Pn (r : PR) (N : Rho → Prop) (R : P → Nat → Prop) (C B : Rho → Prop) : Prop where
  h : match r with
  | .nx ρ => N ρ
  | .rt p lv => R p lv
  | .ct ρ => C ρ
  | .bk ρ => B ρ
  | .no => False
theorem Pn.mono {r : PR} {N N' : Rho → Prop} {R R' : P → Nat → Prop} {C C' B B' : Rho → Prop} (a : Pn r N R C B) (hn : ∀ ρ, N ρ → N' ρ) (hr : ∀ p lv, R p lv → R' p lv) (hc : ∀ ρ, C ρ → C' ρ) (hb : ∀ ρ, B ρ → B' ρ) : Pn r N' R' C' B' := by
  obtain ⟨a⟩ := a
  cases r <;> first | exact ⟨hn _ a⟩ | exact ⟨hr _ _ a⟩ | exact ⟨hc _ a⟩ | exact ⟨hb _ a⟩ | exact a.elim
section
variable {α β : Type} {FP : Nat → List P → Option (P × Nat)} {ρ : Rho}
@[simp] theorem tn_some {a : α} {Q : α → Prop} : Tn (some a) Q = Q a := propext ⟨Tn.get, tn_mk⟩
@[simp] theorem tn_none {Q : α → Prop} : Tn (none : Option α) Q = False := propext ⟨Tn.nope, False.elim⟩
@[simp] theorem tn_bind {o : Option α} {f : α → Option β} {Q : β → Prop} : Tn (o.bind f) Q = Tn o fun a => Tn (f a) Q := by cases o <;> simp only [Option.bind, tn_some, tn_none]
@[simp] theorem tn_map {o : Option α} {f : α → β} {Q : β → Prop} : Tn (o.map f) Q = Tn o fun a => Q (f a) := by cases o <;> simp only [Option.map, tn_some, tn_none]
@[simp] theorem tn_grd {b : Bool} {a : α} {Q : α → Prop} : Tn (grd b a) Q = (b = true ∧ Q a) := by cases b <;> simp [grd]
@[simp] theorem tp_var {i : Nat} {Q : PV → Prop} : Tn (evP FP (.var i) ρ) Q = Tn (ρ[i]?.bind id) fun s => Q (vr s.1 0 [i]) := by rw [evP]; simp only [tn_map]
@[simp] theorem tp_cst {d : D} {Q : PV → Prop} : Tn (evP FP (.cst d) ρ) Q = Tn (dP d) fun p => Q (vr p 2 []) := by rw [evP]; simp only [tn_map]
@[simp] theorem tp_bin {o : BOp} {a b : CE} {Q : PV → Prop} : Tn (evP FP (.bin o a b) ρ) Q = Tn (evP FP a ρ) fun x => Tn (evP FP b ρ) fun y => Tn (binP o x.p y.p) fun r => Q (opv r (x.lk ++ y.lk)) := by rw [evP]; simp only [tn_bind, tn_map]
@[simp] theorem tp_neg {a : CE} {Q : PV → Prop} : Tn (evP FP (.neg a) ρ) Q = Tn (evP FP a ρ) fun x => Tn (match x.p with | .int i => some ⟨.int (-i), 2, []⟩ | _ => none) Q := by rw [evP]; simp only [tn_bind] <;> rfl
@[simp] theorem tp_cmp {o : COp} {a b : CE} {Q : PV → Prop} : Tn (evP FP (.cmp o a b) ρ) Q = Tn (evP FP a ρ) fun x => Tn (evP FP b ρ) fun y => Tn (cmpP o x.p y.p) fun k => Q ⟨.bl k, 2, []⟩ := by rw [evP]; simp only [tn_bind, tn_map]
@[simp] theorem tp_chn {o p : COp} {a b c : CE} {Q : PV → Prop} : Tn (evP FP (.chn o p a b c) ρ) Q = Tn (evP FP a ρ) fun x => Tn (evP FP b ρ) fun y => Tn (cmpP o x.p y.p) fun k => if k = true then Tn (evP FP c ρ) fun z => Tn (cmpP p y.p z.p) fun k => Q ⟨.bl k, 2, []⟩ else Q ⟨.bl false, 2, []⟩ := by
  rw [evP]; simp only [tn_bind]
  congr 1; funext x; congr 1; funext y; congr 1; funext k
  cases k <;> simp
/-- 'and', 'or', 'not' of truths -/
def andV (p : P) (o : Option PV) : Option PV := match p with
  | .bl true => o
  | .bl false => some ⟨.bl false, 2, []⟩
  | _ => none
def orV (p : P) (o : Option PV) : Option PV := match p with
  | .bl true => some ⟨.bl true, 2, []⟩
  | .bl false => o
  | _ => none
def notV (p : P) : Option PV := match p with
  | .bl b => some ⟨.bl (!b), 2, []⟩
  | _ => none
@[simp] theorem andV_b {b : Bool} {o : Option PV} {Q : PV → Prop} : Tn (andV (.bl b) o) Q = if b = true then Tn o Q else Q ⟨.bl false, 2, []⟩ := by cases b <;> simp [andV]
@[simp] theorem orV_b {b : Bool} {o : Option PV} {Q : PV → Prop} : Tn (orV (.bl b) o) Q = if b = true then Q ⟨.bl true, 2, []⟩ else Tn o Q := by cases b <;> simp [orV]
@[simp] theorem notV_b {b : Bool} : notV (.bl b) = some ⟨.bl (!b), 2, []⟩ := rfl
@[simp] theorem tp_and {a b : CE} {Q : PV → Prop} : Tn (evP FP (.and a b) ρ) Q = Tn (evP FP a ρ) fun x => Tn (andV x.p (evP FP b ρ)) Q := by rw [evP]; simp only [tn_bind] <;> rfl
@[simp] theorem tp_or {a b : CE} {Q : PV → Prop} : Tn (evP FP (.or a b) ρ) Q = Tn (evP FP a ρ) fun x => Tn (orV x.p (evP FP b ρ)) Q := by rw [evP]; simp only [tn_bind] <;> rfl
@[simp] theorem tp_not {a : CE} {Q : PV → Prop} : Tn (evP FP (.not a) ρ) Q = Tn (evP FP a ρ) fun x => Tn (notV x.p) Q := by rw [evP]; simp only [tn_bind] <;> rfl
@[simp] theorem tp_ite {c : CT} {a b : CE} {Q : PV → Prop} : Tn (evP FP (.ite c a b) ρ) Q = Tn (evPT FP c ρ) fun k => if k = true then Tn (evP FP a ρ) Q else Tn (evP FP b ρ) Q := by
  rw [evP]; simp only [tn_bind]; congr 1; funext k; cases k <;> simp
@[simp] theorem tp_tup {es : CEs} {Q : PV → Prop} : Tn (evP FP (.tup es) ρ) Q = Tn (evPs FP es ρ) fun v => v.ps.length ≤ LIM ∧ Q (tupv v) := by rw [evP]; simp only [tn_bind, tn_grd, decide_eq_true_eq]
@[simp] theorem tp_lst {es : CEs} {Q : PV → Prop} : Tn (evP FP (.lst es) ρ) Q = Tn (evPs FP es ρ) fun v => v.ps.length ≤ LIM ∧ Q (lstv v) := by rw [evP]; simp only [tn_bind, tn_grd, decide_eq_true_eq]
@[simp] theorem tp_idx {a b : CE} {Q : PV → Prop} : Tn (evP FP (.idx a b) ρ) Q = Tn (evP FP a ρ) fun x => Tn (evP FP b ρ) fun y => Tn (idxP x.p y.p) fun r => Q (partv r x) := by rw [evP]; simp only [tn_bind, tn_map]
@[simp] theorem tp_slc {a l u : CE} {Q : PV → Prop} : Tn (evP FP (.slc a l u) ρ) Q = Tn (evP FP a ρ) fun x => Tn (evP FP l ρ) fun l' => Tn (endP l l'.p) fun lo => Tn (evP FP u ρ) fun u' => Tn (endP u u'.p) fun hi => Tn (slcP x.p lo hi) fun r => Q (opv r x.lk) := by rw [evP]; simp only [tn_bind, tn_map]
@[simp] theorem tp_call {f : Nat} {es : CEs} {Q : PV → Prop} : Tn (evP FP (.call f es) ρ) Q = Tn (evPs FP es ρ) fun v => Tn (FP f v.ps) fun r => Q (vr r.1 r.2 v.lk) := by rw [evP]; simp only [tn_bind, tn_map]
@[simp] theorem tp_blt {b : Bi} {es : CEs} {Q : PV → Prop} : Tn (evP FP (.blt b es) ρ) Q = Tn (evPs FP es ρ) fun v => Tn (bltP b v.ps) fun r => Q (opv r v.lk) := by rw [evP]; simp only [tn_bind, tn_map]
@[simp] theorem tp_bmt {b : Bm} {a : CE} {es : CEs} {Q : PV → Prop} : Tn (evP FP (.bmt b a es) ρ) Q = Tn (evP FP a ρ) fun x => Tn (evPs FP es ρ) fun v => Tn (bmtP b x.p v.ps) fun r => Q (opv r v.lk) := by rw [evP]; simp only [tn_bind, tn_map]
/-- a comprehension's turn -/
def turnP (FP : Nat → List P → Option (P × Nat)) (t : Tg) (elt : CE) (c : Option CT) (ρ : Rho) (p : P) : Option (Option PV) := (asgP t p 0 ρ).bind fun ρ' => match c with
      | none => (evP FP elt ρ').map some
      | some c => (evPT FP c ρ').bind fun k => match k with
        | true => (evP FP elt ρ').map some
        | false => some none
@[simp] theorem tp_comp {own : List Nat} {elt : CE} {t : Tg} {it : Wk} {c : Option CT} {Q : PV → Prop} : Tn (evP FP (.comp own elt t it c) ρ) Q = Tn (evPI FP it ρ) fun w => Tn (compP (turnP FP t elt c (wpP (drp w.lk ρ) own)) w.ps) fun v => v.ps.length ≤ LIM ∧ Q (lstv ⟨v.ps, v.two, w.lk ++ v.lk⟩) := by
  rw [evP]; simp only [tn_bind, tn_grd, decide_eq_true_eq]; rfl
@[simp] theorem tp_nil {Q : PVs → Prop} : Tn (evPs FP .nil ρ) Q = Q ⟨[], true, []⟩ := by rw [evPs]; simp only [tn_some]
@[simp] theorem tp_cons {e : CE} {es : CEs} {Q : PVs → Prop} : Tn (evPs FP (.cons e es) ρ) Q = Tn (evP FP e ρ) fun x => Tn (evPs FP es ρ) fun v => Q ⟨x.p :: v.ps, (x.lv == 2) && v.two, x.lk ++ v.lk⟩ := by rw [evPs]; simp only [tn_bind, tn_map]
@[simp] theorem tp_tand {a b : CT} {Q : Bool → Prop} : Tn (evPT FP (.and a b) ρ) Q = Tn (evPT FP a ρ) fun k => if k = true then Tn (evPT FP b ρ) Q else Q false := by
  rw [evPT]; simp only [tn_bind]; congr 1; funext k; cases k <;> simp
@[simp] theorem tp_tor {a b : CT} {Q : Bool → Prop} : Tn (evPT FP (.or a b) ρ) Q = Tn (evPT FP a ρ) fun k => if k = true then Q true else Tn (evPT FP b ρ) Q := by
  rw [evPT]; simp only [tn_bind]; congr 1; funext k; cases k <;> simp
@[simp] theorem tp_tnot {a : CT} {Q : Bool → Prop} : Tn (evPT FP (.not a) ρ) Q = Tn (evPT FP a ρ) fun k => Q (!k) := by rw [evPT]; simp only [tn_map]
@[simp] theorem tp_tval {a : CE} {Q : Bool → Prop} : Tn (evPT FP (.val a) ρ) Q = Tn (evP FP a ρ) fun x => Tn (truP x.p) Q := by rw [evPT]; simp only [tn_bind]
@[simp] theorem tp_we {a : CE} {Q : PVs → Prop} : Tn (evPI FP (.e a) ρ) Q = Tn (evP FP a ρ) fun x => Tn (walkP x.p) fun ps => Q ⟨ps, false, x.lk⟩ := by rw [evPI]; simp only [tn_bind, tn_map]
@[simp] theorem tp_rng1 {a : CE} {Q : PVs → Prop} : Tn (evPI FP (.rng1 a) ρ) Q = Tn (evP FP a ρ) fun x => Tn (match x.p with | .int j => grd (in62 j) ⟨rngP 0 j.toNat, true, []⟩ | _ => none) Q := by rw [evPI]; simp only [tn_bind] <;> rfl
@[simp] theorem tp_rng2 {a b : CE} {Q : PVs → Prop} : Tn (evPI FP (.rng2 a b) ρ) Q = Tn (evP FP a ρ) fun x => Tn (evP FP b ρ) fun y => Tn (match x.p, y.p with | .int i, .int j => grd (in62 i && in62 j) ⟨rngP i (j - i).toNat, true, []⟩ | _, _ => none) Q := by rw [evPI]; simp only [tn_bind] <;> rfl
@[simp] theorem tp_rng3 {a b : CE} {k : Int} {Q : PVs → Prop} : Tn (evPI FP (.rng3 a b k) ρ) Q = Tn (evP FP a ρ) fun x => Tn (evP FP b ρ) fun y => Tn (match x.p, y.p with | .int i, .int j => grd (in62 i && in62 j && decide (k = -1)) ⟨rngD i (i - j).toNat, true, []⟩ | _, _ => none) Q := by rw [evPI]; simp only [tn_bind] <;> rfl
@[simp] theorem tp_zip {a b : CE} {Q : PVs → Prop} : Tn (evPI FP (.zip a b) ρ) Q = Tn (evP FP a ρ) fun x => Tn (evP FP b ρ) fun y => Tn (seqP x.p) fun ps => Tn (seqP y.p) fun qs => (isTupP x.p == isTupP y.p) = true ∧ Q ⟨zipP ps qs, false, x.lk ++ y.lk⟩ := by rw [evPI]; simp only [tn_bind, tn_grd]
@[simp] theorem tp_enm {a : CE} {Q : PVs → Prop} : Tn (evPI FP (.enm a) ρ) Q = Tn (evP FP a ρ) fun x => Tn (seqP x.p) fun ps => (!isTupP x.p) = true ∧ Q ⟨enmP 0 ps, false, x.lk⟩ := by rw [evPI]; simp only [tn_bind, tn_grd]
@[simp] theorem tp_rev {a : CE} {Q : PVs → Prop} : Tn (evPI FP (.rev a) ρ) Q = Tn (evP FP a ρ) fun x => Tn (seqP x.p) fun ps => Q ⟨ps.reverse, false, x.lk⟩ := by rw [evPI]; simp only [tn_bind, tn_map]
/-! ### statements -/
variable {N : Rho → Prop} {R : P → Nat → Prop} {C B : Rho → Prop}
@[simp] theorem pn_nx : Pn (.nx ρ) N R C B = N ρ := propext ⟨fun a => a.h, fun a => ⟨a⟩⟩
@[simp] theorem pn_rt {p : P} {lv : Nat} : Pn (.rt p lv) N R C B = R p lv := propext ⟨fun a => a.h, fun a => ⟨a⟩⟩
@[simp] theorem pn_ct : Pn (.ct ρ) N R C B = C ρ := propext ⟨fun a => a.h, fun a => ⟨a⟩⟩
@[simp] theorem pn_bk : Pn (.bk ρ) N R C B = B ρ := propext ⟨fun a => a.h, fun a => ⟨a⟩⟩
@[simp] theorem pn_no : Pn .no N R C B = False := propext ⟨fun a => a.h, fun a => ⟨a⟩⟩
@[simp] theorem pn_oP {o : Option Rho} : Pn (oP o) N R C B = Tn o N := by cases o <;> simp only [oP, pn_nx, pn_no, tn_some, tn_none]
@[simp] theorem pn_nil : Pn (evSPs FP .nil ρ) N R C B = N ρ := by rw [evSPs]; simp only [pn_nx]
theorem pn_cons {s : CS} {r : CSs} : Pn (evSPs FP (.cons s r) ρ) N R C B = Pn (evSP FP s ρ) (fun ρ => Pn (evSPs FP r ρ) N R C B) R C B := by
  rw [evSPs]; cases evSP FP s ρ <;> simp only [pn_nx, pn_rt, pn_ct, pn_bk, pn_no]
@[simp] theorem pn_set {t : Tg} {e : CE} : Pn (evSP FP (.set t e) ρ) N R C B = Tn (stoP FP t e ρ) N := by
  rw [evSP, pn_oP]
@[simp] theorem sto_var {t : Tg} {i : Nat} : stoP FP t (.var i) ρ = (evP FP (.var i) ρ).bind fun v => asgP t v.p v.lv (drp v.lk ρ) := rfl
@[simp] theorem sto_cst {t : Tg} {d : D} : stoP FP t (.cst d) ρ = (evP FP (.cst d) ρ).bind fun v => asgP t v.p v.lv (drp v.lk ρ) := rfl
@[simp] theorem sto_bin {t : Tg} {o : BOp} {a b : CE} : stoP FP t (.bin o a b) ρ = (evP FP (.bin o a b) ρ).bind fun v => asgP t v.p v.lv (drp v.lk ρ) := rfl
@[simp] theorem sto_neg {t : Tg} {a : CE} : stoP FP t (.neg a) ρ = (evP FP (.neg a) ρ).bind fun v => asgP t v.p v.lv (drp v.lk ρ) := rfl
@[simp] theorem sto_cmp {t : Tg} {o : COp} {a b : CE} : stoP FP t (.cmp o a b) ρ = (evP FP (.cmp o a b) ρ).bind fun v => asgP t v.p v.lv (drp v.lk ρ) := rfl
@[simp] theorem sto_chn {t : Tg} {o p : COp} {a b c : CE} : stoP FP t (.chn o p a b c) ρ = (evP FP (.chn o p a b c) ρ).bind fun v => asgP t v.p v.lv (drp v.lk ρ) := rfl
@[simp] theorem sto_and {t : Tg} {a b : CE} : stoP FP t (.and a b) ρ = (evP FP (.and a b) ρ).bind fun v => asgP t v.p v.lv (drp v.lk ρ) := rfl
@[simp] theorem sto_or {t : Tg} {a b : CE} : stoP FP t (.or a b) ρ = (evP FP (.or a b) ρ).bind fun v => asgP t v.p v.lv (drp v.lk ρ) := rfl
@[simp] theorem sto_not {t : Tg} {a : CE} : stoP FP t (.not a) ρ = (evP FP (.not a) ρ).bind fun v => asgP t v.p v.lv (drp v.lk ρ) := rfl
@[simp] theorem sto_ite {t : Tg} {c : CT} {a b : CE} : stoP FP t (.ite c a b) ρ = (evP FP (.ite c a b) ρ).bind fun v => asgP t v.p v.lv (drp v.lk ρ) := rfl
@[simp] theorem sto_tup {t : Tg} {es : CEs} : stoP FP t (.tup es) ρ = (evP FP (.tup es) ρ).bind fun v => asgP t v.p v.lv (drp v.lk ρ) := rfl
@[simp] theorem tp_dct {es : CEs} {Q : PV → Prop} : Tn (evP FP (.dct es) ρ) Q = Tn (evPs FP es ρ) fun v => Tn (pairsP v.ps) fun q => (q.1.length ≤ 15 ∧ nodK q.1 = true) ∧ Q (dctv q.1 ⟨q.2, v.two, v.lk⟩) := by rw [evP]; simp only [tn_bind, tn_grd, Bool.and_eq_true, decide_eq_true_eq]
@[simp] theorem sto_dct {t : Tg} {es : CEs} : stoP FP t (.dct es) ρ = (evP FP (.dct es) ρ).bind fun v => asgP t v.p v.lv (drp v.lk ρ) := rfl
@[simp] theorem retP_dct {es : CEs} : retP FP (.dct es) ρ = (evP FP (.dct es) ρ).map fun v => (v.p, v.lv) := rfl
@[simp] theorem sto_lst {t : Tg} {es : CEs} : stoP FP t (.lst es) ρ = (evP FP (.lst es) ρ).bind fun v => asgP t v.p v.lv (drp v.lk ρ) := rfl
@[simp] theorem sto_idx {t : Tg} {a b : CE} : stoP FP t (.idx a b) ρ = (evP FP (.idx a b) ρ).bind fun v => asgP t v.p v.lv (drp v.lk ρ) := rfl
@[simp] theorem sto_slc {t : Tg} {a b c : CE} : stoP FP t (.slc a b c) ρ = (evP FP (.slc a b c) ρ).bind fun v => asgP t v.p v.lv (drp v.lk ρ) := rfl
@[simp] theorem sto_call {t : Tg} {f : Nat} {es : CEs} : stoP FP t (.call f es) ρ = (evP FP (.call f es) ρ).bind fun v => asgP t v.p v.lv (drp v.lk ρ) := rfl
@[simp] theorem sto_blt {t : Tg} {b : Bi} {es : CEs} : stoP FP t (.blt b es) ρ = (evP FP (.blt b es) ρ).bind fun v => asgP t v.p v.lv (drp v.lk ρ) := rfl
@[simp] theorem sto_comp {t : Tg} {own : List Nat} {e : CE} {tt : Tg} {w : Wk} {c : Option CT} : stoP FP t (.comp own e tt w c) ρ = (evP FP (.comp own e tt w c) ρ).bind fun v => asgP t v.p v.lv (drp v.lk ρ) := rfl
@[simp] theorem sto_index {t : Tg} {a : CE} {es : CEs} : stoP FP t (.bmt .index a es) ρ = (evP FP (.bmt .index a es) ρ).bind fun v => asgP t v.p v.lv (drp v.lk ρ) := rfl
@[simp] theorem sto_join {t : Tg} {a : CE} {es : CEs} : stoP FP t (.bmt .join a es) ρ = (evP FP (.bmt .join a es) ρ).bind fun v => asgP t v.p v.lv (drp v.lk ρ) := rfl
@[simp] theorem sto_split {t : Tg} {a : CE} {es : CEs} : stoP FP t (.bmt .split a es) ρ = (evP FP (.bmt .split a es) ρ).bind fun v => asgP t v.p v.lv (drp v.lk ρ) := rfl
@[simp] theorem sto_partition {t : Tg} {a : CE} {es : CEs} : stoP FP t (.bmt .partition a es) ρ = (evP FP (.bmt .partition a es) ρ).bind fun v => asgP t v.p v.lv (drp v.lk ρ) := rfl
@[simp] theorem sto_startswith {t : Tg} {a : CE} {es : CEs} : stoP FP t (.bmt .startswith a es) ρ = (evP FP (.bmt .startswith a es) ρ).bind fun v => asgP t v.p v.lv (drp v.lk ρ) := rfl
@[simp] theorem sto_endswith {t : Tg} {a : CE} {es : CEs} : stoP FP t (.bmt .endswith a es) ρ = (evP FP (.bmt .endswith a es) ρ).bind fun v => asgP t v.p v.lv (drp v.lk ρ) := rfl
@[simp] theorem sto_strip {t : Tg} {a : CE} {es : CEs} : stoP FP t (.bmt .strip a es) ρ = (evP FP (.bmt .strip a es) ρ).bind fun v => asgP t v.p v.lv (drp v.lk ρ) := rfl
@[simp] theorem sto_find {t : Tg} {a : CE} {es : CEs} : stoP FP t (.bmt .find a es) ρ = (evP FP (.bmt .find a es) ρ).bind fun v => asgP t v.p v.lv (drp v.lk ρ) := rfl
@[simp] theorem sto_upper {t : Tg} {a : CE} {es : CEs} : stoP FP t (.bmt .upper a es) ρ = (evP FP (.bmt .upper a es) ρ).bind fun v => asgP t v.p v.lv (drp v.lk ρ) := rfl
@[simp] theorem sto_get {t : Tg} {a : CE} {es : CEs} : stoP FP t (.bmt .get a es) ρ = (evP FP (.bmt .get a es) ρ).bind fun v => asgP t v.p v.lv (drp v.lk ρ) := rfl
@[simp] theorem pn_seti {a k e : CE} : Pn (evSP FP (.seti a k e) ρ) N R C B = Tn (setiP FP a k e ρ) N := by rw [evSP]; simp
@[simp] theorem pn_mut {b : Bm} {a : CE} {es : CEs} : Pn (evSP FP (.ex (.bmt b a es)) ρ) N R C B = (isMut b = true ∧ Tn (mutP FP b a es ρ) N) := by
  rw [evSP]; cases isMut b <;> simp
@[simp] theorem pn_excall {f : Nat} {es : CEs} : Pn (evSP FP (.ex (.call f es)) ρ) N R C B = Tn (evP FP (.call f es) ρ) fun _ => N ρ := by
  show Pn (match evP FP (.call f es) ρ with | some _ => .nx ρ | none => .no) N R C B = _
  cases evP FP (.call f es) ρ <;> simp only [pn_nx, pn_no, tn_some, tn_none]
@[simp] theorem pn_ret {e : CE} : Pn (evSP FP (.ret e) ρ) N R C B = Tn (retP FP e ρ) fun r => R r.1 r.2 := by
  rw [evSP]; cases retP FP e ρ <;> simp
@[simp] theorem pn_ite {c : CT} {a b : CSs} : Pn (evSP FP (.ite c a b) ρ) N R C B = Tn (evPT FP c ρ) fun k => if k = true then Pn (evSPs FP a ρ) N R C B else Pn (evSPs FP b ρ) N R C B := by
  rw [evSP]; cases evPT FP c ρ with
  | none => simp only [pn_no, tn_none]
  | some k => cases k <;> simp
@[simp] theorem pn_for {t : Tg} {w : Wk} {b : CSs} : Pn (evSP FP (.for_ t w b) ρ) N R C B = Tn (evPI FP w ρ) fun v => Pn (forP t (evSPs FP b) v.ps (drp v.lk ρ)) N R C B := by
  rw [evSP]; cases evPI FP w ρ <;> simp
@[simp] theorem pn_whl {c : CT} {b : CSs} : Pn (evSP FP (.whl c b) ρ) N R C B = Pn (whlP (evPT FP c) (evSPs FP b) WF ρ) N R C B := by rw [evSP]
@[simp] theorem pn_brk : Pn (evSP FP .brk ρ) N R C B = B ρ := by rw [evSP]; simp only [pn_bk]
@[simp] theorem pn_cnt : Pn (evSP FP .cnt ρ) N R C B = C ρ := by rw [evSP]; simp only [pn_ct]
@[simp] theorem pn_pss : Pn (evSP FP .pss ρ) N R C B = N ρ := by rw [evSP]; simp only [pn_nx]
@[simp] theorem retP_var {i : Nat} : retP FP (.var i) ρ = slotP ρ i := rfl
@[simp] theorem retP_cst {d : D} : retP FP (.cst d) ρ = (evP FP (.cst d) ρ).map fun v => (v.p, v.lv) := rfl
@[simp] theorem retP_bin {o : BOp} {a b : CE} : retP FP (.bin o a b) ρ = (evP FP (.bin o a b) ρ).map fun v => (v.p, v.lv) := rfl
@[simp] theorem retP_neg {a : CE} : retP FP (.neg a) ρ = (evP FP (.neg a) ρ).map fun v => (v.p, v.lv) := rfl
@[simp] theorem retP_cmp {o : COp} {a b : CE} : retP FP (.cmp o a b) ρ = (evP FP (.cmp o a b) ρ).map fun v => (v.p, v.lv) := rfl
@[simp] theorem retP_chn {o p : COp} {a b c : CE} : retP FP (.chn o p a b c) ρ = (evP FP (.chn o p a b c) ρ).map fun v => (v.p, v.lv) := rfl
@[simp] theorem retP_and {a b : CE} : retP FP (.and a b) ρ = (evP FP (.and a b) ρ).map fun v => (v.p, v.lv) := rfl
@[simp] theorem retP_or {a b : CE} : retP FP (.or a b) ρ = (evP FP (.or a b) ρ).map fun v => (v.p, v.lv) := rfl
@[simp] theorem retP_not {a : CE} : retP FP (.not a) ρ = (evP FP (.not a) ρ).map fun v => (v.p, v.lv) := rfl
@[simp] theorem retP_ite {c : CT} {a b : CE} : retP FP (.ite c a b) ρ = (evP FP (.ite c a b) ρ).map fun v => (v.p, v.lv) := rfl
@[simp] theorem retP_tup {es : CEs} : retP FP (.tup es) ρ = (evP FP (.tup es) ρ).map fun v => (v.p, v.lv) := rfl
@[simp] theorem retP_lst {es : CEs} : retP FP (.lst es) ρ = (evP FP (.lst es) ρ).map fun v => (v.p, v.lv) := rfl
@[simp] theorem retP_idx {a b : CE} : retP FP (.idx a b) ρ = (evP FP (.idx a b) ρ).map fun v => (v.p, v.lv) := rfl
@[simp] theorem retP_slc {a b c : CE} : retP FP (.slc a b c) ρ = (evP FP (.slc a b c) ρ).map fun v => (v.p, v.lv) := rfl
@[simp] theorem retP_call {f : Nat} {es : CEs} : retP FP (.call f es) ρ = (evP FP (.call f es) ρ).map fun v => (v.p, v.lv) := rfl
@[simp] theorem retP_blt {b : Bi} {es : CEs} : retP FP (.blt b es) ρ = (evP FP (.blt b es) ρ).map fun v => (v.p, v.lv) := rfl
@[simp] theorem retP_bmt {b : Bm} {a : CE} {es : CEs} : retP FP (.bmt b a es) ρ = (evP FP (.bmt b a es) ρ).map fun v => (v.p, v.lv) := rfl
@[simp] theorem retP_comp {own : List Nat} {e : CE} {t : Tg} {w : Wk} {c : Option CT} : retP FP (.comp own e t w c) ρ = (evP FP (.comp own e t w c) ρ).map fun v => (v.p, v.lv) := rfl
/-- a for: what stays true -/
theorem forP_inv {t : Tg} {body : Rho → PR} {ps : List P} (I : Nat → Rho → Prop) (h0 : I 0 ρ) (hs : ∀ i p ρ, ps[i]? = some p → I i ρ → Tn (asgP t p 0 ρ) fun ρ' => Pn (body ρ') (I (i + 1)) R (I (i + 1)) N) (hf : ∀ ρ, I ps.length ρ → N ρ) : Pn (forP t body ps ρ) N R C B := by
  have go : ∀ (qs : List P) (i : Nat) (ρ : Rho), ps.drop i = qs → i ≤ ps.length → I i ρ → Pn (forP t body qs ρ) N R C B := by
    intro qs
    induction qs with
    | nil =>
      intro i ρ hd hi hI
      have e : i = ps.length := by
        have := congrArg List.length hd
        simp at this
        omega
      subst e
      exact ⟨hf ρ hI⟩
    | cons q qs ih =>
      intro i ρ hd hi hI
      have hlt : i < ps.length := by
        have := congrArg List.length hd
        simp at this
        omega
      have hx : ps[i]? = some q := by
        have := congrArg (fun l => l[0]?) hd
        simpa using this
      have hd' : ps.drop (i + 1) = qs := by
        have := congrArg List.tail hd
        simpa using this
      have k := hs i q ρ hx hI
      unfold forP
      cases ea : asgP t q 0 ρ with
      | none => rw [ea] at k; exact k.nope.elim
      | some ρ' =>
        rw [ea] at k
        have k := k.get
        dsimp only
        cases eb : body ρ' with
        | nx ρ2 => rw [eb] at k; exact ih (i + 1) ρ2 hd' hlt k.h
        | ct ρ2 => rw [eb] at k; exact ih (i + 1) ρ2 hd' hlt k.h
        | bk ρ2 => rw [eb] at k; exact ⟨k.h⟩
        | rt p lv => rw [eb] at k; exact ⟨k.h⟩
        | no => rw [eb] at k; exact k.h.elim
  exact go ps 0 ρ rfl (Nat.zero_le _) h0
/-- a while: what stays true, and what gets less -/
theorem whlP_inv {c : Rho → Option Bool} {body : Rho → PR} (I : Nat → Rho → Prop) (m : Nat) (hm : m < WF) (h0 : I m ρ) (hs : ∀ m ρ, I m ρ → Tn (c ρ) fun k => if k = true then Pn (body ρ) (fun ρ => ∃ m', m' < m ∧ I m' ρ) R (fun ρ => ∃ m', m' < m ∧ I m' ρ) N else N ρ) : Pn (whlP c body WF ρ) N R C B := by
  have go : ∀ (n m : Nat) (ρ : Rho), m < n → I m ρ → Pn (whlP c body n ρ) N R C B := by
    intro n
    induction n with
    | zero => intro m ρ h; omega
    | succ n ih =>
      intro m ρ h hI
      have k := hs m ρ hI
      rw [whlP_succ]
      cases ec : c ρ with
      | none => rw [ec] at k; exact k.nope.elim
      | some b =>
        rw [ec] at k
        have k := k.get
        cases b with
        | false => rw [if_neg (by decide)] at k; exact ⟨k⟩
        | true =>
          rw [if_pos rfl] at k
          dsimp only
          cases eb : body ρ with
          | nx ρ2 => rw [eb] at k; obtain ⟨m', h1, h2⟩ := k.h; exact ih m' ρ2 (by omega) h2
          | ct ρ2 => rw [eb] at k; obtain ⟨m', h1, h2⟩ := k.h; exact ih m' ρ2 (by omega) h2
          | bk ρ2 => rw [eb] at k; exact ⟨k.h⟩
          | rt p lv => rw [eb] at k; exact ⟨k.h⟩
          | no => rw [eb] at k; exact k.h.elim
  exact go WF m ρ hm h0
/-- a comprehension: each turn tells one value (its levels told apart) -/
theorem compP_one {f : P → Option (Option PV)} {Q : PVs → Prop} (k : P → P → Prop) (two : Bool) : ∀ (ps : List P), (∀ p ∈ ps, Tn (f p) fun x => ∃ v, x = some v ∧ k p v.p ∧ (two = true → v.lv = 2)) → (∀ v : PVs, v.ps.length = ps.length → (∀ (i : Nat) p q, ps[i]? = some p → v.ps[i]? = some q → k p q) → (two = true → v.two = true) → Q v) → Tn (compP f ps) Q
  | [], _, hq => ⟨_, rfl, hq ⟨[], true, []⟩ rfl (by simp) fun _ => rfl⟩
  | p :: ps, hs, hq => by
    unfold compP
    simp only [tn_bind, tn_map]
    refine (hs p (List.mem_cons_self ..)).mono fun x ⟨v, e, kv, hv⟩ => ?_
    subst e
    refine compP_one k two ps (fun q hq' => hs q (List.mem_cons_of_mem _ hq')) fun w hl hw ht => ?_
    refine hq _ (by simp [hl]) (fun i p' q' h1 h2 => ?_) fun z => by simp [hv z, ht z]
    cases i with
    | zero => simp at h1 h2; subst h1 h2; exact kv
    | succ i => exact hw i p' q' (by simpa using h1) (by simpa using h2)
theorem compP_map {f : P → Option (Option PV)} {Q : PVs → Prop} (g : P → P) : ∀ (ps : List P), (∀ p ∈ ps, ∃ lk, f p = some (some ⟨g p, 2, lk⟩)) → (∀ lk, Q ⟨ps.map g, true, lk⟩) → Tn (compP f ps) Q
  | [], _, hq => ⟨_, rfl, hq []⟩
  | p :: ps, hs, hq => by
    unfold compP
    obtain ⟨lk, e⟩ := hs p (List.mem_cons_self ..)
    rw [e]
    simp only [tn_bind, tn_map, tn_some]
    exact compP_map g ps (fun q hq' => hs q (List.mem_cons_of_mem _ hq')) fun lk' => hq _
/-! ### defs -/
theorem callP_succ {fn : Nat → Option CDef} {n f : Nat} {ps : List P} {d : CDef} {Q : P × Nat → Prop} (hf : fn f = some d) (hl : ps.length = d.ps)
    (q : Pn (evSPs (callP fn n) d.body ((ps.map fun p => some (nrm p 0)) ++ List.replicate (d.sl - d.ps) none)) (fun _ => Q (.non, 2)) (fun p lv => Q (p, lv)) (fun _ => False) (fun _ => False)) : Tn (callP fn (n + 1) f ps) Q := by
  have q := q.h
  unfold callP
  rw [hf]
  simp only [Option.bind]
  unfold runP
  rw [decide_eq_true hl]
  dsimp only
  cases e : evSPs (callP fn n) d.body ((ps.map fun p => some (nrm p 0)) ++ List.replicate (d.sl - d.ps) none) <;> rw [e] at q <;> first | exact ⟨_, rfl, q⟩ | exact q.elim
/-! ### values -/
@[simp] theorem scal_non : P.scal .non = true := rfl
@[simp] theorem scal_bl {b : Bool} : P.scal (.bl b) = true := rfl
@[simp] theorem scal_int {b : Int} : P.scal (.int b) = true := rfl
@[simp] theorem scal_str {b : Tx} : P.scal (.str b) = true := rfl
@[simp] theorem scal_tup {ps : List P} : P.scal (.tup ps) = P.scals ps := by rw [P.scal]
@[simp] theorem scal_lst {ps : List P} : P.scal (.lst ps) = false := rfl
@[simp] theorem scal_scr {is : List Int} : P.scal (.scr is) = false := rfl
@[simp] theorem scal_dct {ks : List D} {ps : List P} : P.scal (.dct ks ps) = false := rfl
@[simp] theorem scals_nil : P.scals [] = true := rfl
@[simp] theorem scals_cons {p : P} {ps : List P} : P.scals (p :: ps) = (P.scal p && P.scals ps) := by rw [P.scals]
@[simp] theorem scals_app {ps qs : List P} : P.scals (ps ++ qs) = (P.scals ps && P.scals qs) := by
  induction ps with
  | nil => simp
  | cons p ps ih => simp [ih, Bool.and_assoc]
theorem scals_all {ps : List P} : P.scals ps = ps.all P.scal := by
  induction ps with
  | nil => rfl
  | cons p ps ih => simp [ih]
@[simp] theorem scals_map {α : Type} {f : α → P} {l : List α} : P.scals (l.map f) = l.all fun a => P.scal (f a) := by rw [scals_all, List.all_map]; rfl
theorem scals_strs (l : List Tx) : P.scals (l.map .str) = true := by simp
theorem scals_ints (l : List Int) : P.scals (l.map .int) = true := by simp
/-! ### levels, where they are known -/
variable {lk : List Nat} {lv : Nat}
@[simp] theorem opv_non : opv .non lk = ⟨.non, 2, []⟩ := rfl
@[simp] theorem opv_bl {b : Bool} : opv (.bl b) lk = ⟨.bl b, 2, []⟩ := rfl
@[simp] theorem opv_int {b : Int} : opv (.int b) lk = ⟨.int b, 2, []⟩ := rfl
@[simp] theorem opv_str {b : Tx} : opv (.str b) lk = ⟨.str b, 2, []⟩ := rfl
@[simp] theorem opv_nil : opv (.lst []) lk = ⟨.lst [], 2, []⟩ := rfl
@[simp] theorem opv_lst {ps : List P} (h : P.scals ps = true) : opv (.lst ps) lk = ⟨.lst ps, 2, []⟩ := by unfold opv; simp [h]
@[simp] theorem opv_map {α : Type} {f : α → P} {l : List α} (h : ∀ a ∈ l, P.scal (f a) = true) : opv (.lst (l.map f)) lk = ⟨.lst (l.map f), 2, []⟩ := opv_lst (by simpa using h)
@[simp] theorem opv_tup {ps : List P} (h : P.scals ps = true) : opv (.tup ps) lk = ⟨.tup ps, 2, []⟩ := by unfold opv; simp [h]
@[simp] theorem opv_pp {r : P} : (opv r lk).p = r := opv_p
@[simp] theorem vr_non : vr .non lv lk = ⟨.non, 2, []⟩ := rfl
@[simp] theorem vr_bl {b : Bool} : vr (.bl b) lv lk = ⟨.bl b, 2, []⟩ := rfl
@[simp] theorem vr_int {b : Int} : vr (.int b) lv lk = ⟨.int b, 2, []⟩ := rfl
@[simp] theorem vr_str {b : Tx} : vr (.str b) lv lk = ⟨.str b, 2, []⟩ := rfl
@[simp] theorem lkv0 : lkv 0 lk = lk := rfl
@[simp] theorem lkv1 : lkv 1 lk = lk := rfl
@[simp] theorem lkv2 : lkv 2 lk = [] := rfl
@[simp] theorem vr_lst {b : List P} : vr (.lst b) lv lk = ⟨.lst b, lv, lkv lv lk⟩ := rfl
@[simp] theorem vr_scr {b : List Int} : vr (.scr b) lv lk = ⟨.scr b, lv, lkv lv lk⟩ := rfl
@[simp] theorem vr_dct {ks : List D} {b : List P} : vr (.dct ks b) lv lk = ⟨.dct ks b, lv, lkv lv lk⟩ := rfl
@[simp] theorem vr_tup {ps : List P} (h : P.scals ps = true) : vr (.tup ps) lv lk = ⟨.tup ps, 2, []⟩ := by unfold vr; rw [scal_tup, h]
theorem vr_sc {p : P} (h : p.scal = true) : vr p lv lk = ⟨p, 2, []⟩ := by unfold vr; rw [h]
theorem vr_ns {p : P} (h : p.scal = false) : vr p lv lk = ⟨p, lv, lkv lv lk⟩ := by unfold vr; rw [h]
@[simp] theorem vr_p {p : P} : (vr p lv lk).p = p := by unfold vr; cases p.scal <;> rfl
variable {x : PV}
@[simp] theorem part_non : partv .non x = ⟨.non, 2, []⟩ := rfl
@[simp] theorem part_bl {b : Bool} : partv (.bl b) x = ⟨.bl b, 2, []⟩ := rfl
@[simp] theorem part_int {b : Int} : partv (.int b) x = ⟨.int b, 2, []⟩ := rfl
@[simp] theorem part_str {b : Tx} : partv (.str b) x = ⟨.str b, 2, []⟩ := rfl
@[simp] theorem part_tup {ps : List P} (h : P.scals ps = true) : partv (.tup ps) x = ⟨.tup ps, 2, []⟩ := by unfold partv; rw [scal_tup, h]
theorem part_sc {p : P} (h : p.scal = true) : partv p x = ⟨p, 2, []⟩ := by unfold partv; rw [h]
@[simp] theorem part_p {p : P} : (partv p x).p = p := by unfold partv; cases p.scal <;> rfl
theorem part0 {p q : P} {lk : List Nat} (h : p.scal = false) : partv p ⟨q, 0, lk⟩ = ⟨p, 0, lk⟩ := by unfold partv; rw [h]; rfl
@[simp] theorem nrm_non : nrm .non lv = (.non, 2) := rfl
@[simp] theorem nrm_bl {b : Bool} : nrm (.bl b) lv = (.bl b, 2) := rfl
@[simp] theorem nrm_int {b : Int} : nrm (.int b) lv = (.int b, 2) := rfl
@[simp] theorem nrm_str {b : Tx} : nrm (.str b) lv = (.str b, 2) := rfl
@[simp] theorem nrm_lst {b : List P} : nrm (.lst b) lv = (.lst b, lv) := rfl
@[simp] theorem nrm_scr {b : List Int} : nrm (.scr b) lv = (.scr b, lv) := rfl
@[simp] theorem nrm_dct {ks : List D} {b : List P} : nrm (.dct ks b) lv = (.dct ks b, lv) := rfl
@[simp] theorem nrm_1 {p : P} : (nrm p lv).1 = p := by unfold nrm; cases p.scal <;> rfl
@[simp] theorem nrm_tup {ps : List P} (h : P.scals ps = true) : nrm (.tup ps) lv = (.tup ps, 2) := by unfold nrm; rw [scal_tup, h]
theorem nrm_sc {p : P} (h : p.scal = true) : nrm p lv = (p, 2) := by unfold nrm; rw [h]
theorem nrm_ns {p : P} (h : p.scal = false) : nrm p lv = (p, lv) := by unfold nrm; rw [h]
@[simp] theorem lstv_pp {v : PVs} : (lstv v).p = .lst v.ps := lstv_p
@[simp] theorem tupv_pp {v : PVs} : (tupv v).p = .tup v.ps := tupv_p
@[simp] theorem lstv_sc {ps : List P} {t : Bool} (h : P.scals ps = true) : lstv ⟨ps, t, lk⟩ = ⟨.lst ps, 2, []⟩ := by unfold lstv; simp [h]
@[simp] theorem tupv_ns {ps : List P} (h : P.scals ps = false) : tupv ⟨ps, false, lk⟩ = ⟨.tup ps, 0, lk⟩ := by unfold tupv; simp [h]
@[simp] theorem lstv_ns {ps : List P} (h : P.scals ps = false) : lstv ⟨ps, false, lk⟩ = ⟨.lst ps, 1, lk⟩ := by unfold lstv; simp [h]
@[simp] theorem lstv_two {ps : List P} : lstv ⟨ps, true, lk⟩ = ⟨.lst ps, 2, []⟩ := by unfold lstv; cases P.scals ps <;> rfl
@[simp] theorem lstv_nil {t : Bool} : lstv ⟨[], t, lk⟩ = ⟨.lst [], 2, []⟩ := by cases t <;> rfl
@[simp] theorem tupv_sc {ps : List P} {t : Bool} (h : P.scals ps = true) : tupv ⟨ps, t, lk⟩ = ⟨.tup ps, 2, []⟩ := by unfold tupv; simp [h]
@[simp] theorem tupv_two {ps : List P} : tupv ⟨ps, true, lk⟩ = ⟨.tup ps, 2, []⟩ := by unfold tupv; cases P.scals ps <;> rfl
@[simp] theorem drp_nil : drp [] ρ = ρ := rfl
@[simp] theorem drp_cons {i : Nat} : drp (i :: lk) ρ = (drp lk ρ).modify i fun s => s.map fun q => nrm q.1 0 := rfl
@[simp] theorem dP_non : dP .non = some .non := by rw [dP]
@[simp] theorem dP_bl {b : Bool} : dP (.bl b) = some (.bl b) := by rw [dP]
@[simp] theorem dP_int {b : Int} : dP (.int b) = some (.int b) := by rw [dP]
@[simp] theorem dP_str {b : Tx} : dP (.str b) = some (.str b) := by rw [dP]
@[simp] theorem asg_nm {i : Nat} {p : P} : asgP (.nm i) p lv ρ = grd (decide (i < ρ.length)) (ρ.set i (some (nrm p lv))) := rfl
@[simp] theorem asg_tp {ts : List Tg} {ps : List P} : asgP (.tp ts) (.tup ps) lv ρ = asgPs ts ps 0 ρ := rfl
@[simp] theorem asgs_nil : asgPs [] [] lv ρ = some ρ := rfl
@[simp] theorem asgs_cons {t : Tg} {ts : List Tg} {p : P} {ps : List P} : asgPs (t :: ts) (p :: ps) lv ρ = (asgP t p lv ρ).bind fun ρ' => asgPs ts ps lv ρ' := rfl
@[simp] theorem wpP_nil : wpP ρ [] = ρ := rfl
@[simp] theorem wpP_cons {v : Nat} {vs : List Nat} : wpP ρ (v :: vs) = (wpP ρ vs).set v none := rfl
@[simp] theorem slotP_eq {i : Nat} : slotP ρ i = ρ[i]?.bind id := rfl
/-! ### operators -/
@[simp] theorem p_addi {i j : Int} : binP .add (.int i) (.int j) = some (.int (i + j)) := rfl
@[simp] theorem p_adds {i j : Tx} : binP .add (.str i) (.str j) = grd (decide (i.length + j.length ≤ LIM)) (.str (i ++ j)) := nrfl rfl
@[simp] theorem p_addl {i j : List P} : binP .add (.lst i) (.lst j) = grd (decide (i.length + j.length ≤ LIM)) (.lst (i ++ j)) := nrfl rfl
@[simp] theorem p_addt {i j : List P} : binP .add (.tup i) (.tup j) = grd (decide (i.length + j.length ≤ LIM)) (.tup (i ++ j)) := nrfl rfl
@[simp] theorem p_sub {i j : Int} : binP .sub (.int i) (.int j) = some (.int (i - j)) := rfl
@[simp] theorem p_mul {i j : Int} : binP .mul (.int i) (.int j) = grd (mulOk i j) (.int (i * j)) := nrfl rfl
@[simp] theorem p_muls {s : Tx} {k : Int} : binP .mul (.str s) (.int k) = grd (decide (0 ≤ k ∧ k ≤ 1000 ∧ s.length ≤ 1000)) (.str (repT s k.toNat)) := nrfl rfl
@[simp] theorem p_mull {a : List P} {k : Int} : binP .mul (.lst a) (.int k) = grd (decide (-(9223372036854775808 : Int) ≤ k ∧ k < 9223372036854775808 ∧ a.length * k.toNat ≤ LIM)) (.lst (repT a k.toNat)) := nrfl rfl
@[simp] theorem p_fdiv {i j : Int} : binP .fdiv (.int i) (.int j) = grd (divOk j) (.int (i / j)) := nrfl rfl
@[simp] theorem p_mod {i j : Int} : binP .mod (.int i) (.int j) = grd (decide (0 < j)) (.int (i % j)) := nrfl rfl
@[simp] theorem p_pow {i j : Int} : binP .pow (.int i) (.int j) = grd (powOk i j) (.int (i ^ j.toNat)) := nrfl rfl
theorem mul_r {i j : Int} (hj : -(18446744073709551616 : Int) < j ∧ j < 18446744073709551616) : mulOk i j = true := by
  unfold mulOk clear64
  simp [hj.1, hj.2]
theorem mul_l {i j : Int} (hj : -(18446744073709551616 : Int) < i ∧ i < 18446744073709551616) : mulOk i j = true := by
  unfold mulOk clear64
  simp [hj.1, hj.2]
theorem div_ok {j : Int} (hj : 0 < j ∧ j < 1073741824) : divOk j = true := by
  unfold divOk
  simp [hj.1, hj.2]
@[simp] theorem q_lti {i j : Int} : cmpP .lt (.int i) (.int j) = some (decide (i < j)) := rfl
@[simp] theorem q_lei {i j : Int} : cmpP .le (.int i) (.int j) = some (decide (i ≤ j)) := rfl
@[simp] theorem q_gti {i j : Int} : cmpP .gt (.int i) (.int j) = some (decide (j < i)) := rfl
@[simp] theorem q_gei {i j : Int} : cmpP .ge (.int i) (.int j) = some (decide (j ≤ i)) := rfl
@[simp] theorem q_lts {i j : Tx} : cmpP .lt (.str i) (.str j) = some (decide (i < j)) := rfl
@[simp] theorem q_gts {i j : Tx} : cmpP .gt (.str i) (.str j) = some (decide (j < i)) := rfl
@[simp] theorem q_isN {p : P} : cmpP .is_ p .non = some (isNonP p) := by cases p <;> rfl
@[simp] theorem q_isnN {p : P} : cmpP .isnot p .non = some (!isNonP p) := by cases p <;> rfl
@[simp] theorem q_isB {a b : Bool} : cmpP .is_ (.bl a) (.bl b) = some (decide (a = b)) := rfl
@[simp] theorem q_isnB {a b : Bool} : cmpP .isnot (.bl a) (.bl b) = some (!decide (a = b)) := rfl
@[simp] theorem n_non : isNonP .non = true := rfl
@[simp] theorem n_bl {b : Bool} : isNonP (.bl b) = false := rfl
@[simp] theorem n_int {b : Int} : isNonP (.int b) = false := rfl
@[simp] theorem n_str {b : Tx} : isNonP (.str b) = false := rfl
@[simp] theorem n_tup {b : List P} : isNonP (.tup b) = false := rfl
@[simp] theorem n_lst {b : List P} : isNonP (.lst b) = false := rfl
@[simp] theorem q_eqi {i j : Int} : cmpP .eq (.int i) (.int j) = some (decide (i = j)) := by
  show some (PyData.eqv (.int i) (.int j)) = _; rw [PyData.eqv, Bool.beq_eq_decide_eq]
@[simp] theorem q_nei {i j : Int} : cmpP .ne (.int i) (.int j) = some (!decide (i = j)) := by
  show some (!PyData.eqv (.int i) (.int j)) = _; rw [PyData.eqv, Bool.beq_eq_decide_eq]
theorem tx_eq {a b : Tx} : ((⟨a.toArray⟩ : Str) == ⟨b.toArray⟩) = decide (a = b) := by
  by_cases e : a = b
  · subst e; simp
  · rw [decide_eq_false e]
    apply beq_eq_false_iff_ne.mpr
    intro z
    injection z with z
    exact e (by simpa using z)
@[simp] theorem q_eqs {i j : Tx} : cmpP .eq (.str i) (.str j) = some (decide (i = j)) := by
  show some (PyData.eqv (.str _) (.str _)) = _; rw [PyData.eqv, tx_eq]
@[simp] theorem q_nes {i j : Tx} : cmpP .ne (.str i) (.str j) = some (!decide (i = j)) := by
  show some (!PyData.eqv (.str _) (.str _)) = _; rw [PyData.eqv, tx_eq]
@[simp] theorem q_eqb {i j : Bool} : cmpP .eq (.bl i) (.bl j) = some (decide (i = j)) := by cases i <;> cases j <;> rfl
@[simp] theorem q_neb {i j : Bool} : cmpP .ne (.bl i) (.bl j) = some (!decide (i = j)) := by cases i <;> cases j <;> rfl
@[simp] theorem q_in {p q : P} : cmpP .in_ p q = inP p q := rfl
@[simp] theorem q_nin {p q : P} : cmpP .nin p q = (inP p q).map fun b => !b := rfl
@[simp] theorem t_bl {b : Bool} : truP (.bl b) = some b := rfl
@[simp] theorem t_non : truP .non = some false := rfl
@[simp] theorem t_int {b : Int} : truP (.int b) = some (b != 0) := rfl
@[simp] theorem t_lst {b : List P} : truP (.lst b) = some (!b.isEmpty) := rfl
@[simp] theorem i_lst {ps : List P} {k : Int} : idxP (.lst ps) (.int k) = (ixD ps.length k).bind fun j => ps[j]? := rfl
@[simp] theorem i_tup {ps : List P} {k : Int} : idxP (.tup ps) (.int k) = (ixD ps.length k).bind fun j => ps[j]? := rfl
@[simp] theorem i_scr {is : List Int} {k : Int} : idxP (.scr is) (.int k) = (ixD is.length k).bind fun j => is[j]?.map .int := rfl
@[simp] theorem i_str {s : Tx} {k : Int} : idxP (.str s) (.int k) = (grd (decide (s.length ≤ LIM)) ()).bind fun _ => (ixD s.length k).bind fun j => s[j]?.map fun c => .str [c] := nrfl rfl
@[simp] theorem l_str {s : Tx} : bltP .len [.str s] = grd (decide (s.length ≤ LIM)) (.int s.length) := nrfl rfl
@[simp] theorem l_tup {s : List P} : bltP .len [.tup s] = some (.int s.length) := rfl
@[simp] theorem l_lst {s : List P} : bltP .len [.lst s] = some (.int s.length) := rfl
@[simp] theorem l_scr {s : List Int} : bltP .len [.scr s] = some (.int s.length) := rfl
@[simp] theorem b_int {i : Int} : bltP .int [.int i] = some (.int i) := rfl
@[simp] theorem b_intb {i : Bool} : bltP .int [.bl i] = some (.int (if i then 1 else 0)) := rfl
@[simp] theorem b_str {i : Int} : bltP .str [.int i] = grd (decide (i.natAbs.log2 < 1920)) (.str (showI i)) := nrfl rfl
@[simp] theorem b_strs {i : Tx} : bltP .str [.str i] = some (.str i) := rfl
@[simp] theorem b_list {ps : List P} : bltP .list [.lst ps] = some (.lst ps) := rfl
@[simp] theorem b_listt {ps : List P} : bltP .list [.tup ps] = some (.lst ps) := rfl
@[simp] theorem b_lists {is : List Int} : bltP .list [.scr is] = some (.lst (is.map .int)) := rfl
@[simp] theorem b_isi {p : P} {t : Ty} : bltP (.isi t) [p] = (isTyP p t).map .bl := rfl
@[simp] theorem b_min {i j : Int} : bltP .min [.int i, .int j] = some (.int (if j < i then j else i)) := rfl
@[simp] theorem b_max {i j : Int} : bltP .max [.int i, .int j] = some (.int (if i < j then j else i)) := rfl
@[simp] theorem y_non {t : Ty} : isTyP .non t = some false := rfl
@[simp] theorem y_bl {t : Ty} {b : Bool} : isTyP (.bl b) t = some (t == .bool || t == .int) := rfl
@[simp] theorem y_int {t : Ty} {b : Int} : isTyP (.int b) t = some (t == .int) := rfl
@[simp] theorem y_str {t : Ty} {b : Tx} : isTyP (.str b) t = some (t == .str) := rfl
@[simp] theorem y_tup {t : Ty} {b : List P} : isTyP (.tup b) t = some (t == .tuple) := rfl
@[simp] theorem y_lst {t : Ty} {b : List P} : isTyP (.lst b) t = some (t == .list) := rfl
@[simp] theorem s_str {s : Tx} {l u : Option Int} : slcP (.str s) l u = grd (decide (s.length ≤ LIM)) (.str (cut s l u)) := nrfl rfl
@[simp] theorem s_tup {s : List P} {l u : Option Int} : slcP (.tup s) l u = some (.tup (cut s l u)) := rfl
@[simp] theorem s_lst {s : List P} {l u : Option Int} : slcP (.lst s) l u = some (.lst (cut s l u)) := rfl
@[simp] theorem s_scr {s : List Int} {l u : Option Int} : slcP (.scr s) l u = some (.lst ((cut s l u).map .int)) := rfl
@[simp] theorem e_non {p : P} : endP (.cst .non) p = some none := rfl
@[simp] theorem e_cst {i j : Int} : endP (.cst (.int j)) (.int i) = some (some i) := rfl
@[simp] theorem e_var {i : Int} {n : Nat} : endP (.var n) (.int i) = some (some i) := rfl
@[simp] theorem e_bin {i : Int} {o : BOp} {a b : CE} : endP (.bin o a b) (.int i) = some (some i) := rfl
@[simp] theorem e_idx {i : Int} {a b : CE} : endP (.idx a b) (.int i) = some (some i) := rfl
@[simp] theorem e_neg {i : Int} {a : CE} : endP (.neg a) (.int i) = some (some i) := rfl
@[simp] theorem w_str {s : Tx} : walkP (.str s) = grd (decide (s.length ≤ LIM)) (s.map fun c => .str [c]) := nrfl rfl
@[simp] theorem w_tup {s : List P} : walkP (.tup s) = some s := rfl
@[simp] theorem w_lst {s : List P} : walkP (.lst s) = some s := rfl
@[simp] theorem w_scr {s : List Int} : walkP (.scr s) = some (s.map .int) := rfl
@[simp] theorem sq_tup {s : List P} : seqP (.tup s) = some s := rfl
@[simp] theorem sq_lst {s : List P} : seqP (.lst s) = some s := rfl
@[simp] theorem sq_scr {s : List Int} : seqP (.scr s) = some (s.map .int) := rfl
@[simp] theorem it_tup {s : List P} : isTupP (.tup s) = true := rfl
@[simp] theorem it_lst {s : List P} : isTupP (.lst s) = false := rfl
@[simp] theorem it_scr {s : List Int} : isTupP (.scr s) = false := rfl
@[simp] theorem turn_eq {t : Tg} {elt : CE} {c : Option CT} {p : P} {Q : Option PV → Prop} : Tn (turnP FP t elt c ρ p) Q = Tn (asgP t p 0 ρ) fun ρ' => match c with
    | none => Tn (evP FP elt ρ') fun v => Q (some v)
    | some c => Tn (evPT FP c ρ') fun k => if k = true then Tn (evP FP elt ρ') fun v => Q (some v) else Q none := by
  unfold turnP
  simp only [tn_bind]
  congr 1; funext ρ'
  cases c with
  | none => simp only [tn_map]
  | some c => simp only [tn_bind]; congr 1; funext k; cases k <;> simp
theorem ix_nat {n k : Nat} (hk : k < n) : ixD n (k : Int) = some k := by
  unfold ixD
  rw [if_pos (by omega), if_pos (by omega)]
  simp
theorem ix_of {n : Nat} {k : Int} (h0 : 0 ≤ k) (hk : k < n) : ixD n k = some k.toNat := by
  unfold ixD
  rw [if_pos h0, if_pos hk]
theorem strs_map {ts : List Tx} : strsP (ts.map .str) = some ts := by
  induction ts with
  | nil => rfl
  | cons t ts ih => simp [strsP, ih]
theorem ints_map {ts : List Int} : intsP (ts.map .int) = some ts := by
  induction ts with
  | nil => rfl
  | cons t ts ih => simp [intsP, ih]
/-! ### changes -/
@[simp] theorem path_var {i : Nat} : pathP FP (.var i) ρ = some (i, []) := rfl
/-- a list in a slot, written -/
theorem tn_mut {b : Bm} {i : Nat} {es : CEs} {Q : Rho → Prop} : Tn (mutP FP b (.var i) es ρ) Q = Tn (evPs FP es ρ) fun v => Tn (ρ[i]?.bind id) fun s => (canP s.2 [] && !decide (i ∈ v.lk)) = true ∧ match s.1 with
    | .lst ps => Tn (mtdP b ps v) fun r => Q ((drp v.lk ρ).set i (some (.lst r.1, lvP r.2 s.2 [])))
    | _ => False := by
  unfold mutP
  simp only [path_var, tn_bind, tn_some, slotP_eq, tn_grd, getP_nil]
  congr 1; funext v; congr 1; funext o; congr 1; funext s
  congr 1
  cases s.1 <;> simp [setP_nil]
@[simp] theorem can2 {path : List Nat} : canP 2 path = true := rfl
@[simp] theorem can1 : canP 1 [] = true := rfl
@[simp] theorem lvT {path : List Nat} : lvP true lv path = lv := rfl
@[simp] theorem lvF : lvP false lv [] = 1 := rfl
@[simp] theorem m_app {ps : List P} {q : P} {t : Bool} : mtdP .append ps ⟨[q], t, lk⟩ = grd (decide (ps.length < LIM)) (ps ++ [q], q.scal || t) := nrfl rfl
@[simp] theorem m_ext {ps qs : List P} {t : Bool} : mtdP .extend ps ⟨[.lst qs], t, lk⟩ = grd (decide (ps.length + qs.length ≤ LIM)) (ps ++ qs, P.scals qs) := nrfl rfl
@[simp] theorem m_clear {ps : List P} {t : Bool} : mtdP .clear ps ⟨[], t, lk⟩ = some ([], true) := rfl
@[simp] theorem m_rev {ps : List P} {t : Bool} : mtdP .reverse ps ⟨[], t, lk⟩ = some (ps.reverse, true) := rfl
@[simp] theorem isM_app : isMut .append = true := rfl
@[simp] theorem isM_ext : isMut .extend = true := rfl
@[simp] theorem isM_clear : isMut .clear = true := rfl
@[simp] theorem isM_rev : isMut .reverse = true := rfl
@[simp] theorem isM_pop : isMut .pop = true := rfl
/-- the last item of a list in a slot, taken -/
theorem tn_pop {i : Nat} {t : Tg} {ps : List P} {y : P} {lv : Nat} {Q : Rho → Prop} (h1 : ρ[i]? = some (some (.lst (ps ++ [y]), lv))) (h2 : canP lv [] = true) (h3 : y.scal = true) (h : Tn (asgP t y 0 (ρ.set i (some (.lst ps, lv)))) Q) : Tn (stoP FP t (.bmt .pop (.var i) .nil) ρ) Q := by
  show Tn (popP FP (.var i) t ρ) Q
  unfold popP
  simp only [path_var, tn_bind, tn_some, slotP_eq, h1, Option.bind_some, id, getP_nil]
  have e1 : (ps ++ [y])[(ps ++ [y]).length - 1]? = some y := by simp
  rw [e1]
  simp only [tn_some, tn_bind, h3, tn_grd, true_and]
  have e2 : mutP FP .pop (.var i) .nil ρ = some (ρ.set i (some (.lst ps, lv))) := by
    unfold mutP
    simp only [path_var, Option.bind_some, slotP_eq, h1, id, getP_nil, evPs, h2]
    have e3 : mtdP .pop (ps ++ [y]) ⟨[], true, []⟩ = some (ps, true) := by
      unfold mtdP
      dsimp only
      cases hp : ps ++ [y] with
      | nil => simp at hp
      | cons a l => dsimp only; rw [← hp]; simp
    simp [grd, e3, setP_nil, lvP]
  rw [e2, tn_some]
  exact h
/-- a place of a list in a slot, written -/
theorem tn_seti {i : Nat} {k e : CE} {Q : Rho → Prop} : Tn (setiP FP (.var i) k e ρ) Q = Tn (evP FP e ρ) fun v => Tn (evP FP k ρ) fun kv => Tn (ρ[i]?.bind id) fun s => (canP s.2 [] && !decide (i ∈ v.lk)) = true ∧ match s.1 with
    | .lst ps => (match kv.p with
      | .int n => Tn (ixD ps.length n) fun j => Q ((drp v.lk ρ).set i (some (.lst (ps.set j v.p), lvP (v.p.scal || v.lv == 2) s.2 [])))
      | _ => False)
    | .dct ks vs => Tn (keyP kv.p) fun k => (v.p.scal = true ∧ ks.length < LIM) ∧ Q ((drp v.lk ρ).set i (some (.dct (putP ks vs k v.p).1 (putP ks vs k v.p).2, s.2)))
    | _ => False := by
  unfold setiP
  simp only [path_var, tn_bind, tn_some, slotP_eq, tn_grd, getP_nil]
  congr 1; funext v; congr 1; funext kv; congr 1; funext o; congr 1; funext s
  congr 1
  cases s.1 <;> simp [setP_nil, lvP]
  cases kv.p <;> simp [setP_nil]
end
end U
end

section
set_option maxRecDepth 100000
set_option maxHeartbeats 1000000
/-! Plain facts for laws: texts, depths, equality. -/
namespace U
open PySem
theorem succ_of {n k : Nat} (h : k + 1 ≤ n) : ∃ m, n = m + 1 ∧ k ≤ m := ⟨n - 1, by omega, by omega⟩
@[simp] theorem lim_eq : LIM = 16777216 := nrfl rfl
/-- a script's cell, 0 behind its end -/
def cellAt (ns : List Int) (k : Nat) : Int := ns[k]?.getD 0
theorem cut_len {α : Type} {s : List α} {l u : Option Int} : (cut s l u).length ≤ s.length := by
  unfold cut
  rw [List.length_take, List.length_drop]
  omega
theorem cut_mem {α : Type} {s : List α} {l u : Option Int} {x : α} (h : x ∈ cut s l u) : x ∈ s := List.mem_of_mem_drop (List.mem_of_mem_take h)
theorem all_strs {Pr : Tx → Prop} : ∀ {qs : List P}, (∀ q ∈ qs, ∃ t, q = .str t ∧ Pr t) → ∃ ts : List Tx, qs = ts.map .str ∧ ∀ t ∈ ts, Pr t
  | [], _ => ⟨[], rfl, by simp⟩
  | q :: qs, h => by
    obtain ⟨t, rfl, ht⟩ := h q (List.mem_cons_self ..)
    obtain ⟨ts, rfl, hts⟩ := all_strs fun q hq => h q (List.mem_cons_of_mem _ hq)
    exact ⟨t :: ts, rfl, by simp; exact ⟨ht, hts⟩⟩
theorem all_of {α : Type} {f : α → P} {Pr : α → Prop} : ∀ {qs : List P}, (∀ q ∈ qs, ∃ t, q = f t ∧ Pr t) → ∃ ts : List α, qs = ts.map f ∧ ∀ t ∈ ts, Pr t
  | [], _ => ⟨[], rfl, by simp⟩
  | q :: qs, h => by
    obtain ⟨t, rfl, ht⟩ := h q (List.mem_cons_self ..)
    obtain ⟨ts, rfl, hts⟩ := all_of fun q hq => h q (List.mem_cons_of_mem _ hq)
    exact ⟨t :: ts, rfl, by simp; exact ⟨ht, hts⟩⟩
theorem join_strs {s : Tx} {ts : List Tx} : bmtP .join (.str s) [.lst (ts.map .str)] = grd (decide (sumLen ts + s.length * ts.length ≤ LIM)) (.str (joinT s ts)) := by
  unfold bmtP
  dsimp only
  rw [strs_map]
  rfl
theorem join_tup {s : Tx} {ts : List Tx} : bmtP .join (.str s) [.tup (ts.map .str)] = grd (decide (sumLen ts + s.length * ts.length ≤ LIM)) (.str (joinT s ts)) := by
  unfold bmtP
  dsimp only
  rw [strs_map]
  rfl
theorem sum_le {b : Nat} : ∀ {ts : List Tx}, (∀ t ∈ ts, t.length ≤ b) → sumLen ts ≤ b * ts.length
  | [], _ => by simp [sumLen]
  | t :: ts, h => by
    have h1 := h t (List.mem_cons_self ..)
    have h2 := sum_le fun u hu => h u (List.mem_cons_of_mem _ hu)
    simp only [sumLen, List.length_cons]
    rw [Nat.mul_add]
    omega
theorem joinT_len : ∀ {s : Tx} {ts : List Tx}, (joinT s ts).length ≤ sumLen ts + s.length * ts.length
  | s, [] => by simp [joinT]
  | s, [a] => by simp [joinT, sumLen]
  | s, a :: b :: r => by
    have := @joinT_len s (b :: r)
    simp only [joinT, List.length_append, sumLen, List.length_cons] at this ⊢
    rw [Nat.mul_add s.length (r.length + 1) 1]
    omega
/-! ### depth -/
def P.dle (p : P) (d : Nat) : Prop := ∃ n, p.dep = some n ∧ n ≤ d
theorem deps_le {d : Nat} : ∀ {ps : List P}, (∀ p ∈ ps, p.dle d) → ∃ n, P.deps ps = some n ∧ n ≤ d
  | [], _ => ⟨0, by rw [P.deps], Nat.zero_le _⟩
  | p :: ps, h => by
    obtain ⟨n, e, hn⟩ := h p (List.mem_cons_self ..)
    obtain ⟨m, e2, hm⟩ := deps_le fun q hq => h q (List.mem_cons_of_mem _ hq)
    exact ⟨max n m, by rw [P.deps, e, e2]; rfl, by omega⟩
theorem dle_lst {d : Nat} {ps : List P} (h : ∀ p ∈ ps, p.dle d) : P.dle (.lst ps) (d + 1) := by
  obtain ⟨n, e, hn⟩ := deps_le h
  exact ⟨n + 1, by rw [P.dep, e]; rfl, by omega⟩
theorem dle_tup {d : Nat} {ps : List P} (h : ∀ p ∈ ps, p.dle d) : P.dle (.tup ps) (d + 1) := by
  obtain ⟨n, e, hn⟩ := deps_le h
  exact ⟨n + 1, by rw [P.dep, e]; rfl, by omega⟩
theorem dle_str {d : Nat} {s : Tx} : P.dle (.str s) d := ⟨0, by rw [P.dep] <;> (intros; contradiction), Nat.zero_le _⟩
theorem dle_int {d : Nat} {s : Int} : P.dle (.int s) d := ⟨0, by rw [P.dep] <;> (intros; contradiction), Nat.zero_le _⟩
theorem dle_non {d : Nat} : P.dle .non d := ⟨0, by rw [P.dep] <;> (intros; contradiction), Nat.zero_le _⟩
theorem dle_bl {d : Nat} {b : Bool} : P.dle (.bl b) d := ⟨0, by rw [P.dep] <;> (intros; contradiction), Nat.zero_le _⟩
theorem dle_strs {d : Nat} {ts : List Tx} : ∀ p ∈ ts.map P.str, p.dle d := fun p hp => by
  obtain ⟨t, _, rfl⟩ := List.mem_map.mp hp; exact dle_str
theorem dat_of {p : P} {d : Nat} (h : p.dle d) (hd : d < 59) : p.dat = true := by
  obtain ⟨n, e, hn⟩ := h
  unfold P.dat
  rw [e]
  exact decide_eq_true (by omega)
mutual
theorem eqv_self : ∀ (p : P), PyData.eqv p.py p.py = true
  | .non => by simp [P.py, PyData.eqv]
  | .bl b => by simp [P.py, PyData.eqv]
  | .int i => by simp [P.py, PyData.eqv]
  | .str s => by simp [P.py, PyData.eqv]
  | .tup ps => by simp only [P.py, PyData.eqv]; exact eqvs_self ps
  | .lst ps => by simp only [P.py, PyData.eqv]; exact eqvs_self ps
  | .scr is => by
    simp only [P.py, PyData.eqv]
    induction is with
    | nil => simp [PyData.eqvAll]
    | cons i is ih => simp [PyData.eqvAll, PyData.eqv, ih]
  | .dct _ _ => by simp [P.py, PyData.eqv]
  | .raw _ => by simp [P.py, PyData.eqv]
theorem eqvs_self : ∀ (ps : List P), PyData.eqvAll (P.pys ps) (P.pys ps) = true
  | [] => by simp [P.pys, PyData.eqvAll]
  | p :: ps => by simp only [P.pys, PyData.eqvAll, eqv_self p, eqvs_self ps, Bool.and_self]
end
theorem eq_self {p : P} (h : p.dat = true) : cmpP .eq p p = some true := by
  show grd (p.dat && p.dat) (PyData.eqv p.py p.py) = _
  rw [h, eqv_self]; rfl
theorem ne_self {p : P} (h : p.dat = true) : cmpP .ne p p = some false := by
  show grd (p.dat && p.dat) (!PyData.eqv p.py p.py) = _
  rw [h, eqv_self]; rfl
theorem rngP_get {lo : Int} {n i : Nat} {p : P} (h : (rngP lo n)[i]? = some p) : i < n ∧ p = .int (lo + (i : Int)) := by
  unfold rngP at h
  rw [List.getElem?_map] at h
  obtain ⟨k, h1, h2⟩ := Option.map_eq_some_iff.mp h
  have hi := (List.getElem?_eq_some_iff.mp h1).1
  simp at hi
  rw [List.getElem?_range hi] at h1
  cases h1
  exact ⟨hi, h2.symm⟩
theorem rngP_mem {lo : Int} {n : Nat} {p : P} (h : p ∈ rngP lo n) : ∃ k : Nat, k < n ∧ p = .int (lo + (k : Int)) := by
  obtain ⟨i, hi⟩ := List.getElem?_of_mem h
  exact ⟨i, (rngP_get hi).1, (rngP_get hi).2⟩
theorem rngD_get {lo : Int} {n i : Nat} {p : P} (h : (rngD lo n)[i]? = some p) : i < n ∧ p = .int (lo - (i : Int)) := by
  unfold rngD at h
  rw [List.getElem?_map] at h
  obtain ⟨k, h1, h2⟩ := Option.map_eq_some_iff.mp h
  have hi := (List.getElem?_eq_some_iff.mp h1).1
  simp at hi
  rw [List.getElem?_range hi] at h1
  cases h1
  exact ⟨hi, h2.symm⟩
@[simp] theorem rngD_len {lo : Int} {n : Nat} : (rngD lo n).length = n := by simp [rngD]
@[simp] theorem rngP_len {lo : Int} {n : Nat} : (rngP lo n).length = n := by simp [rngP]
/-- an index by a remainder -/
theorem ix_mod {n : Nat} {k m : Int} (hm : 0 < m) (hn : m ≤ n) : ∃ j, ixD n (k % m) = some j ∧ j < n := by
  have h1 := Int.emod_nonneg k (Int.ne_of_gt hm)
  have h2 := Int.emod_lt_of_pos k hm
  exact ⟨(k % m).toNat, ix_of h1 (by omega), by omega⟩
/-- a sign of the alphabet by a remainder -/
theorem idx_lst {ps : List P} {k : Int} {Q : P → Prop} {j : Nat} (h : ixD ps.length k = some j) (hq : ∀ p, ps[j]? = some p → Q p) : Tn ((ixD ps.length k).bind fun j => ps[j]?) Q := by
  rw [h]
  have hj := ixD_lt h
  show Tn ps[j]? Q
  rw [List.getElem?_eq_getElem hj]
  exact tn_mk (hq _ (List.getElem?_eq_getElem hj))
theorem idx_str {s : Tx} {k : Int} {Q : P → Prop} {j : Nat} (h : ixD s.length k = some j) (hl : s.length ≤ LIM) (hq : ∀ c, s[j]? = some c → Q (.str [c])) : Tn (idxP (.str s) (.int k)) Q := by
  simp only [i_str, tn_bind, tn_grd, decide_eq_true_eq]
  refine ⟨hl, ?_⟩
  rw [h]
  have hj := ixD_lt h
  simp only [tn_some, tn_map]
  rw [List.getElem?_eq_getElem hj]
  exact tn_mk (hq _ (List.getElem?_eq_getElem hj))
theorem tn_ix {n : Nat} {k : Int} {Q : Nat → Prop} (h0 : 0 ≤ k) (h1 : k < n) (h : k.toNat < n → Q k.toNat) : Tn (ixD n k) Q := by
  rw [ix_of h0 h1]
  exact tn_mk (h (by omega))
theorem tn_mod {n : Nat} {k m : Int} {Q : Nat → Prop} (hm : 0 < m) (hn : m ≤ n) (h : ∀ j, j < n → Q j) : Tn (ixD n (k % m)) Q := by
  obtain ⟨j, e, hj⟩ := ix_mod (k := k) hm hn
  rw [e]
  exact tn_mk (h j hj)
theorem tn_get {α : Type} {l : List α} {i : Nat} {Q : α → Prop} (h : i < l.length) (q : Q l[i]) : Tn l[i]? Q := by
  rw [List.getElem?_eq_getElem h]
  exact tn_mk q
theorem tn_mem {α : Type} {l : List α} {i : Nat} {Q : α → Prop} (h : i < l.length) (q : ∀ x ∈ l, Q x) : Tn l[i]? Q := tn_get h (q _ (List.getElem_mem h))
theorem mul_nat {k : Nat} {j : Int} (hk : k < 18446744073709551616) : mulOk (k : Int) j = true := mul_l (by omega)
theorem cut_to {α : Type} {l : List α} {m : Int} (h : 0 ≤ m) : cut l none (some m) = l.take m.toNat := by
  unfold cut sIx
  dsimp only
  rw [if_pos h, List.drop_zero, Nat.sub_zero, List.take_eq_take_iff]
  omega
theorem cut_from {α : Type} {l : List α} {m : Int} (h : 0 ≤ m) : cut l (some m) none = l.drop m.toNat := by
  unfold cut sIx
  dsimp only
  rw [if_pos h, List.take_of_length_le (by rw [List.length_drop]; omega)]
  by_cases e : m.toNat ≤ l.length
  · rw [Nat.min_eq_left e]
  · rw [Nat.min_eq_right (by omega), List.drop_of_length_le (Nat.le_refl _), List.drop_of_length_le (by omega)]
theorem lim_of {n k : Nat} (h : n ≤ k) (hk : k ≤ 16777216) : n ≤ LIM := Nat.le_trans h hk
end U
end

section
set_option maxRecDepth 100000
set_option maxHeartbeats 1000000
/-! Plain facts for laws: lists of texts, rules. -/
namespace U
open PySem
@[simp] theorem in_strs {w : Tx} {ws : List Tx} : inP (.str w) (.lst (ws.map .str)) = some (decide (w ∈ ws)) := by
  show grd (P.dat (.str w) && P.dat (.lst (ws.map .str))) _ = _
  rw [dat_of (dle_str (d := 0)) (by decide), dat_of (dle_lst (d := 0) dle_strs) (by decide)]
  show some _ = _
  congr 1
  induction ws with
  | nil => rfl
  | cons a ws ih =>
    rw [List.map_cons, List.any_cons, ih]
    show (PyData.eqv (.str _) (.str _) || _) = _
    rw [PyData.eqv, tx_eq]
    simp [Bool.decide_or, eq_comm (a := a)]
@[simp] theorem ix_strs {w : Tx} {ws : List Tx} : bmtP .index (.lst (ws.map .str)) [.str w] = (ws.findIdx? fun x => decide (x = w)).map fun j => .int (j : Nat) := by
  show (grd (P.dat (.lst (ws.map .str)) && P.dat (.str w)) ()).bind _ = _
  rw [dat_of (dle_str (d := 0)) (by decide), dat_of (dle_lst (d := 0) dle_strs) (by decide)]
  show (List.findIdx? _ _).map _ = _
  congr 1
  rw [List.findIdx?_map]
  congr 1
  funext x
  show PyData.eqv (.str _) (.str _) = _
  rw [PyData.eqv, tx_eq]
theorem find_mem {w : Tx} {ws : List Tx} (h : w ∈ ws) : ∃ j : Nat, ws.findIdx? (fun x => decide (x = w)) = some j ∧ j < ws.length ∧ ws[j]? = some w := by
  cases e : ws.findIdx? (fun x => decide (x = w)) with
  | none =>
    rw [List.findIdx?_eq_none_iff] at e
    have := e w h
    simp at this
  | some j =>
    rw [List.findIdx?_eq_some_iff_getElem] at e
    obtain ⟨hj, e1, _⟩ := e
    exact ⟨j, rfl, hj, by rw [List.getElem?_eq_getElem hj, of_decide_eq_true e1]⟩
/-- a word that simp does not take apart -/
inductive Tag {α : Type} (f : α → Prop) where | mk
structure Hid {α : Type} (f : α → Prop) (t : Tag f) (x : α) : Prop where
  h : f x
/-- the next statement (the list of statements may be a constant) -/
theorem pn_go {FP : Nat → List P → Option (P × Nat)} {ρ : Rho} {t : CSs} {s : CS} {r : CSs} {N : Rho → Prop} {R : P → Nat → Prop} {C B : Rho → Prop} (e : t = .cons s r) (h : Pn (evSP FP s ρ) (fun ρ => Pn (evSPs FP r ρ) N R C B) R C B) : Pn (evSPs FP t ρ) N R C B := by
  rw [e, pn_cons]; exact h
theorem pn_mid {FP : Nat → List P → Option (P × Nat)} {ρ : Rho} {t : CSs} {s : CS} {r : CSs} {N : Rho → Prop} {R : P → Nat → Prop} {C B : Rho → Prop} (M : Rho → Prop) (e : t = .cons s r) (h1 : Pn (evSP FP s ρ) M R C B) (h2 : ∀ ρ, M ρ → Pn (evSPs FP r ρ) N R C B) : Pn (evSPs FP t ρ) N R C B := by
  rw [e, pn_cons]
  exact h1.mono h2 (fun _ _ h => h) (fun _ h => h) (fun _ h => h)
/-- a comprehension's turn gives a value of a kind -/
structure Gives {α : Type} (enc : α → P) (K : α → Prop) (x : Option PV) : Prop where
  h : ∃ a lk, x = some ⟨enc a, 2, lk⟩ ∧ K a
theorem compP_enc {α : Type} {f : P → Option (Option PV)} {Q : PVs → Prop} {enc : α → P} (K : P → α → Prop) : ∀ (ps : List P), (∀ p ∈ ps, Tn (f p) (Gives enc (K p))) → (∀ (as : List α) lk, as.length = ps.length → (∀ (i : Nat) p a, ps[i]? = some p → as[i]? = some a → K p a) → Q ⟨as.map enc, true, lk⟩) → Tn (compP f ps) Q
  | [], _, hq => ⟨_, rfl, hq [] [] rfl (by simp)⟩
  | p :: ps, hs, hq => by
    unfold compP
    simp only [tn_bind, tn_map]
    refine (hs p (List.mem_cons_self ..)).mono fun x ⟨a, lk, e, ka⟩ => ?_
    subst e
    refine compP_enc (enc := enc) K ps (fun q hq' => hs q (List.mem_cons_of_mem _ hq')) fun as lk' hl ha => ?_
    exact hq (a :: as) _ (by simp [hl]) fun i p' a' h1 h2 => by
      cases i with
      | zero => simp at h1 h2; subst h1 h2; exact ka
      | succ i => exact ha i p' a' (by simpa using h1) (by simpa using h2)
theorem compP_rng {α : Type} {f : P → Option (Option PV)} {Q : PVs → Prop} {enc : α → P} (K : Nat → α → Prop) {lo : Int} {n : Nat} (h : ∀ k : Nat, k < n → Tn (f (.int (lo + (k : Int)))) (Gives enc (K k))) (hq : ∀ (as : List α) lk, as.length = n → (∀ (k : Nat) a, as[k]? = some a → K k a) → Q ⟨as.map enc, true, lk⟩) : Tn (compP f (rngP lo n)) Q := by
  refine compP_enc (enc := enc) (fun p a => ∀ k : Nat, k < n → p = .int (lo + (k : Int)) → K k a) _ (fun p hp => ?_) fun as lk hl ha => ?_
  · obtain ⟨k, hk, rfl⟩ := rngP_mem hp
    refine (h k hk).mono fun x ⟨a, lk, e, ka⟩ => ⟨a, lk, e, fun k' hk' e' => ?_⟩
    injection e' with e'
    have : k = k' := by omega
    subst this
    exact ka
  · have hl' : as.length = n := by rw [hl]; exact rngP_len
    refine hq as lk hl' fun k a hk => ?_
    have hk' := (List.getElem?_eq_some_iff.mp hk).1
    have hr : (rngP lo n)[k]? = some ((rngP lo n)[k]'(by rw [rngP_len]; omega)) := List.getElem?_eq_getElem _
    obtain ⟨h1, h2⟩ := rngP_get hr
    exact ha k _ a hr hk k h1 h2
theorem compP_fun {α β : Type} {f : P → Option (Option PV)} {Q : PVs → Prop} {enc : α → P} {encB : β → P} (g : β → α) : ∀ (l : List β), (∀ b ∈ l, Tn (f (encB b)) (Gives enc fun a => a = g b)) → (∀ lk, Q ⟨(l.map g).map enc, true, lk⟩) → Tn (compP f (l.map encB)) Q
  | [], _, hq => ⟨_, rfl, hq []⟩
  | b :: l, hs, hq => by
    rw [List.map_cons]
    unfold compP
    simp only [tn_bind, tn_map]
    refine (hs b (List.mem_cons_self ..)).mono fun x ⟨a, lk, e, ka⟩ => ?_
    subst e ka
    exact compP_fun (enc := enc) g l (fun q hq' => hs q (List.mem_cons_of_mem _ hq')) fun lk' => hq _
/-- a comprehension over a list of a kind -/
theorem compP_lst {α β : Type} {f : P → Option (Option PV)} {Q : PVs → Prop} {enc : α → P} {encB : β → P} (K : β → α → Prop) : ∀ (l : List β), (∀ b ∈ l, Tn (f (encB b)) (Gives enc (K b))) → (∀ (as : List α) lk, as.length = l.length → (∀ (i : Nat) b a, l[i]? = some b → as[i]? = some a → K b a) → Q ⟨as.map enc, true, lk⟩) → Tn (compP f (l.map encB)) Q
  | [], _, hq => ⟨_, rfl, hq [] [] rfl (by simp)⟩
  | b :: l, hs, hq => by
    rw [List.map_cons]
    unfold compP
    simp only [tn_bind, tn_map]
    refine (hs b (List.mem_cons_self ..)).mono fun x ⟨a, lk, e, ka⟩ => ?_
    subst e
    refine compP_lst (enc := enc) K l (fun q hq' => hs q (List.mem_cons_of_mem _ hq')) fun as lk' hl ha => ?_
    exact hq (a :: as) _ (by simp [hl]) fun i p' a' h1 h2 => by
      cases i with
      | zero => simp at h1 h2; subst h1 h2; exact ka
      | succ i => exact ha i p' a' (by simpa using h1) (by simpa using h2)
theorem all_get {α : Type} {l : List α} {Pr : α → Prop} (h : ∀ (k : Nat) a, l[k]? = some a → Pr a) : ∀ a ∈ l, Pr a := fun a ha => by
  obtain ⟨i, hi⟩ := List.getElem?_of_mem ha
  exact h i a hi
theorem strsP_map : ∀ {l : List P} {ts : List Tx}, strsP l = some ts → l = ts.map .str
  | [], ts, e => by cases e; rfl
  | .str a :: l, ts, e => by
    obtain ⟨us, e1, rfl⟩ := Option.map_eq_some_iff.mp (show (strsP l).map (a :: ·) = some ts from e)
    rw [strsP_map e1]; rfl
  | .non :: _, _, e => by cases e
  | .bl _ :: _, _, e => by cases e
  | .int _ :: _, _, e => by cases e
  | .tup _ :: _, _, e => by cases e
  | .lst _ :: _, _, e => by cases e
  | .scr _ :: _, _, e => by cases e
  | .dct _ _ :: _, _, e => by cases e
theorem intsP_map : ∀ {l : List P} {ts : List Int}, intsP l = some ts → l = ts.map .int
  | [], ts, e => by cases e; rfl
  | .int a :: l, ts, e => by
    obtain ⟨us, e1, rfl⟩ := Option.map_eq_some_iff.mp (show (intsP l).map (a :: ·) = some ts from e)
    rw [intsP_map e1]; rfl
  | .non :: _, _, e => by cases e
  | .bl _ :: _, _, e => by cases e
  | .str _ :: _, _, e => by cases e
  | .tup _ :: _, _, e => by cases e
  | .lst _ :: _, _, e => by cases e
  | .scr _ :: _, _, e => by cases e
  | .dct _ _ :: _, _, e => by cases e
theorem tn_intsl {l : List P} {ts : List Int} {j : Nat} {Q : P → Prop} (e : intsP l = some ts) (hj : j < ts.length) (h : ∀ t ∈ ts, Q (.int t)) : Tn l[j]? Q := by
  rw [intsP_map e, List.getElem?_map, List.getElem?_eq_getElem hj]
  exact tn_mk (h _ (List.getElem_mem hj))
/-- a place of a written list of texts -/
theorem tn_strs {l : List P} {ts : List Tx} {j : Nat} {Q : P → Prop} (e : strsP l = some ts) (hj : j < ts.length) (h : ∀ t ∈ ts, Q (.str t)) : Tn l[j]? Q := by
  rw [strsP_map e, List.getElem?_map, List.getElem?_eq_getElem hj]
  exact tn_mk (h _ (List.getElem_mem hj))
@[simp] theorem tn_ixl {n k : Nat} {Q : Nat → Prop} (h : @OfNat.ofNat Nat k (instOfNatNat k) < n) : Tn (ixD n (no_index (@OfNat.ofNat Int k instOfNat))) Q = Q (@OfNat.ofNat Nat k (instOfNatNat k)) := by
  have e : ixD n (@OfNat.ofNat Int k instOfNat) = some k := ix_nat h
  rw [e, tn_some]; rfl
@[simp] theorem tn_ix0 {n : Nat} {Q : Nat → Prop} (h : 0 < n) : Tn (ixD n 0) Q = Q 0 := by
  rw [show ixD n 0 = some 0 from ix_nat (k := 0) h, tn_some]
@[simp] theorem tn_ix1 {n : Nat} {Q : Nat → Prop} (h : 1 < n) : Tn (ixD n 1) Q = Q 1 := by
  rw [show ixD n 1 = some 1 from ix_nat (k := 1) h, tn_some]
/-- a list's place -/
theorem tn_at {α : Type} {l : List α} {n : Nat} {k : Int} {Q : α → Prop} (hn : l.length = n) (h0 : 0 ≤ k) (h1 : k < n) (q : ∀ x ∈ l, Q x) : Tn (ixD n k) fun j => Tn l[j]? Q := by
  subst hn
  refine tn_ix h0 h1 fun h => ?_
  rw [List.getElem?_eq_getElem h]
  exact tn_mk (q _ (List.getElem_mem h))
/-- the same, by the place -/
theorem tn_atk {α : Type} {l : List α} {n : Nat} {k : Int} {Q : α → Prop} (hn : l.length = n) (h0 : 0 ≤ k) (h1 : k < n) (q : ∀ (j : Nat) x, (j : Int) = k → l[j]? = some x → Q x) : Tn (ixD n k) fun j => Tn l[j]? Q := by
  subst hn
  refine tn_ix h0 h1 fun h => ?_
  rw [List.getElem?_eq_getElem h]
  exact tn_mk (q k.toNat _ (by omega) (List.getElem?_eq_getElem h))
theorem tn_atm {α : Type} {l : List α} {n : Nat} {k m : Int} {Q : α → Prop} (hn : l.length = n) (h0 : 0 < m) (h1 : m ≤ n) (q : ∀ x ∈ l, Q x) : Tn (ixD n (k % m)) fun j => Tn l[j]? Q := by
  subst hn
  exact tn_mod h0 h1 fun j hj => tn_mem hj q
@[simp] theorem rvs_lst {ps : List P} : bltP .rvs [.lst ps] = some (.lst ps.reverse) := rfl
@[simp] theorem sw_str {s b : Tx} : bmtP .startswith (.str s) [.str b] = some (.bl (startsT s b)) := rfl
@[simp] theorem ew_str {s b : Tx} : bmtP .endswith (.str s) [.str b] = some (.bl (endsT s b)) := rfl
@[simp] theorem sp_str {s b : Tx} : bmtP .split (.str s) [.str b] = grd (!b.isEmpty && decide (s.length + 2 ≤ LIM) && (splitT s b).all okTx) (.lst ((splitT s b).map .str)) := nrfl rfl
@[simp] theorem pt_str {s b : Tx} : bmtP .partition (.str s) [.str b] = grd (!b.isEmpty && decide (s.length ≤ LIM) && (partT s b).all okTx) (.tup ((partT s b).map .str)) := nrfl rfl
@[simp] theorem st_str {s b : Tx} : bmtP .strip (.str s) [.str b] = grd (decide (s.length ≤ LIM) && okTx (stripT s b)) (.str (stripT s b)) := nrfl rfl
@[simp] theorem so_strs {ts : List Tx} : bltP .sorted [.lst (ts.map .str)] = grd (decide (ts.length < 64)) (.lst ((sortT ts).map .str)) := by
  unfold bltP
  dsimp only
  rw [strs_map]
@[simp] theorem sortT_len {ts : List Tx} : (sortT ts).length = ts.length := (sortT_perm ts).length_eq
@[simp] theorem sortT_mem {ts : List Tx} {t : Tx} : t ∈ sortT ts ↔ t ∈ ts := (sortT_perm ts).mem_iff
@[simp] theorem show_1 : showI 1 = [49] := by decide +kernel
@[simp] theorem show_2 : showI 2 = [50] := by decide +kernel
theorem log_le {i : Int} (h : -1000000 ≤ i ∧ i ≤ 1000000) : i.natAbs.log2 < 1920 := by
  have : i.natAbs < 2 ^ 1920 := Nat.lt_of_lt_of_le (show i.natAbs < 2 ^ 20 by omega) (Nat.pow_le_pow_right (by decide) (by decide))
  by_cases h0 : i.natAbs = 0
  · rw [h0]; decide
  · exact (Nat.log2_lt h0).mpr this
/-- 1 or 2 -/
theorem tn_str12 {i : Int} {Q : P → Prop} (h : i = 1 ∨ i = 2) (q : ∀ d : Nat, (d = 49 ∧ i = 1) ∨ (d = 50 ∧ i = 2) → Q (.str [d])) : Tn (bltP .str [.int i]) Q := by
  rcases h with rfl | rfl
  · rw [b_str, tn_grd, show_1]; exact ⟨by decide, q 49 (.inl ⟨rfl, rfl⟩)⟩
  · rw [b_str, tn_grd, show_2]; exact ⟨by decide, q 50 (.inr ⟨rfl, rfl⟩)⟩
theorem show12 {i : Int} (h : i = 1 ∨ i = 2) : ∃ d, showI i = [d] ∧ (d = 49 ∨ d = 50) := by
  rcases h with rfl | rfl
  · exact ⟨49, show_1, .inl rfl⟩
  · exact ⟨50, show_2, .inr rfl⟩
theorem nat_of {i : Int} (h : 0 ≤ i) : ∃ m : Nat, i = m := ⟨i.toNat, by omega⟩
theorem lin_lt {a b r j : Nat} (hr : r < b) (hj : j < a) : a * r + j < a * b := by
  have : a * (r + 1) ≤ a * b := Nat.mul_le_mul_left a hr
  rw [Nat.mul_add] at this
  omega
@[simp] theorem ty_int_int : (Ty.int == Ty.int) = true := rfl
@[simp] theorem ty_int_str : (Ty.int == Ty.str) = false := rfl
@[simp] theorem ty_int_bool : (Ty.int == Ty.bool) = false := rfl
@[simp] theorem ty_int_list : (Ty.int == Ty.list) = false := rfl
@[simp] theorem ty_int_tuple : (Ty.int == Ty.tuple) = false := rfl
@[simp] theorem ty_int_dict : (Ty.int == Ty.dict) = false := rfl
@[simp] theorem ty_str_int : (Ty.str == Ty.int) = false := rfl
@[simp] theorem ty_str_str : (Ty.str == Ty.str) = true := rfl
@[simp] theorem ty_str_bool : (Ty.str == Ty.bool) = false := rfl
@[simp] theorem ty_str_list : (Ty.str == Ty.list) = false := rfl
@[simp] theorem ty_str_tuple : (Ty.str == Ty.tuple) = false := rfl
@[simp] theorem ty_str_dict : (Ty.str == Ty.dict) = false := rfl
@[simp] theorem ty_bool_int : (Ty.bool == Ty.int) = false := rfl
@[simp] theorem ty_bool_str : (Ty.bool == Ty.str) = false := rfl
@[simp] theorem ty_bool_bool : (Ty.bool == Ty.bool) = true := rfl
@[simp] theorem ty_bool_list : (Ty.bool == Ty.list) = false := rfl
@[simp] theorem ty_bool_tuple : (Ty.bool == Ty.tuple) = false := rfl
@[simp] theorem ty_bool_dict : (Ty.bool == Ty.dict) = false := rfl
@[simp] theorem ty_list_int : (Ty.list == Ty.int) = false := rfl
@[simp] theorem ty_list_str : (Ty.list == Ty.str) = false := rfl
@[simp] theorem ty_list_bool : (Ty.list == Ty.bool) = false := rfl
@[simp] theorem ty_list_list : (Ty.list == Ty.list) = true := rfl
@[simp] theorem ty_list_tuple : (Ty.list == Ty.tuple) = false := rfl
@[simp] theorem ty_list_dict : (Ty.list == Ty.dict) = false := rfl
@[simp] theorem ty_tuple_int : (Ty.tuple == Ty.int) = false := rfl
@[simp] theorem ty_tuple_str : (Ty.tuple == Ty.str) = false := rfl
@[simp] theorem ty_tuple_bool : (Ty.tuple == Ty.bool) = false := rfl
@[simp] theorem ty_tuple_list : (Ty.tuple == Ty.list) = false := rfl
@[simp] theorem ty_tuple_tuple : (Ty.tuple == Ty.tuple) = true := rfl
@[simp] theorem ty_tuple_dict : (Ty.tuple == Ty.dict) = false := rfl
@[simp] theorem ty_dict_int : (Ty.dict == Ty.int) = false := rfl
@[simp] theorem ty_dict_str : (Ty.dict == Ty.str) = false := rfl
@[simp] theorem ty_dict_bool : (Ty.dict == Ty.bool) = false := rfl
@[simp] theorem ty_dict_list : (Ty.dict == Ty.list) = false := rfl
@[simp] theorem ty_dict_tuple : (Ty.dict == Ty.tuple) = false := rfl
@[simp] theorem ty_dict_dict : (Ty.dict == Ty.dict) = true := rfl
@[simp] theorem part_lst0 {ps : List P} {q : P} {lk : List Nat} : partv (.lst ps) ⟨q, 0, lk⟩ = ⟨.lst ps, 0, lk⟩ := rfl
@[simp] theorem part_dct0 {ks : List D} {ps : List P} {q : P} {lk : List Nat} : partv (.dct ks ps) ⟨q, 0, lk⟩ = ⟨.dct ks ps, 0, lk⟩ := rfl
/-- the letters -/
def LET : Tx := [97, 98, 99, 100, 101, 102, 103, 104, 105, 106, 107, 108, 109, 110, 111, 112, 113, 114, 115, 116, 117, 118, 119, 120, 121, 122]
@[simp] theorem let_len : LET.length = 26 := rfl
theorem let_mem {c : Nat} (h : c ∈ LET) : 97 ≤ c ∧ c ≤ 122 := by revert c; decide
theorem mem_let {c : Nat} (h : 97 ≤ c ∧ c ≤ 122) : c ∈ LET := by
  have : ∀ k : Nat, k < 26 → 97 + k ∈ LET := by decide
  have := this (c - 97) (by omega)
  rwa [show 97 + (c - 97) = c by omega] at this
/-! ### rules -/
/-- a room's entry -/
def entP : Option Nat → P
  | none => .non
  | some k => .int (k : Int)
@[simp] theorem ent_scal {o : Option Nat} : P.scal (entP o) = true := by cases o <;> rfl
@[simp] theorem ent_none : entP none = .non := rfl
@[simp] theorem ent_some {k : Nat} : entP (some k) = .int (k : Int) := rfl
@[simp] theorem vr_ent {o : Option Nat} {lv : Nat} {lk : List Nat} : vr (entP o) lv lk = ⟨entP o, 2, []⟩ := vr_sc ent_scal
@[simp] theorem part_ent {o : Option Nat} {x : PV} : partv (entP o) x = ⟨entP o, 2, []⟩ := part_sc ent_scal
@[simp] theorem nrm_ent {o : Option Nat} {lv : Nat} : nrm (entP o) lv = (entP o, 2) := nrm_sc ent_scal
@[simp] theorem isN_ent {o : Option Nat} : isNonP (entP o) = o.isNone := by cases o <;> rfl
/-- a rule: its sides, its words, its rooms -/
structure Ru where
  s : Nat
  ws : List Tx
  rs : List (List (Option Nat))
def roomP (r : List (Option Nat)) : P := .lst (r.map entP)
def Ru.p (R : Ru) : P := .tup [.int (R.s : Int), .lst (R.ws.map .str), .lst (R.rs.map roomP)]
@[simp] theorem vr_room {r : List (Option Nat)} {lv : Nat} {lk : List Nat} : vr (roomP r) lv lk = ⟨roomP r, lv, lkv lv lk⟩ := rfl
@[simp] theorem vr_ru {R : Ru} {lv : Nat} {lk : List Nat} : vr R.p lv lk = ⟨R.p, lv, lkv lv lk⟩ := rfl
@[simp] theorem nrm_room {r : List (Option Nat)} {lv : Nat} : nrm (roomP r) lv = (roomP r, lv) := rfl
@[simp] theorem nrm_ru {R : Ru} {lv : Nat} : nrm R.p lv = (R.p, lv) := rfl
@[simp] theorem idx_ru0 {R : Ru} : idxP R.p (.int 0) = some (.int (R.s : Int)) := rfl
@[simp] theorem idx_ru1 {R : Ru} : idxP R.p (.int 1) = some (.lst (R.ws.map .str)) := rfl
@[simp] theorem idx_ru2 {R : Ru} : idxP R.p (.int 2) = some (.lst (R.rs.map roomP)) := rfl
@[simp] theorem idx_room {r : List (Option Nat)} {k : Int} : idxP (roomP r) (.int k) = (ixD r.length k).bind fun j => r[j]?.map entP := by
  unfold roomP; rw [i_lst, List.length_map]; simp [List.getElem?_map]
@[simp] theorem len_room {r : List (Option Nat)} : bltP .len [roomP r] = some (.int r.length) := by
  unfold roomP; rw [l_lst, List.length_map]
@[simp] theorem list_room {r : List (Option Nat)} : bltP .list [roomP r] = some (roomP r) := rfl
@[simp] theorem opv_room {r : List (Option Nat)} {lk : List Nat} : opv (roomP r) lk = ⟨roomP r, 2, []⟩ := by unfold roomP; exact opv_map fun a _ => ent_scal
@[simp] theorem walk_room {r : List (Option Nat)} : walkP (roomP r) = some (r.map entP) := rfl
@[simp] theorem ru_fold {R : Ru} : P.tup [.int (R.s : Int), .lst (R.ws.map .str), .lst (R.rs.map roomP)] = R.p := rfl
/-- what holds of a rule, sizes apart -/
structure Ru.Ok (R : Ru) : Prop where
  s : R.s = 1 ∨ R.s = 2
  pos : 0 < R.rs.length
  len : ∀ r ∈ R.rs, r.length = R.ws.length
  lt : ∀ r ∈ R.rs, ∀ k, some k ∈ r → k < R.rs.length
@[simp] theorem scal_room {r : List (Option Nat)} : P.scal (roomP r) = false := rfl
@[simp] theorem scal_ru {R : Ru} : P.scal R.p = false := rfl
/-- where a word leads -/
def Ru.nxt (R : Ru) (k : Nat) (w : Tx) : Option Nat := match R.ws.findIdx? (fun x => decide (x = w)) with
  | none => some k
  | some j => match R.rs[k]? with
    | some r => (match r[j]? with
      | some o => o
      | none => none)
    | none => none
def Ru.aft (R : Ru) (k : Nat) : List Tx → Option Nat
  | [] => some k
  | w :: ws => match R.nxt k w with
    | none => none
    | some k' => R.aft k' ws
theorem Ru.Ok.cell {R : Ru} (h : R.Ok) {k j : Nat} (hk : k < R.rs.length) (hj : j < R.ws.length) : ∃ r o, R.rs[k]? = some r ∧ r.length = R.ws.length ∧ r[j]? = some o ∧ ∀ w, R.ws.findIdx? (fun x => decide (x = w)) = some j → R.nxt k w = o := by
  have hr := List.getElem?_eq_getElem hk
  have hl := h.len _ (List.getElem_mem hk)
  have ho : (R.rs[k])[j]? = some ((R.rs[k])[j]'(by omega)) := List.getElem?_eq_getElem _
  refine ⟨_, _, hr, hl, ho, fun w e => ?_⟩
  unfold Ru.nxt
  rw [e]
  simp only [hr, ho]
theorem Ru.Ok.nxt {R : Ru} (h : R.Ok) {k k' : Nat} {w : Tx} (hk : k < R.rs.length) (e : R.nxt k w = some k') : k' < R.rs.length := by
  unfold Ru.nxt at e
  split at e
  · cases e; exact hk
  · split at e
    · rename_i r hr
      split at e
      · rename_i o ho
        subst e
        exact h.lt r (List.mem_of_getElem? hr) k' (List.mem_of_getElem? ho)
      · cases e
    · cases e
theorem Ru.aft_app {R : Ru} {xs : List Tx} : ∀ {k : Nat} {ws : List Tx}, R.aft k (ws ++ xs) = (R.aft k ws).bind fun k' => R.aft k' xs
  | k, [] => rfl
  | k, w :: ws => by
    rw [List.cons_append, Ru.aft, Ru.aft]
    cases R.nxt k w with
    | none => rfl
    | some k' => exact Ru.aft_app
theorem Ru.aft_snoc {R : Ru} {k : Nat} {ws : List Tx} {w : Tx} : R.aft k (ws ++ [w]) = (R.aft k ws).bind fun k' => R.nxt k' w := by
  rw [Ru.aft_app]
  congr 1
  funext k'
  unfold Ru.aft
  cases R.nxt k' w <;> rfl
theorem Ru.Ok.aft {R : Ru} (h : R.Ok) : ∀ {ws : List Tx} {k k' : Nat}, k < R.rs.length → R.aft k ws = some k' → k' < R.rs.length
  | [], k, k', hk, e => by cases e; exact hk
  | w :: ws, k, k', hk, e => by
    unfold Ru.aft at e
    cases en : R.nxt k w with
    | none => rw [en] at e; cases e
    | some k1 => rw [en] at e; exact Ru.Ok.aft h (h.nxt hk en) e
theorem dle_ent {d : Nat} {o : Option Nat} : P.dle (entP o) d := by cases o <;> first | exact dle_non | exact dle_int
theorem dle_room {d : Nat} {r : List (Option Nat)} : P.dle (roomP r) (d + 1) := dle_lst fun p hp => by
  obtain ⟨o, _, rfl⟩ := List.mem_map.mp hp; exact dle_ent
theorem dle_rooms {d : Nat} {rs : List (List (Option Nat))} : P.dle (.lst (rs.map roomP)) (d + 2) := dle_lst fun p hp => by
  obtain ⟨o, _, rfl⟩ := List.mem_map.mp hp; exact dle_room
theorem dle_ru {d : Nat} {R : Ru} : P.dle R.p (d + 3) := dle_tup fun p hp => by
  rcases List.mem_cons.mp hp with rfl | hp
  · exact dle_int
  · rcases List.mem_cons.mp hp with rfl | hp
    · exact dle_lst dle_strs
    · rw [List.mem_singleton.mp hp]; exact dle_rooms
theorem dat_ru {R : Ru} : R.p.dat = true := dat_of (dle_ru (d := 0)) (by decide)
theorem dat_strs {ws : List Tx} : P.dat (.lst (ws.map .str)) = true := dat_of (dle_lst (d := 0) dle_strs) (by decide)
@[simp] theorem dr_cons {α : Type} {a : α} {l : List α} : (a :: l).drop 1 = l := rfl
/-- a list built by a loop: all of one kind -/
theorem ints_of {Pr : Int → Prop} {qs : List P} (h : ∀ q ∈ qs, ∃ t, q = .int t ∧ Pr t) : ∃ ts : List Int, qs = ts.map .int ∧ ∀ t ∈ ts, Pr t := all_of (f := P.int) h
end U
end

section
set_option maxRecDepth 100000
set_option maxHeartbeats 1000000
/-! Plain facts for laws: texts of rules. -/
namespace U
open PySem
theorem joinT_snoc {s t : Tx} : ∀ {ts : List Tx}, ts ≠ [] → joinT s (ts ++ [t]) = joinT s ts ++ s ++ t
  | [], h => absurd rfl h
  | [a], _ => by simp [joinT]
  | a :: b :: r, _ => by
    have := @joinT_snoc s t (b :: r) (by simp)
    simp only [List.cons_append, joinT] at this ⊢
    rw [this]
    simp
theorem joinT_succ {s : Tx} {l : List Tx} {i : Nat} (h : i < l.length) : joinT s (l.take (i + 1)) = joinT s (l.take i) ++ (if 0 < i then s else []) ++ l[i] := by
  rw [List.take_succ_eq_append_getElem h]
  cases i with
  | zero => simp [joinT]
  | succ i =>
    rw [joinT_snoc (by cases l <;> simp at h ⊢)]
    simp
theorem joinT_le {s : Tx} {ts : List Tx} {b n : Nat} (h : ∀ t ∈ ts, t.length ≤ b) (hn : ts.length ≤ n) : (joinT s ts).length ≤ (b + s.length) * n := by
  have h1 := @joinT_len s ts
  have h2 := sum_le h
  have h3 : (b + s.length) * ts.length ≤ (b + s.length) * n := Nat.mul_le_mul_left _ hn
  rw [Nat.add_mul] at h3
  omega
theorem sumT_le {s : Tx} {ts : List Tx} {b n : Nat} (h : ∀ t ∈ ts, t.length ≤ b) (hn : ts.length ≤ n) : sumLen ts + s.length * ts.length ≤ (b + s.length) * n := by
  have h2 := sum_le h
  have h3 : (b + s.length) * ts.length ≤ (b + s.length) * n := Nat.mul_le_mul_left _ hn
  rw [Nat.add_mul] at h3
  omega
theorem zipP_map {α β : Type} {f : α → P} {g : β → P} : ∀ {as : List α} {bs : List β}, zipP (as.map f) (bs.map g) = (as.zip bs).map fun p => .tup [f p.1, g p.2]
  | [], bs => by cases bs <;> rfl
  | a :: as, [] => rfl
  | a :: as, b :: bs => by rw [List.map_cons, List.map_cons, List.zip_cons_cons, List.map_cons, zipP, zipP_map]
theorem showI_small : ∀ k : Nat, k < 100 → (showI (k : Int)).length ≤ 2 := by decide +kernel
theorem log_nat {k : Nat} (h : k ≤ 1000000) : k.log2 < 1920 := by
  have := @log_le (k : Int) (by omega)
  simpa using this
@[simp] theorem asg_ru {a b c : Tg} {R : Ru} {lv : Nat} {ρ : Rho} : asgP (.tp [a, b, c]) R.p lv ρ = asgPs [a, b, c] [.int (R.s : Int), .lst (R.ws.map .str), .lst (R.rs.map roomP)] 0 ρ := rfl
@[simp] theorem join_strs' {s : Tx} {ts : List Tx} : bmtP .join (.str s) [.lst (ts.map .str)] = grd (decide (sumLen ts + s.length * ts.length ≤ LIM)) (.str (joinT s ts)) := join_strs
@[simp] theorem seq_room {r : List (Option Nat)} : seqP (roomP r) = some (r.map entP) := rfl
@[simp] theorem tup_room {r : List (Option Nat)} : isTupP (roomP r) = false := rfl
@[simp] theorem opv_strs {ts : List Tx} {lk : List Nat} : opv (.lst (ts.map .str)) lk = ⟨.lst (ts.map .str), 2, []⟩ := opv_map fun _ _ => rfl
/-! ### a rule's text -/
def wayT (w : Tx) : Option Nat → Tx
  | none => w ++ [33]
  | some k => w ++ [62] ++ showI (k : Int)
def roomT (ws : List Tx) (r : List (Option Nat)) : Tx := joinT [32] ((ws.zip r).map fun p => wayT p.1 p.2)
def Ru.T (R : Ru) : Tx := showI (R.s : Int) ++ [58, 32] ++ joinT [59, 32] (R.rs.map (roomT R.ws))
/-- sizes as they are drawn -/
structure Ru.Sz (R : Ru) : Prop where
  ws : R.ws.length ≤ 16
  rs : R.rs.length ≤ 60
  wl : ∀ w ∈ R.ws, w.length ≤ 10
theorem wayT_le {w : Tx} {o : Option Nat} (hw : w.length ≤ 10) (ho : ∀ k, o = some k → k < 60) : (wayT w o).length ≤ 13 := by
  cases o with
  | none => simp [wayT]; omega
  | some k =>
    have := showI_small k (by have := ho k rfl; omega)
    simp [wayT]; omega
theorem Ru.ways_le {R : Ru} (h : R.Ok) (z : R.Sz) {r : List (Option Nat)} (hr : r ∈ R.rs) : ∀ t ∈ (R.ws.zip r).map (fun p => wayT p.1 p.2), t.length ≤ 13 := by
  intro t ht
  obtain ⟨⟨w, o⟩, hp, rfl⟩ := List.mem_map.mp ht
  obtain ⟨h1, h2⟩ := List.of_mem_zip hp
  exact wayT_le (z.wl w h1) fun k e => by subst e; have := h.lt r hr k h2; have := z.rs; omega
theorem Ru.room_le {R : Ru} (h : R.Ok) (z : R.Sz) {r : List (Option Nat)} (hr : r ∈ R.rs) : (roomT R.ws r).length ≤ 224 := by
  have := joinT_le (s := [32]) (R.ways_le h z hr) (n := 16) (by simp [h.len r hr]; exact z.ws)
  exact this
theorem Ru.rooms_le {R : Ru} (h : R.Ok) (z : R.Sz) : ∀ t ∈ R.rs.map (roomT R.ws), t.length ≤ 224 := by
  intro t ht
  obtain ⟨r, hr, rfl⟩ := List.mem_map.mp ht
  exact R.room_le h z hr
end U
end

section
set_option maxRecDepth 100000
set_option maxHeartbeats 1000000
/-! Plain facts for laws: breaches, the shortest one. -/
namespace U
open PySem
/-- it breaks with its last text, not ahead -/
def Ru.brk (R : Ru) : Nat → List Tx → Bool
  | _, [] => false
  | k, w :: ws => match R.nxt k w with
    | none => ws.isEmpty
    | some k' => R.brk k' ws
/-- where it breaks first, else its length -/
def Ru.bat (R : Ru) : Nat → List Tx → Nat
  | _, [] => 0
  | k, w :: ws => match R.nxt k w with
    | none => 0
    | some k' => R.bat k' ws + 1
theorem Ru.bat_le {R : Ru} : ∀ {k : Nat} {ws : List Tx}, R.bat k ws ≤ ws.length
  | k, [] => Nat.le_refl _
  | k, w :: ws => by
    rw [Ru.bat]
    cases R.nxt k w with
    | none => exact Nat.zero_le _
    | some k' => have := @Ru.bat_le R k' ws; simp; exact this
theorem Ru.bat_aft {R : Ru} : ∀ {k : Nat} {ws : List Tx}, (R.aft k ws).isNone = decide (R.bat k ws < ws.length)
  | k, [] => rfl
  | k, w :: ws => by
    rw [Ru.bat, Ru.aft]
    cases R.nxt k w with
    | none => simp
    | some k' => have := @Ru.bat_aft R k' ws; simp [this]
theorem Ru.brk_bat {R : Ru} : ∀ {k : Nat} {ws : List Tx}, R.brk k ws = true ↔ R.bat k ws + 1 = ws.length
  | k, [] => by simp [Ru.brk, Ru.bat]
  | k, w :: ws => by
    rw [Ru.bat, Ru.brk]
    cases R.nxt k w with
    | none => cases ws <;> simp
    | some k' => have := @Ru.brk_bat R k' ws; simp [this]
theorem Ru.bat_take {R : Ru} : ∀ {k : Nat} {ws : List Tx} {n : Nat}, R.bat k (ws.take n) = min (R.bat k ws) n
  | k, [], n => by simp [Ru.bat]
  | k, w :: ws, 0 => by simp [Ru.bat]
  | k, w :: ws, n + 1 => by
    rw [List.take_succ_cons, Ru.bat, Ru.bat]
    cases R.nxt k w with
    | none => simp
    | some k' => have := @Ru.bat_take R k' ws n; simp [this] <;> omega
theorem Ru.bat_app {R : Ru} : ∀ {k : Nat} {ws xs : List Tx}, R.bat k ws < ws.length → R.bat k (ws ++ xs) = R.bat k ws
  | k, [], xs, h => by simp at h
  | k, w :: ws, xs, h => by
    rw [List.cons_append, Ru.bat, Ru.bat]
    rw [Ru.bat] at h
    cases e : R.nxt k w with
    | none => rfl
    | some k' =>
      rw [e] at h
      have := @Ru.bat_app R k' ws xs (by simpa using h)
      simp [this]
/-- as few texts as break it with the last one, from a room -/
def Ru.fw (R : Ru) : List Tx → Nat → Option Nat
  | [], _ => none
  | w :: ws, k => match ws with
    | [] => (match R.nxt k w with
      | none => some 1
      | some _ => none)
    | v :: r => match R.nxt k w with
      | none => R.fw (v :: r) k
      | some k' => match R.fw (v :: r) k' with
        | none => R.fw (v :: r) k
        | some m => match R.fw (v :: r) k with
          | none => some (m + 1)
          | some b => if m + 1 ≤ b then some (m + 1) else some b
theorem Ru.fw_one {R : Ru} {w : Tx} {k : Nat} : R.fw [w] k = match R.nxt k w with | none => some 1 | some _ => none := by rw [Ru.fw]
theorem Ru.fw_cons {R : Ru} {w : Tx} {ws : List Tx} (h : ws ≠ []) {k : Nat} : R.fw (w :: ws) k = match R.nxt k w with
      | none => R.fw ws k
      | some k' => match R.fw ws k' with
        | none => R.fw ws k
        | some m => match R.fw ws k with
          | none => some (m + 1)
          | some b => if m + 1 ≤ b then some (m + 1) else some b := by
  cases ws with
  | nil => exact absurd rfl h
  | cons v r => rw [Ru.fw]
/-- the places taken, from a place and a room -/
def Ru.sh (R : Ru) : List Tx → Nat → Nat → List Nat
  | [], _, _ => []
  | w :: ws, at_, k => match ws with
    | [] => [at_]
    | v :: r => match R.nxt k w with
      | none => R.sh (v :: r) (at_ + 1) k
      | some k' => match R.fw (v :: r) k' with
        | none => R.sh (v :: r) (at_ + 1) k
        | some m => if R.fw (w :: v :: r) k = some (m + 1) then at_ :: R.sh (v :: r) (at_ + 1) k' else R.sh (v :: r) (at_ + 1) k
theorem Ru.sh_cons {R : Ru} {w : Tx} {ws : List Tx} (h : ws ≠ []) {at_ k : Nat} : R.sh (w :: ws) at_ k = match R.nxt k w with
      | none => R.sh ws (at_ + 1) k
      | some k' => match R.fw ws k' with
        | none => R.sh ws (at_ + 1) k
        | some m => if R.fw (w :: ws) k = some (m + 1) then at_ :: R.sh ws (at_ + 1) k' else R.sh ws (at_ + 1) k := by
  cases ws with
  | nil => exact absurd rfl h
  | cons v r => rw [Ru.sh]
theorem Ru.fw_le {R : Ru} : ∀ {ws : List Tx} {k m : Nat}, R.fw ws k = some m → 1 ≤ m ∧ m ≤ ws.length
  | [], k, m, h => by simp [Ru.fw] at h
  | [w], k, m, h => by
    rw [Ru.fw_one] at h
    cases e : R.nxt k w <;> rw [e] at h <;> simp at h
    subst h; simp
  | w :: v :: r, k, m, h => by
    rw [Ru.fw_cons (by simp)] at h
    have up : ∀ {m}, R.fw (v :: r) k = some m → 1 ≤ m ∧ m ≤ (w :: v :: r).length := fun {m} e => by
      have := Ru.fw_le e; simp at this ⊢; omega
    cases e : R.nxt k w with
    | none => rw [e] at h; exact up h
    | some k' =>
      rw [e] at h
      dsimp only at h
      cases e1 : R.fw (v :: r) k' with
      | none => rw [e1] at h; exact up h
      | some m1 =>
        rw [e1] at h
        dsimp only at h
        have b1 := Ru.fw_le e1
        cases e2 : R.fw (v :: r) k with
        | none => rw [e2] at h; simp at h b1 ⊢; omega
        | some b =>
          rw [e2] at h
          have b2 := Ru.fw_le e2
          dsimp only at h
          split at h <;> simp at h b1 b2 ⊢ <;> omega
/-- the places are some of the row's, rising, the last one last -/
theorem Ru.sh_form {R : Ru} : ∀ {ws : List Tx} {at_ k : Nat}, ws ≠ [] → ∃ ps, R.sh ws at_ k = ps ++ [at_ + ws.length - 1] ∧ (∀ p ∈ ps, at_ ≤ p ∧ p + 1 < at_ + ws.length) ∧ ps.Pairwise (· < ·)
  | [], at_, k, h => absurd rfl h
  | [w], at_, k, h => ⟨[], by simp [Ru.sh], by simp, by simp⟩
  | w :: v :: r, at_, k, h => by
    have skip : ∀ k, ∃ ps, R.sh (v :: r) (at_ + 1) k = ps ++ [at_ + (w :: v :: r).length - 1] ∧ (∀ p ∈ ps, at_ + 1 ≤ p ∧ p + 1 < at_ + (w :: v :: r).length) ∧ ps.Pairwise (· < ·) := fun k => by
      obtain ⟨ps, e, h1, h2⟩ := @Ru.sh_form R (v :: r) (at_ + 1) k (by simp)
      refine ⟨ps, by rw [e]; simp; omega, fun p hp => ?_, h2⟩
      have := h1 p hp
      simp at this ⊢
      omega
    have skip' : ∃ ps, R.sh (v :: r) (at_ + 1) k = ps ++ [at_ + (w :: v :: r).length - 1] ∧ (∀ p ∈ ps, at_ ≤ p ∧ p + 1 < at_ + (w :: v :: r).length) ∧ ps.Pairwise (· < ·) := by
      obtain ⟨ps, e, h1, h2⟩ := skip k
      exact ⟨ps, e, fun p hp => ⟨by have := (h1 p hp).1; omega, (h1 p hp).2⟩, h2⟩
    rw [Ru.sh_cons (by simp)]
    cases e : R.nxt k w with
    | none => exact skip'
    | some k' =>
      dsimp only
      cases e1 : R.fw (v :: r) k' with
      | none => exact skip'
      | some m =>
        dsimp only
        split
        · obtain ⟨ps, e2, h1, h2⟩ := skip k'
          refine ⟨at_ :: ps, by rw [e2]; rfl, fun p hp => ?_, ?_⟩
          · rcases List.mem_cons.mp hp with rfl | hp
            · simp
            · have := h1 p hp; exact ⟨by omega, this.2⟩
          · exact List.pairwise_cons.mpr ⟨fun p hp => by have := (h1 p hp).1; omega, h2⟩
        · exact skip'
/-- a row of the table: as few texts from each room -/
def Ru.fr (R : Ru) (ws : List Tx) : List (Option Nat) := (List.range R.rs.length).map (R.fw ws)
@[simp] theorem Ru.fr_len {R : Ru} {ws : List Tx} : (R.fr ws).length = R.rs.length := by simp [Ru.fr]
theorem Ru.fr_get {R : Ru} {ws : List Tx} {k : Nat} (h : k < R.rs.length) : (R.fr ws)[k]? = some (R.fw ws k) := by
  simp [Ru.fr, h]
/-- what a row of the table becomes, a text ahead -/
theorem Ru.fw_step {R : Ru} {w : Tx} {ws : List Tx} (h : ws ≠ []) {k : Nat} : R.fw (w :: ws) k = match R.nxt k w with
      | none => R.fw ws k
      | some k' => match R.fw ws k', R.fw ws k with
        | none, o => o
        | some m, none => some (m + 1)
        | some m, some b => if m + 1 ≤ b then some (m + 1) else some b := by
  rw [Ru.fw_cons h]
  cases R.nxt k w with
  | none => rfl
  | some k' => dsimp only; cases R.fw ws k' <;> cases R.fw ws k <;> rfl
theorem rev_range {α : Type} {f : Nat → α} {n : Nat} : ((List.range (n + 1)).map fun j => f (n - j)).reverse = (List.range (n + 1)).map f := by
  refine List.ext_getElem (by simp) fun i h1 h2 => ?_
  simp at h1 h2
  simp
  congr 1
  omega
@[simp] theorem tn_ixm1 {n : Nat} {Q : Nat → Prop} (h : 0 < n) : Tn (ixD n (-1)) Q = Q (n - 1) := by
  have e : ixD n (-1) = some (n - 1) := by
    unfold ixD
    rw [if_neg (by omega), if_pos (by omega)]
    congr 1
    omega
  rw [e, tn_some]
@[simp] theorem part_room0 {r : List (Option Nat)} {q : P} {lk : List Nat} : partv (roomP r) ⟨q, 0, lk⟩ = ⟨roomP r, 0, lk⟩ := rfl
theorem opv_ns {ps : List P} {lk : List Nat} (h : P.scals ps = false) : opv (.lst ps) lk = ⟨.lst ps, 1, lk⟩ := by unfold opv; simp [h]
theorem scals_rooms {rs : List (List (Option Nat))} (h : rs ≠ []) : P.scals (rs.map roomP) = false := by
  cases rs with
  | nil => exact absurd rfl h
  | cons r rs => simp
/-- a comprehension with a test: some of the turns give a value of a kind -/
structure GivesO {α : Type} (enc : α → P) (K : α → Prop) (x : Option PV) : Prop where
  h : x = none ∨ ∃ a lk, x = some ⟨enc a, 2, lk⟩ ∧ K a
theorem compP_sub {α : Type} {f : P → Option (Option PV)} {Q : PVs → Prop} {enc : α → P} (K : α → Prop) : ∀ (ps : List P), (∀ p ∈ ps, Tn (f p) (GivesO enc K)) → (∀ (as : List α) lk, as.length ≤ ps.length → (∀ a ∈ as, K a) → Q ⟨as.map enc, true, lk⟩) → Tn (compP f ps) Q
  | [], _, hq => ⟨_, rfl, hq [] [] (Nat.le_refl _) (by simp)⟩
  | p :: ps, hs, hq => by
    unfold compP
    simp only [tn_bind, tn_map]
    refine (hs p (List.mem_cons_self ..)).mono fun x ⟨h⟩ => ?_
    rcases h with rfl | ⟨a, lk, rfl, ka⟩
    · refine compP_sub (enc := enc) K ps (fun q hq' => hs q (List.mem_cons_of_mem _ hq')) fun as lk' hl ha => ?_
      exact hq as _ (by simp; omega) ha
    · refine compP_sub (enc := enc) K ps (fun q hq' => hs q (List.mem_cons_of_mem _ hq')) fun as lk' hl ha => ?_
      exact hq (a :: as) _ (by simp; omega) fun b hb => by
        rcases List.mem_cons.mp hb with rfl | hb
        · exact ka
        · exact ha b hb
@[simp] theorem enmP_len {ps : List P} : ∀ {i : Nat}, (enmP i ps).length = ps.length := by
  induction ps with
  | nil => intro i; rfl
  | cons p ps ih => intro i; simp [enmP, ih]
theorem enmP_get {ps : List P} : ∀ {k i : Nat} {q : P}, (enmP k ps)[i]? = some q → ∃ p, ps[i]? = some p ∧ q = .tup [.int ((k + i : Nat) : Int), p] := by
  induction ps with
  | nil => intro k i q h; simp [enmP] at h
  | cons p ps ih =>
    intro k i q h
    cases i with
    | zero => simp [enmP] at h; exact ⟨p, by simp, by rw [← h]; simp⟩
    | succ i =>
      obtain ⟨p', h1, h2⟩ := ih (k := k + 1) (i := i) (by simpa [enmP] using h)
      exact ⟨p', by simpa using h1, by rw [h2, show k + 1 + i = k + (i + 1) by omega]⟩
/-! ### equality of lists -/
theorem dle_all {α : Type} {d : Nat} {enc : α → P} {l : List α} (h : ∀ a, (enc a).dle d) : ∀ p ∈ l.map enc, p.dle d := fun p hp => by
  obtain ⟨a, _, rfl⟩ := List.mem_map.mp hp; exact h a
theorem dat_nil : P.dat (.lst []) = true := dat_of (dle_lst (d := 0) (by simp)) (by decide)
theorem dat_ints {l : List Int} : P.dat (.lst (l.map .int)) = true := dat_of (dle_lst (d := 0) (dle_all fun _ => dle_int)) (by decide)
theorem dat_nats {l : List Nat} : P.dat (.lst (l.map fun i : Nat => .int (i : Int))) = true := dat_of (dle_lst (d := 0) (dle_all fun _ => dle_int)) (by decide)
theorem eq_nil {ps : List P} (h : P.dat (.lst ps) = true) : cmpP .eq (.lst ps) (.lst []) = some ps.isEmpty := by
  show grd (P.dat _ && P.dat _) _ = _
  rw [h, dat_nil]
  cases ps <;> simp [grd, P.py, P.pys, PyData.eqv, PyData.eqvAll]
theorem ne_nil {ps : List P} (h : P.dat (.lst ps) = true) : cmpP .ne (.lst ps) (.lst []) = some (!ps.isEmpty) := by
  show grd (P.dat _ && P.dat _) _ = _
  rw [h, dat_nil]
  cases ps <;> simp [grd, P.py, P.pys, PyData.eqv, PyData.eqvAll]
theorem eqvs_map {α : Type} [DecidableEq α] {enc : α → P} (h : ∀ a b, PyData.eqv (enc a).py (enc b).py = decide (a = b)) : ∀ (as bs : List α), PyData.eqvAll (P.pys (as.map enc)) (P.pys (bs.map enc)) = decide (as = bs)
  | [], [] => by simp [P.pys, PyData.eqvAll]
  | [], b :: bs => by simp [P.pys, PyData.eqvAll]
  | a :: as, [] => by simp [P.pys, PyData.eqvAll]
  | a :: as, b :: bs => by
    simp only [List.map_cons, P.pys, PyData.eqvAll]
    rw [h, eqvs_map h as bs]
    simp [Bool.decide_and]
theorem eqv_list {α : Type} [DecidableEq α] {enc : α → P} (h : ∀ a b, PyData.eqv (enc a).py (enc b).py = decide (a = b)) (as bs : List α) : PyData.eqv (P.lst (as.map enc)).py (P.lst (bs.map enc)).py = decide (as = bs) := by
  simp only [P.py, PyData.eqv]; exact eqvs_map h as bs
theorem eqv_int (a b : Int) : PyData.eqv (P.int a).py (P.int b).py = decide (a = b) := by simp only [P.py, PyData.eqv]; rw [Bool.beq_eq_decide_eq]
theorem eqv_nat (a b : Nat) : PyData.eqv (P.int (a : Int)).py (P.int (b : Int)).py = decide (a = b) := by rw [eqv_int]; exact decide_eq_decide.mpr Int.ofNat_inj
theorem eqv_str (a b : Tx) : PyData.eqv (P.str a).py (P.str b).py = decide (a = b) := by simp only [P.py, PyData.eqv]; rw [tx_eq]
theorem eqv_ent (a b : Option Nat) : PyData.eqv (entP a).py (entP b).py = decide (a = b) := by
  cases a <;> cases b
  · simp [entP, P.py, PyData.eqv]
  · simp [entP, P.py, PyData.eqv]
  · simp [entP, P.py, PyData.eqv]
  · rw [entP, entP, eqv_nat]; simp
theorem cmp_eq {p q : P} (h1 : p.dat = true) (h2 : q.dat = true) : cmpP .eq p q = some (PyData.eqv p.py q.py) := by
  show grd (P.dat _ && P.dat _) _ = _; rw [h1, h2]; rfl
theorem cmp_ne {p q : P} (h1 : p.dat = true) (h2 : q.dat = true) : cmpP .ne p q = some (!PyData.eqv p.py q.py) := by
  show grd (P.dat _ && P.dat _) _ = _; rw [h1, h2]; rfl
theorem eq_nats {a b : List Nat} : cmpP .eq (.lst (a.map fun i : Nat => .int (i : Int))) (.lst (b.map fun i : Nat => .int (i : Int))) = some (decide (a = b)) := by
  rw [cmp_eq dat_nats dat_nats, eqv_list eqv_nat]
theorem eq_strs {a b : List Tx} : cmpP .eq (.lst (a.map .str)) (.lst (b.map .str)) = some (decide (a = b)) := by
  rw [cmp_eq dat_strs dat_strs, eqv_list eqv_str]
theorem ne_strs {a b : List Tx} : cmpP .ne (.lst (a.map .str)) (.lst (b.map .str)) = some (!decide (a = b)) := by
  rw [cmp_ne dat_strs dat_strs, eqv_list eqv_str]
end U
end

section
set_option maxRecDepth 100000
set_option maxHeartbeats 1000000
/-! Plain facts for laws: the shortest breach is shortest. -/
namespace U
open PySem
/-- some of the texts, the last one among them -/
inductive Pick : List Tx → List Tx → Prop
  | last (w : Tx) : Pick [w] [w]
  | take (w : Tx) {ws xs : List Tx} : Pick ws xs → Pick (w :: ws) (w :: xs)
  | skip (w : Tx) {ws xs : List Tx} : Pick ws xs → Pick (w :: ws) xs
theorem Pick.ne {ws xs : List Tx} (h : Pick ws xs) : ws ≠ [] ∧ xs ≠ [] := by
  induction h with
  | last w => simp
  | take w h ih => simp
  | skip w h ih => exact ⟨by simp, ih.2⟩
theorem Ru.fw_skip {R : Ru} {w : Tx} {ws : List Tx} (h : ws ≠ []) {k b : Nat} (e : R.fw ws k = some b) : ∃ m, m ≤ b ∧ R.fw (w :: ws) k = some m := by
  rw [Ru.fw_cons h]
  cases R.nxt k w with
  | none => exact ⟨b, Nat.le_refl _, e⟩
  | some k' =>
    dsimp only
    cases R.fw ws k' with
    | none => exact ⟨b, Nat.le_refl _, e⟩
    | some m =>
      rw [e]
      dsimp only
      split
      · exact ⟨_, by assumption, rfl⟩
      · exact ⟨_, Nat.le_refl _, rfl⟩
theorem Ru.fw_take {R : Ru} {w : Tx} {ws : List Tx} (h : ws ≠ []) {k k' b : Nat} (e1 : R.nxt k w = some k') (e : R.fw ws k' = some b) : ∃ m, m ≤ b + 1 ∧ R.fw (w :: ws) k = some m := by
  rw [Ru.fw_cons h, e1]
  dsimp only
  rw [e]
  dsimp only
  cases R.fw ws k with
  | none => exact ⟨_, Nat.le_refl _, rfl⟩
  | some c =>
    dsimp only
    split
    · exact ⟨_, Nat.le_refl _, rfl⟩
    · exact ⟨_, by omega, rfl⟩
theorem Pick.least {R : Ru} {ws xs : List Tx} (h : Pick ws xs) : ∀ {k : Nat}, R.brk k xs = true → ∃ m, m ≤ xs.length ∧ R.fw ws k = some m := by
  induction h with
  | last w =>
    intro k hb
    rw [Ru.brk] at hb
    rw [Ru.fw_one]
    cases e : R.nxt k w with
    | none => exact ⟨1, by simp, rfl⟩
    | some k' => rw [e] at hb; simp [Ru.brk] at hb
  | take w h ih =>
    intro k hb
    rw [Ru.brk] at hb
    cases e : R.nxt k w with
    | none => rw [e] at hb; simp at hb; exact absurd hb h.ne.2
    | some k' =>
      rw [e] at hb
      obtain ⟨m, hm, em⟩ := ih hb
      obtain ⟨m', hm', em'⟩ := Ru.fw_take (w := w) h.ne.1 e em
      exact ⟨m', by simp; omega, em'⟩
  | skip w h ih =>
    intro k hb
    obtain ⟨m, hm, em⟩ := ih hb
    obtain ⟨m', hm', em'⟩ := Ru.fw_skip (w := w) h.ne.1 em
    exact ⟨m', by omega, em'⟩
/-- the texts at places -/
def sel (ws : List Tx) (ps : List Nat) : List Tx := ps.map fun i => ws[i]?.getD []
theorem sel_cons {w : Tx} {ws : List Tx} {ps : List Nat} (h : ∀ p ∈ ps, 1 ≤ p) : sel (w :: ws) ps = sel ws (ps.map (· - 1)) := by
  unfold sel
  rw [List.map_map]
  refine List.map_congr_left fun p hp => ?_
  have := h p hp
  obtain ⟨q, rfl⟩ : ∃ q, p = q + 1 := ⟨p - 1, by omega⟩
  simp
theorem pick_of : ∀ {ws : List Tx} {ps : List Nat}, ps.Pairwise (· < ·) → ps.getLast? = some (ws.length - 1) → ws ≠ [] → (∀ p ∈ ps, p < ws.length) → Pick ws (sel ws ps)
  | [], ps, _, _, h, _ => absurd rfl h
  | w :: ws, [], _, hl, _, _ => by simp at hl
  | w :: ws, 0 :: qs, hs, hl, _, hb => by
    have hs' := List.pairwise_cons.mp hs
    cases qs with
    | nil =>
      simp at hl
      cases ws with
      | nil => exact .last w
      | cons v r => simp at hl
    | cons q qs =>
      have h1 : ∀ p ∈ q :: qs, 1 ≤ p := fun p hp => hs'.1 p hp
      have e : sel (w :: ws) (0 :: q :: qs) = w :: sel ws ((q :: qs).map (· - 1)) := by
        rw [← sel_cons (w := w) h1]; rfl
      rw [e]
      have hwn : ws ≠ [] := by
        rintro rfl
        have := hb q (by simp)
        have := h1 q (by simp)
        simp at *
        omega
      refine .take w (pick_of ?_ ?_ hwn ?_)
      · rw [List.pairwise_map]
        refine hs'.2.imp_of_mem fun ha hb' hab => ?_
        have := h1 _ ha; have := h1 _ hb'; omega
      · rw [List.getLast?_map]
        have : (q :: qs).getLast? = some ((w :: ws).length - 1) := by rw [← hl]; simp
        rw [this]
        have : ws.length ≠ 0 := by simpa using hwn
        simp
      · intro p hp
        obtain ⟨p', hp', rfl⟩ := List.mem_map.mp hp
        have := hb p' (List.mem_cons_of_mem _ hp')
        have := h1 p' hp'
        simp at *
        omega
  | w :: ws, (q + 1) :: qs, hs, hl, _, hb => by
    have hs' := List.pairwise_cons.mp hs
    have h1 : ∀ p ∈ (q + 1) :: qs, 1 ≤ p := fun p hp => by
      rcases List.mem_cons.mp hp with rfl | hp
      · omega
      · have := hs'.1 p hp; omega
    rw [sel_cons h1]
    have hwn : ws ≠ [] := by
      rintro rfl
      have := hb (q + 1) (by simp)
      simp at this
    refine .skip w (pick_of ?_ ?_ hwn ?_)
    · rw [List.pairwise_map]
      refine hs.imp_of_mem fun ha hb' hab => ?_
      have := h1 _ ha; have := h1 _ hb'; omega
    · rw [List.getLast?_map, hl]
      have : ws.length ≠ 0 := by simpa using hwn
      simp
    · intro p hp
      obtain ⟨p', hp', rfl⟩ := List.mem_map.mp hp
      have := hb p' hp'
      have := h1 p' hp'
      simp at *
      omega
  termination_by ws ps => ws.length
theorem Pick.self : ∀ {ws : List Tx}, ws ≠ [] → Pick ws ws
  | [], h => absurd rfl h
  | [w], _ => .last w
  | w :: v :: r, _ => .take w (Pick.self (by simp))
theorem Ru.sh_shift {R : Ru} : ∀ {ws : List Tx} {a k : Nat}, R.sh ws (a + 1) k = (R.sh ws a k).map (· + 1)
  | [], a, k => by simp [Ru.sh]
  | [w], a, k => by simp [Ru.sh]
  | w :: v :: r, a, k => by
    have ih := fun a k => @Ru.sh_shift R (v :: r) a k
    rw [Ru.sh_cons (w := w) (ws := v :: r) (at_ := a + 1) (by simp), Ru.sh_cons (w := w) (ws := v :: r) (at_ := a) (by simp)]
    cases R.nxt k w with
    | none => exact ih _ _
    | some k' =>
      dsimp only
      cases R.fw (v :: r) k' with
      | none => exact ih _ _
      | some m =>
        dsimp only
        split
        · rw [ih]; rfl
        · exact ih _ _
/-- what is told is as short as can be, and breaks it -/
theorem Ru.sh_ok {R : Ru} : ∀ {ws : List Tx} {k m : Nat}, R.fw ws k = some m → (R.sh ws 0 k).length = m ∧ R.brk k (sel ws (R.sh ws 0 k)) = true
  | [], k, m, h => by simp [Ru.fw] at h
  | [w], k, m, h => by
    rw [Ru.fw_one] at h
    cases e : R.nxt k w <;> rw [e] at h <;> simp at h
    subst h
    simp [Ru.sh, sel, Ru.brk, e]
  | w :: v :: r, k, m, h => by
    have ih := fun k m => @Ru.sh_ok R (v :: r) k m
    have skip : ∀ {m}, R.fw (v :: r) k = some m → (R.sh (v :: r) (0 + 1) k).length = m ∧ R.brk k (sel (w :: v :: r) (R.sh (v :: r) (0 + 1) k)) = true := fun {m} e => by
      obtain ⟨h1, h2⟩ := ih k m e
      rw [Ru.sh_shift, sel_cons (by simp), List.map_map]
      refine ⟨by simpa using h1, ?_⟩
      rw [show (fun x => x - 1) ∘ (fun x => x + 1) = (id : Nat → Nat) from funext fun x => by simp, List.map_id]
      exact h2
    have h0 := h
    rw [Ru.fw_cons (by simp)] at h
    rw [Ru.sh_cons (by simp)]
    cases e : R.nxt k w with
    | none => rw [e] at h; exact skip h
    | some k' =>
      rw [e] at h
      dsimp only at h ⊢
      cases e1 : R.fw (v :: r) k' with
      | none => rw [e1] at h; exact skip h
      | some m1 =>
        rw [e1] at h
        dsimp only at h ⊢
        split
        · rename_i hz
          rw [h0] at hz
          have hz := Option.some.inj hz
          obtain ⟨h1, h2⟩ := ih k' m1 e1
          have e3 : sel (w :: v :: r) (0 :: R.sh (v :: r) (0 + 1) k') = w :: sel (v :: r) (R.sh (v :: r) 0 k') := by
            show w :: sel (w :: v :: r) (R.sh (v :: r) (0 + 1) k') = _
            rw [Ru.sh_shift, sel_cons (by simp), List.map_map, show (fun x => x - 1) ∘ (fun x => x + 1) = (id : Nat → Nat) from funext fun x => by simp, List.map_id]
          rw [e3, Ru.brk, e]
          refine ⟨?_, h2⟩
          rw [Ru.sh_shift]
          simp [h1, hz]
        · rename_i hz
          cases e2 : R.fw (v :: r) k with
          | none => rw [e2] at h; rw [h0] at hz; exact absurd h.symm hz
          | some b =>
            rw [e2] at h
            dsimp only at h
            split at h
            · rw [h0] at hz; exact absurd h.symm hz
            · exact skip (e2.trans h)
theorem in_sign {c : Nat} {s : Tx} : inP (.str [c]) (.str s) = some (decide (c ∈ s)) := rfl
theorem sing_of : ∀ {ws : List Tx}, (∀ w ∈ ws, ∃ c ∈ LET, w = [c]) → ∃ cs : Tx, ws = cs.map (fun c => [c]) ∧ ∀ c ∈ cs, c ∈ LET
  | [], _ => ⟨[], rfl, by simp⟩
  | w :: ws, h => by
    obtain ⟨cs, e, h2⟩ := sing_of (ws := ws) fun w hw => h w (List.mem_cons_of_mem _ hw)
    obtain ⟨c, hc, rfl⟩ := h w (by simp)
    exact ⟨c :: cs, by rw [e]; rfl, fun d hd => by rcases List.mem_cons.mp hd with rfl | hd; exact hc; exact h2 d hd⟩
theorem joinT_sing : ∀ {cs : List Nat}, joinT [] (cs.map fun c => [c]) = cs
  | [] => rfl
  | [c] => rfl
  | c :: d :: r => by
    have := @joinT_sing (d :: r)
    simp [joinT] at this ⊢
    exact this
theorem sumLen_sing : ∀ {cs : List Nat}, sumLen (cs.map fun c => [c]) = cs.length
  | [] => rfl
  | c :: r => by
    have := @sumLen_sing r
    simp [sumLen] at this ⊢
    omega
end U
end

section
set_option maxRecDepth 100000
set_option maxHeartbeats 1000000
/-! Texts: split, partition, of what was joined. -/
namespace U
open PySem
/-- places found from the left, each behind the last one -/
def og (ok : Nat → Bool) (w lim : Nat) : List Nat → List Nat × Nat → List Nat
  | [], st => st.1
  | a :: l, st => if st.1.length < lim ∧ st.2 ≤ a ∧ ok a = true then og ok w lim l (st.1 ++ [a], a + w) else og ok w lim l st
theorem og_skip {ok : Nat → Bool} {w lim : Nat} {l2 : List Nat} {st : List Nat × Nat} : ∀ {l1 : List Nat}, (∀ a ∈ l1, ¬ (st.1.length < lim ∧ st.2 ≤ a ∧ ok a = true)) → og ok w lim (l1 ++ l2) st = og ok w lim l2 st
  | [], _ => rfl
  | a :: l1, h => by
    rw [List.cons_append, og, if_neg (h a (by simp))]
    exact og_skip fun b hb => h b (List.mem_cons_of_mem _ hb)
theorem og_none {ok : Nat → Bool} {w lim : Nat} {st : List Nat × Nat} {l1 : List Nat} (h : ∀ a ∈ l1, ¬ (st.1.length < lim ∧ st.2 ≤ a ∧ ok a = true)) : og ok w lim l1 st = st.1 := by
  have := og_skip (l2 := []) (w := w) h
  rw [List.append_nil] at this
  rw [this]
  rfl
theorem og_hit {ok : Nat → Bool} {w lim a : Nat} {l : List Nat} {st : List Nat × Nat} (h : st.1.length < lim ∧ st.2 ≤ a ∧ ok a = true) : og ok w lim (a :: l) st = og ok w lim l (st.1 ++ [a], a + w) := by
  rw [og, if_pos h]
open PySem.Builtin PySem.Builtin.Str PySem.StrLaws in
theorem occ_og (x y : Str) (hi lim : Nat) : ∀ (l : List Nat) (st : Array Nat × Nat), (forIn l st (occBody x y hi lim)).run.fst.toList = og (fun i => decide (i + y.length ≤ hi) && subAt x y i) y.length lim l (st.fst.toList, st.snd)
  | [], st => rfl
  | a :: l, st => by
    rw [List.forIn_cons, og]
    unfold occBody
    by_cases h : ((st.fst.size < lim ∧ st.snd ≤ a) ∧ a + y.length ≤ hi) ∧ subAt x y a = true
    · rw [if_pos h, if_pos ⟨by simpa using h.1.1.1, h.1.1.2, by simp [h.1.2, h.2]⟩]
      have := occ_og x y hi lim l (st.fst.push a, a + y.length)
      rw [Array.toList_push] at this
      exact this
    · rw [if_neg h, if_neg fun z => h ⟨⟨⟨by simpa using z.1, z.2.1⟩, of_decide_eq_true (Bool.and_eq_true _ _ ▸ z.2.2).1⟩, (Bool.and_eq_true _ _ ▸ z.2.2).2⟩]
      exact occ_og x y hi lim l st
/-- y stands at i -/
def okL (L y : Tx) (i : Nat) : Bool := (L.drop i).take y.length == y
theorem okL_lt {L y : Tx} {i : Nat} (hy : y ≠ []) (h : okL L y i = true) : i + y.length ≤ L.length := by
  have e := beq_iff_eq.mp h
  have := congrArg List.length e
  rw [List.length_take, List.length_drop] at this
  have : y.length ≠ 0 := by simpa using hy
  omega
theorem okL_head {L y : Tx} {i c : Nat} (hy : y.head? = some c) (h : okL L y i = true) : L[i]? = some c := by
  have e := beq_iff_eq.mp h
  have hl : y.length ≠ 0 := by cases y <;> simp at hy ⊢
  have e2 : y[0]? = some c := by rw [← hy]; cases y <;> simp
  rw [← e, List.getElem?_take_of_lt (by omega), List.getElem?_drop] at e2
  simpa using e2
open PySem.Builtin PySem.Builtin.Str PySem.StrLaws in
theorem occ_list {L y : Tx} (hy : y ≠ []) (lim : Nat) : occurrences (strOf L) (strOf y) 0 (strOf L).length lim = og (okL L y) y.length lim (List.range' 0 (L.length + 1)) ([], 0) := by
  rw [occ_eq, occ_og]
  have e1 : (strOf L).length = L.length := by simp [strOf, Str.length]
  have e2 : (strOf y).length = y.length := by simp [strOf, Str.length]
  rw [e1, e2]
  have e3 : (fun i => decide (i + y.length ≤ L.length) && subAt (strOf L) (strOf y) i) = okL L y := by
    funext i
    rw [subAt_eq, e2]
    show (decide (i + y.length ≤ L.length) && ((L.drop i).take y.length == y)) = ((L.drop i).take y.length == y)
    cases h : ((L.drop i).take y.length == y) with
    | false => simp
    | true => have := okL_lt hy h; simp [this]
  rw [e3]
  rfl
/-- where the separators of joined texts stand -/
def cutsOf (w : Nat) : Nat → List Tx → List Nat
  | _, [] => []
  | a, t :: r => match r with
    | [] => []
    | u :: q => (a + t.length) :: cutsOf w (a + t.length + w) (u :: q)
theorem okL_in {L y pre t post : Tx} {c i : Nat} (hy : y.head? = some c) (hL : L = pre ++ t ++ post) (hc : c ∉ t) (h1 : pre.length ≤ i) (h2 : i < pre.length + t.length) : okL L y i = false := by
  cases h : okL L y i with
  | false => rfl
  | true =>
    have := okL_head hy h
    rw [hL, List.getElem?_append_left (by simp; omega), List.getElem?_append_right h1] at this
    exact absurd (List.mem_of_getElem? this) hc
theorem og_join {y : Tx} {c : Nat} (hy : y.head? = some c) {lim : Nat} : ∀ {ts : List Tx} {L pre f : Tx} {fr : Nat}, ts ≠ [] → L = pre ++ joinT y ts → (∀ t ∈ ts, c ∉ t) → fr ≤ pre.length → f.length + ts.length ≤ lim → og (okL L y) y.length lim (List.range' pre.length (L.length + 1 - pre.length)) (f, fr) = f ++ cutsOf y.length pre.length ts
  | [], L, pre, f, fr, h, _, _, _, _ => absurd rfl h
  | [t], L, pre, f, fr, _, hL, hc, hf, hl => by
    have hyn : y ≠ [] := by rintro rfl; simp at hy
    rw [og_none fun a ha => ?_]
    · simp [cutsOf]
    · rintro ⟨_, _, ho⟩
      have hb := okL_lt hyn ho
      have : y.length ≠ 0 := by simpa using hyn
      have h3 := (List.mem_range'_1.mp ha).1
      have hL2 : L = pre ++ t ++ [] := by rw [hL]; simp [joinT]
      have hLl : L.length = pre.length + t.length := by rw [hL2]; simp
      rw [okL_in hy hL2 (hc t (by simp)) h3 (by omega)] at ho
      cases ho
  | t :: u :: r, L, pre, f, fr, _, hL, hc, hf, hl => by
    have hyn : y ≠ [] := by rintro rfl; simp at hy
    have hyl : y.length ≠ 0 := by simpa using hyn
    have hL2 : L = pre ++ t ++ (y ++ joinT y (u :: r)) := by rw [hL]; simp [joinT]
    have hL3 : L = (pre ++ t ++ y) ++ joinT y (u :: r) := by rw [hL2]; simp
    have hLl : L.length = pre.length + t.length + y.length + (joinT y (u :: r)).length := by rw [hL3]; simp; omega
    have hr : List.range' pre.length (L.length + 1 - pre.length) = List.range' pre.length t.length ++ ((pre.length + t.length) :: (List.range' (pre.length + t.length + 1) (y.length - 1) ++ List.range' (pre ++ t ++ y).length (L.length + 1 - (pre ++ t ++ y).length))) := by
      have e1 : L.length + 1 - pre.length = t.length + (1 + ((y.length - 1) + (L.length + 1 - (pre ++ t ++ y).length))) := by simp; omega
      rw [e1, ← List.range'_append_1, ← List.range'_append_1, ← List.range'_append_1]
      congr 1
      show _ = [_] ++ _
      congr 1
      congr 2
      simp; omega
    rw [hr, og_skip fun a ha => ?_, og_hit ⟨by simp at hl ⊢; omega, by simp; omega, ?_⟩, og_skip fun a ha => ?_]
    · have ih := og_join hy (lim := lim) (ts := u :: r) (L := L) (pre := pre ++ t ++ y) (f := f ++ [pre.length + t.length]) (fr := pre.length + t.length + y.length) (by simp) hL3 (fun t ht => hc t (List.mem_cons_of_mem _ ht)) (by simp; omega) (by simp at hl ⊢; omega)
      rw [ih]
      have e5 : (pre ++ t ++ y).length = pre.length + t.length + y.length := by simp; omega
      rw [e5]
      simp [cutsOf]
    · rintro ⟨_, h, _⟩
      have h3 := (List.mem_range'_1.mp ha)
      simp at h
      omega
    · show ((L.drop (pre.length + t.length)).take y.length == y) = true
      rw [hL2, List.drop_append_of_le_length (by simp)]
      simp
    · rintro ⟨_, _, ho⟩
      have h3 := List.mem_range'_1.mp ha
      rw [okL_in hy hL2 (hc t (by simp)) h3.1 h3.2] at ho
      cases ho
open PySem.Builtin PySem.Builtin.Str PySem.StrLaws in
theorem parts_join {y : Tx} : ∀ {ts : List Tx} {L pre : Tx}, ts ≠ [] → L = pre ++ joinT y ts → (partsFrom (strOf L) y.length pre.length (cutsOf y.length pre.length ts)).map txOf = ts
  | [], L, pre, h, _ => absurd rfl h
  | [t], L, pre, _, hL => by
    show [txOf (strSub (strOf L) pre.length (strOf L).length)] = [t]
    congr 1
    show (strSub (strOf L) pre.length (strOf L).length).cps.toList = t
    rw [strSub_toList]
    have e : (strOf L).length = L.length := by simp [strOf, Str.length]
    rw [e]
    show (L.drop pre.length).take (L.length - pre.length) = t
    rw [hL]
    simp [joinT]
  | t :: u :: r, L, pre, _, hL => by
    have hL2 : L = pre ++ t ++ (y ++ joinT y (u :: r)) := by rw [hL]; simp [joinT]
    have hL3 : L = (pre ++ t ++ y) ++ joinT y (u :: r) := by rw [hL2]; simp
    have ih := parts_join (ts := u :: r) (L := L) (pre := pre ++ t ++ y) (by simp) hL3
    have e5 : (pre ++ t ++ y).length = pre.length + t.length + y.length := by simp; omega
    rw [e5] at ih
    show txOf (strSub (strOf L) pre.length (pre.length + t.length)) :: (partsFrom (strOf L) y.length (pre.length + t.length + y.length) (cutsOf y.length (pre.length + t.length + y.length) (u :: r))).map txOf = _
    rw [ih]
    congr 1
    show (strSub (strOf L) pre.length (pre.length + t.length)).cps.toList = t
    rw [strSub_toList]
    show (L.drop pre.length).take (pre.length + t.length - pre.length) = t
    rw [hL2]
    simp
theorem joinT_ge {y : Tx} : ∀ {t u : Tx} {r : List Tx}, y.length ≤ (joinT y (t :: u :: r)).length := by
  intro t u r
  simp [joinT]
  omega
open PySem.Builtin PySem.Builtin.Str PySem.StrLaws in
theorem kind1 {L : Tx} (h : ∀ c ∈ L, c < 256) : PySem.Builtin.Str.strKind (strOf L) = 1 := by
  unfold PySem.Builtin.Str.strKind
  rw [if_pos]
  show (L.toArray.all fun c => decide (c < 256)) = true
  simp
  intro i hi
  exact h i hi
open PySem.Builtin PySem.Builtin.Str PySem.StrLaws in
/-- what was joined is split again -/
theorem splitT_join {y : Tx} {c : Nat} {ts : List Tx} (hy : y.head? = some c) (h0 : ts ≠ []) (hc : ∀ t ∈ ts, c ∉ t) (hk : ∀ c ∈ joinT y ts, c < 256) (hk2 : ∀ c ∈ y, c < 256) : splitT (joinT y ts) y = ts := by
  have hyn : y ≠ [] := by rintro rfl; simp at hy
  have e1 : (strOf (joinT y ts)).length = (joinT y ts).length := by simp [strOf, Str.length]
  have e2 : (strOf y).length = y.length := by simp [strOf, Str.length]
  have one : ∀ t, ts = [t] → [strOf (joinT y ts)].map txOf = ts := fun t e => by rw [e]; rfl
  have lenle : ts.length ≤ (joinT y ts).length + 1 := by
    have hz : y.length ≠ 0 := by simpa using hyn
    clear hk hc one h0 e1
    induction ts with
    | nil => simp
    | cons t ts ih =>
      cases ts with
      | nil => simp
      | cons u r => simp [joinT] at ih ⊢; omega
  have hog := og_join hy (lim := (joinT y ts).length + 1) (L := joinT y ts) (pre := []) (f := []) (fr := 0) h0 rfl hc (Nat.le_refl _) (by simpa using lenle)
  unfold splitT Txt.split
  rw [e1, e2, kind1 hk, kind1 hk2]
  split
  · rename_i h
    simp at h
    cases ts with
    | nil => exact absurd rfl h0
    | cons t r =>
      cases r with
      | nil => exact one t rfl
      | cons u r => have := @joinT_ge y t u r; omega
  · rw [← e1, occ_list hyn, e1]
    have og' : og (okL (joinT y ts) y) y.length ((joinT y ts).length + 1) (List.range' 0 ((joinT y ts).length + 1)) ([], 0) = cutsOf y.length 0 ts := by simpa using hog
    rw [og']
    split
    · rename_i h
      cases ts with
      | nil => exact absurd rfl h0
      | cons t r =>
        cases r with
        | nil => exact one t rfl
        | cons u r => simp [cutsOf] at h
    · rw [partsBetween_eq]
      exact parts_join (pre := []) h0 rfl
open PySem.Builtin PySem.Builtin.Str PySem.StrLaws in
/-- parted at the first sign of a kind -/
theorem partT_at {w r : Tx} {c : Nat} (h : c ∉ w) : partT (w ++ c :: r) [c] = [w, [c], r] := by
  have hL : w ++ c :: r = [] ++ w ++ (c :: r) := by simp
  have e1 : (strOf (w ++ c :: r)).length = (w ++ c :: r).length := by simp [strOf, Str.length]
  have hocc : occurrences (strOf (w ++ c :: r)) (strOf [c]) 0 (strOf (w ++ c :: r)).length 1 = [w.length] := by
    rw [occ_list (by simp)]
    have hr : List.range' 0 ((w ++ c :: r).length + 1) = List.range' 0 w.length ++ (w.length :: List.range' (w.length + 1) (r.length + 1)) := by
      have : (w ++ c :: r).length + 1 = w.length + (1 + (r.length + 1)) := by simp; omega
      rw [this, ← List.range'_append_1, ← List.range'_append_1]
      simp
    rw [hr, og_skip fun a ha => ?_, og_hit ⟨by simp, by simp, ?_⟩, og_none fun a ha => ?_]
    · rfl
    · rintro ⟨h1, _⟩
      simp at h1
    · show (((w ++ c :: r).drop w.length).take 1 == [c]) = true
      simp
    · rintro ⟨_, _, ho⟩
      have h3 := List.mem_range'_1.mp ha
      rw [okL_in (c := c) rfl hL h (by simp) (by simpa using h3.2)] at ho
      cases ho
  unfold partT Txt.partition
  rw [hocc]
  have e2 : (strOf [c]).length = 1 := rfl
  rw [e1, e2]
  dsimp only
  have s1 : txOf (strSub (strOf (w ++ c :: r)) 0 w.length) = w := by
    show (strSub _ _ _).cps.toList = w
    rw [strSub_toList]
    show ((w ++ c :: r).drop 0).take (w.length - 0) = w
    simp
  have s2 : txOf (strSub (strOf (w ++ c :: r)) (w.length + 1) (w ++ c :: r).length) = r := by
    show (strSub _ _ _).cps.toList = r
    rw [strSub_toList]
    show ((w ++ c :: r).drop (w.length + 1)).take ((w ++ c :: r).length - (w.length + 1)) = r
    rw [← List.drop_drop]
    simp
    exact List.take_of_length_le (by omega)
  rw [s1, s2]
  rfl
open PySem.Builtin PySem.Builtin.Str PySem.StrLaws in
theorem endsT_one {w : Tx} {c : Nat} : endsT w [c] = decide (w.getLast? = some c) := by
  unfold endsT Txt.endswith
  have e1 : (strOf w).length = w.length := by simp [strOf, Str.length]
  have e2 : (strOf [c]).length = 1 := rfl
  rw [e1, e2, subAt_eq, e2]
  show (decide (0 + 1 ≤ w.length) && ((w.drop (w.length - 1)).take 1 == [c])) = _
  rw [Bool.eq_iff_iff, Bool.and_eq_true, decide_eq_true_eq, decide_eq_true_eq, take1_drop, List.getLast?_eq_getElem?]
  constructor
  · exact fun h => h.2
  · intro h
    have := (List.getElem?_eq_some_iff.mp h).1
    exact ⟨by omega, h⟩
end U
end

section
set_option maxRecDepth 100000
set_option maxHeartbeats 1000000
/-! Plain facts for laws: texts of rules, read again. -/
namespace U
open PySem
def wOk (t : Tx) : Bool := decide (1 ≤ t.length) && decide (t.length ≤ 8) && t.all fun c => decide (c ∈ LET)
/-- a text of a rule of so many sides -/
def tOk (s : Nat) (t : Tx) : Bool := if s = 1 then wOk t else (t.take 2 == [49, 46] || t.take 2 == [50, 46]) && wOk (t.drop 2)
structure Ru.Wd (R : Ru) : Prop where
  ok : ∀ w ∈ R.ws, tOk R.s w = true
  st : R.ws.Pairwise (· < ·)
theorem wOk_iff {t : Tx} : wOk t = true ↔ 1 ≤ t.length ∧ t.length ≤ 8 ∧ ∀ c ∈ t, c ∈ LET := by
  unfold wOk
  simp [and_assoc]
theorem tOk_facts {s : Nat} {t : Tx} (h : tOk s t = true) : 1 ≤ t.length ∧ t.length ≤ 10 ∧ ∀ c ∈ t, c ∈ LET ∨ c = 46 ∨ c = 49 ∨ c = 50 := by
  unfold tOk at h
  split at h
  · obtain ⟨a, b, c⟩ := wOk_iff.mp h
    exact ⟨a, by omega, fun d hd => .inl (c d hd)⟩
  · rw [Bool.and_eq_true, Bool.or_eq_true, beq_iff_eq, beq_iff_eq] at h
    obtain ⟨h1, h2⟩ := h
    obtain ⟨a, b, c⟩ := wOk_iff.mp h2
    have e : t = t.take 2 ++ t.drop 2 := (List.take_append_drop 2 t).symm
    have hl : (t.drop 2).length = t.length - 2 := List.length_drop
    refine ⟨by omega, by omega, fun d hd => ?_⟩
    rw [e] at hd
    rcases List.mem_append.mp hd with hd | hd
    · rcases h1 with h1 | h1 <;> rw [h1] at hd <;> simp at hd <;> omega
    · exact .inl (c d hd)
theorem tOk_not {s : Nat} {t : Tx} (h : tOk s t = true) {c : Nat} (hc : c < 46) : c ∉ t := fun z => by
  rcases (tOk_facts h).2.2 c z with z | z
  · have := let_mem z; omega
  · omega
theorem tOk_not2 {s : Nat} {t : Tx} (h : tOk s t = true) {c : Nat} (hc : 51 ≤ c ∧ c < 97) : c ∉ t := fun z => by
  rcases (tOk_facts h).2.2 c z with z | z
  · have := let_mem z; omega
  · omega
theorem tOk_lt {s : Nat} {t : Tx} (h : tOk s t = true) : ∀ c ∈ t, c < 256 := fun c z => by
  rcases (tOk_facts h).2.2 c z with z | z
  · have := let_mem z; omega
  · omega
theorem showI_num : ∀ k : Nat, k < 60 → (showI (k : Int) ≠ [] ∧ (showI (k : Int)).length ≤ 2 ∧ ((showI (k : Int)).length = 2 → (showI (k : Int)).head? ≠ some 48) ∧ (∀ c ∈ showI (k : Int), c ∈ [48, 49, 50, 51, 52, 53, 54, 55, 56, 57])) := by decide +kernel
theorem showI_int : ∀ k : Nat, k < 60 → PySem.intText? ⟨(showI (k : Int)).toArray⟩ = some (k : Int) := by decide +kernel
theorem wayT_lt {s : Nat} {w : Tx} {o : Option Nat} (h : tOk s w = true) (ho : ∀ k, o = some k → k < 60) : ∀ c ∈ wayT w o, c < 256 ∧ c ≠ 32 ∧ c ≠ 59 ∧ c ≠ 10 := by
  have b := fun c z => (tOk_facts h).2.2 c z
  have b2 : ∀ c ∈ w, c < 256 ∧ c ≠ 32 ∧ c ≠ 59 ∧ c ≠ 10 := fun c z => by
    rcases b c z with z | z
    · have := let_mem z; omega
    · omega
  intro c hc
  cases o with
  | none =>
    rcases List.mem_append.mp hc with hc | hc
    · exact b2 c hc
    · simp at hc; omega
  | some k =>
    rcases List.mem_append.mp hc with hc | hc
    · rcases List.mem_append.mp hc with hc | hc
      · exact b2 c hc
      · simp at hc; omega
    · have := (showI_num k (ho k rfl)).2.2.2 c hc
      simp at this
      omega
theorem joinT_mem {y : Tx} {c : Nat} : ∀ {ts : List Tx}, c ∈ joinT y ts → c ∈ y ∨ ∃ t ∈ ts, c ∈ t
  | [], h => by simp [joinT] at h
  | [t], h => .inr ⟨t, by simp, by simpa [joinT] using h⟩
  | t :: u :: r, h => by
    have h : c ∈ t ++ y ++ joinT y (u :: r) := h
    rcases List.mem_append.mp h with h | h
    · rcases List.mem_append.mp h with h | h
      · exact .inr ⟨t, by simp, h⟩
      · exact .inl h
    · rcases joinT_mem h with h | ⟨v, h1, h2⟩
      · exact .inl h
      · exact .inr ⟨v, List.mem_cons_of_mem _ h1, h2⟩
theorem wayT_ne {w : Tx} {o : Option Nat} : wayT w o ≠ [] := by
  cases o <;> simp [wayT]
theorem joinT_ne {y : Tx} {t : Tx} {ts : List Tx} (h : t ≠ []) : joinT y (t :: ts) ≠ [] := by
  cases ts with
  | nil => simpa [joinT] using h
  | cons u r => simp [joinT, h]
@[simp] theorem y_room {r : List (Option Nat)} {t : Ty} : isTyP (roomP r) t = some (t == .list) := rfl
@[simp] theorem y_ru {R : Ru} {t : Ty} : isTyP R.p t = some (t == .tuple) := rfl
@[simp] theorem len_ru {R : Ru} : bltP .len [R.p] = some (.int 3) := rfl
theorem in_tup2 {w a b : Tx} : inP (.str w) (.tup [.str a, .str b]) = some (decide (w = a) || decide (w = b)) := by
  show grd ((P.str w).dat && (P.tup [.str a, .str b]).dat) _ = _
  have e1 : (P.str w).dat = true := rfl
  have e2 : (P.tup [P.str a, P.str b]).dat = true := by rfl
  rw [e1, e2]
  have c : ∀ a b : Tx, decide (a = b) = decide (b = a) := fun a b => decide_eq_decide.mpr ⟨Eq.symm, Eq.symm⟩
  simp only [Bool.and_self, List.any_cons, List.any_nil, Bool.or_false, eqv_str]
  rw [c a w, c b w]
  rfl
theorem in_itup2 {w a b : Int} : inP (.int w) (.tup [.int a, .int b]) = some (decide (w = a) || decide (w = b)) := by
  show grd ((P.int w).dat && (P.tup [.int a, .int b]).dat) _ = _
  have e1 : (P.int w).dat = true := rfl
  have e2 : (P.tup [P.int a, P.int b]).dat = true := by rfl
  rw [e1, e2]
  have c : ∀ a b : Int, decide (a = b) = decide (b = a) := fun a b => decide_eq_decide.mpr ⟨Eq.symm, Eq.symm⟩
  simp only [Bool.and_self, List.any_cons, List.any_nil, Bool.or_false, eqv_int]
  rw [c a w, c b w]
  rfl
theorem cut_2 {t : Tx} : cut t none (some 2) = t.take 2 := by rw [cut_to (by omega)]; rfl
theorem cut_2' {t : Tx} : cut t (some 2) none = t.drop 2 := by rw [cut_from (by omega)]; rfl
theorem cut_3 {t : Tx} : cut t none (some 3) = t.take 3 := by rw [cut_to (by omega)]; rfl
theorem cut_3' {t : Tx} : cut t (some 3) none = t.drop 3 := by rw [cut_from (by omega)]; rfl
theorem int_str {t : Tx} {i : Int} (h : t.length ≤ 640) (e : PySem.intText? ⟨t.toArray⟩ = some i) : bltP .int [.str t] = some (.int i) := by
  show (grd (decide (t.length ≤ 640)) ()).bind (fun _ => (PySem.intText? ⟨t.toArray⟩).map P.int) = some (P.int i)
  rw [decide_eq_true h, e]
  rfl
theorem cut_m1 {α : Type} {l : List α} : cut l none (some (-1)) = l.dropLast := by
  unfold cut sIx
  dsimp only
  rw [if_neg (by omega), List.drop_zero, Nat.sub_zero, List.dropLast_eq_take]
  congr 1
  omega
theorem okTx_of {t : Tx} (h : ∀ c ∈ t, c < 256) : okTx t = true := by
  unfold okTx
  rw [List.all_eq_true]
  intro c hc
  have := h c hc
  simp
  omega
/-- a slot given up that is given up already -/
def drS (s : SL) : SL := s.map fun q => nrm q.1 0
theorem drp_id : ∀ {lk : List Nat} {ρ : Rho}, (∀ i ∈ lk, ∀ s, ρ[i]? = some s → drS s = s) → drp lk ρ = ρ
  | [], ρ, _ => rfl
  | i :: lk, ρ, h => by
    unfold drp
    rw [drp_id fun j hj => h j (List.mem_cons_of_mem _ hj)]
    refine List.ext_getElem? fun j => ?_
    rw [List.getElem?_modify]
    by_cases e : i = j
    · subst e
      cases e2 : ρ[i]? with
      | none => rfl
      | some s =>
        have := h i (by simp) s e2
        simp only [if_true]
        show some _ = some s
        congr 1
    · simp [e]
structure GivesZ {α : Type} (enc : α → P) (a : α) (lk0 : List Nat) (x : Option PV) : Prop where
  h : ∃ lk, x = some ⟨enc a, 0, lk⟩ ∧ ∀ i ∈ lk, i ∈ lk0
/-- a comprehension of what others have -/
theorem compP_zero {α β : Type} {f : P → Option (Option PV)} {Q : PVs → Prop} {enc : α → P} {encB : β → P} (lk0 : List Nat) (g : β → α) : ∀ (l : List β), l ≠ [] → (∀ b ∈ l, Tn (f (encB b)) (GivesZ enc (g b) lk0)) → (∀ lk, (∀ i ∈ lk, i ∈ lk0) → Q ⟨(l.map g).map enc, false, lk⟩) → Tn (compP f (l.map encB)) Q
  | [], h, _, _ => absurd rfl h
  | [b], _, h, hq => by
    show Tn (compP f [encB b]) Q
    unfold compP
    simp only [tn_bind, tn_map]
    refine (h b (by simp)).mono fun x ⟨⟨lk, e, hl⟩⟩ => ?_
    subst e
    unfold compP
    rw [tn_some]
    exact hq (lk ++ []) (by simpa using hl)
  | b :: c :: r, _, h, hq => by
    show Tn (compP f (encB b :: (c :: r).map encB)) Q
    unfold compP
    simp only [tn_bind, tn_map]
    refine (h b (by simp)).mono fun x ⟨⟨lk, e, hl⟩⟩ => ?_
    subst e
    refine compP_zero lk0 g (c :: r) (by simp) (fun b hb => h b (List.mem_cons_of_mem _ hb)) fun lk2 hl2 => ?_
    exact hq (lk ++ lk2) fun i hi => by
      rcases List.mem_append.mp hi with hi | hi
      · exact hl i hi
      · exact hl2 i hi
/-- a named rule -/
def rlP (x : Tx × Ru) : P := .tup [.str x.1, x.2.p]
def lineT (x : Tx × Ru) : Tx := x.1 ++ 32 :: x.2.T
@[simp] theorem scal_rl {x : Tx × Ru} : P.scal (rlP x) = false := rfl
@[simp] theorem nrm_rl {x : Tx × Ru} {lv : Nat} : nrm (rlP x) lv = (rlP x, lv) := rfl
@[simp] theorem vr_rl {x : Tx × Ru} {lv : Nat} {lk : List Nat} : vr (rlP x) lv lk = ⟨rlP x, lv, lkv lv lk⟩ := rfl
@[simp] theorem asg_rl {a b : Tg} {x : Tx × Ru} {lv : Nat} {ρ : Rho} : asgP (.tp [a, b]) (rlP x) lv ρ = asgPs [a, b] [.str x.1, x.2.p] 0 ρ := rfl
@[simp] theorem idx_rl0 {x : Tx × Ru} : idxP (rlP x) (.int 0) = some (.str x.1) := rfl
@[simp] theorem idx_rl1 {x : Tx × Ru} : idxP (rlP x) (.int 1) = some x.2.p := rfl
@[simp] theorem y_rl {x : Tx × Ru} {t : Ty} : isTyP (rlP x) t = some (t == .tuple) := rfl
@[simp] theorem len_rl {x : Tx × Ru} : bltP .len [rlP x] = some (.int 2) := rfl
@[simp] theorem part_rl0 {x : Tx × Ru} {q : P} {lk : List Nat} : partv (rlP x) ⟨q, 0, lk⟩ = ⟨rlP x, 0, lk⟩ := rfl
@[simp] theorem part_ru0 {x : Ru} {q : P} {lk : List Nat} : partv x.p ⟨q, 0, lk⟩ = ⟨x.p, 0, lk⟩ := rfl
theorem Ru.T_facts {R : Ru} (h : R.Ok) (z : R.Sz) (w : R.Wd) : R.T.length ≤ 16000 ∧ ∀ c ∈ R.T, c < 256 ∧ c ≠ 10 := by
  have hlt : ∀ r ∈ R.rs, ∀ k, some k ∈ r → k < 60 := fun r hr k hk => by have := h.lt r hr k hk; have := z.rs; omega
  obtain ⟨d, ed, hd⟩ := show12 (i := (R.s : Int)) (by have := h.s; omega)
  have hb2 := joinT_le (s := [59, 32]) (R.rooms_le h z) (n := 60) (by simpa using z.rs)
  have eT : R.T = d :: 58 :: 32 :: joinT [59, 32] (R.rs.map (roomT R.ws)) := by simp [Ru.T, ed]
  rw [eT]
  refine ⟨by simp at hb2 ⊢; omega, fun c hc => ?_⟩
  rcases List.mem_cons.mp hc with rfl | hc
  · omega
  rcases List.mem_cons.mp hc with rfl | hc
  · omega
  rcases List.mem_cons.mp hc with rfl | hc
  · omega
  rcases joinT_mem hc with y | ⟨t, ht, y⟩
  · simp at y; omega
  · obtain ⟨r, hr, rfl⟩ := List.mem_map.mp ht
    rcases joinT_mem y with y | ⟨u, hu, y⟩
    · simp at y; omega
    · obtain ⟨⟨w', o⟩, hp, rfl⟩ := List.mem_map.mp hu
      obtain ⟨h1, h2⟩ := List.of_mem_zip hp
      have := wayT_lt (w.ok w' h1) (o := o) (fun k e => hlt r hr k (e ▸ h2)) c y
      omega
structure Named (xs : List (Tx × Ru)) : Prop where
  ok : ∀ x ∈ xs, wOk x.1 = true ∧ x.2.Ok ∧ x.2.Sz ∧ x.2.Wd
  nd : (xs.map (·.1)).Nodup
  le : xs.length ≤ 8
theorem Named.line {xs : List (Tx × Ru)} (n : Named xs) {x : Tx × Ru} (hx : x ∈ xs) : (lineT x).length ≤ 16010 ∧ ∀ c ∈ lineT x, c < 256 ∧ c ≠ 10 := by
  obtain ⟨h1, h2, h3, h4⟩ := n.ok x hx
  obtain ⟨a, b⟩ := Ru.T_facts h2 h3 h4
  obtain ⟨_, w2, w3⟩ := wOk_iff.mp h1
  refine ⟨by simp [lineT]; omega, fun c hc => ?_⟩
  rcases List.mem_append.mp hc with hc | hc
  · have := let_mem (w3 c hc); omega
  · rcases List.mem_cons.mp hc with rfl | hc
    · omega
    · exact b c hc
theorem tx_lt {a b : Tx} (h : ¬ b < a) (k : a ≠ b) : a < b := by
  by_cases z : a < b
  · exact z
  · exact absurd (List.le_antisymm (List.not_lt.mp h) (List.not_lt.mp z)) k
theorem insT_mem {a c : Tx} : ∀ {l : List Tx}, c ∈ insT a l ↔ c = a ∨ c ∈ l
  | [] => by simp [insT]
  | b :: r => by
    rw [insT]
    split
    · rw [List.mem_cons, insT_mem, List.mem_cons]; constructor <;> (intro h; rcases h with h | h | h <;> simp [h])
    · simp
theorem insT_strict {a : Tx} : ∀ {l : List Tx}, l.Pairwise (· < ·) → a ∉ l → (insT a l).Pairwise (· < ·)
  | [], _, _ => by simp [insT]
  | b :: r, h, hn => by
    rw [List.pairwise_cons] at h
    rw [insT]
    split
    · rename_i hb
      rw [List.pairwise_cons]
      refine ⟨fun c hc => ?_, insT_strict h.2 fun z => hn (List.mem_cons_of_mem _ z)⟩
      rcases insT_mem.mp hc with rfl | hc
      · exact hb
      · exact h.1 c hc
    · rename_i hb
      have hab : a < b := tx_lt hb fun z => hn (by rw [z]; simp)
      rw [List.pairwise_cons, List.pairwise_cons]
      refine ⟨fun c hc => ?_, h⟩
      rcases List.mem_cons.mp hc with rfl | hc
      · exact hab
      · exact List.lt_trans hab (h.1 c hc)
theorem sortT_strict : ∀ {l : List Tx}, l.Nodup → (sortT l).Pairwise (· < ·)
  | [], _ => by simp [sortT]
  | a :: r, h => by
    rw [List.nodup_cons] at h
    exact insT_strict (sortT_strict h.2) (by simpa using h.1)
structure GivesP {α : Type} (enc : α → P) (a : α) (x : Option PV) : Prop where
  h : x = none ∨ ∃ lk, x = some ⟨enc a, 2, lk⟩
/-- a comprehension with a test: what is kept, in its order -/
theorem compP_pick {α β : Type} {f : P → Option (Option PV)} {Q : PVs → Prop} {enc : α → P} {encB : β → P} (g : β → α) : ∀ (l : List β), (∀ b ∈ l, Tn (f (encB b)) (GivesP enc (g b))) → (∀ (as : List α) lk, as.Sublist (l.map g) → Q ⟨as.map enc, true, lk⟩) → Tn (compP f (l.map encB)) Q
  | [], _, hq => ⟨_, rfl, hq [] [] (List.Sublist.refl _)⟩
  | b :: l, hs, hq => by
    show Tn (compP f (encB b :: l.map encB)) Q
    unfold compP
    simp only [tn_bind, tn_map]
    refine (hs b (List.mem_cons_self ..)).mono fun x ⟨h⟩ => ?_
    rcases h with rfl | ⟨lk, rfl⟩
    · refine compP_pick (enc := enc) g l (fun q hq' => hs q (List.mem_cons_of_mem _ hq')) fun as lk' hl => ?_
      exact hq as _ (hl.cons _)
    · refine compP_pick (enc := enc) g l (fun q hq' => hs q (List.mem_cons_of_mem _ hq')) fun as lk' hl => ?_
      exact hq (g b :: as) _ (hl.cons_cons _)
theorem range_get {ts : List Tx} : (List.range ts.length).map (fun k => ts[k]?.getD []) = ts := by
  refine List.ext_getElem (by simp) fun i h1 h2 => ?_
  simp at h1
  simp [h1]
theorem rngP_0 {n : Nat} : rngP 0 n = (List.range n).map fun k : Nat => P.int (k : Int) := by
  unfold rngP
  refine List.map_congr_left fun k _ => by simp
/-! ### words that differ at a drawn place -/
def mixV (c k : Int) : Int := ((c % 2147483647 + 7919 * k * k + k) * 48271 % 2147483647) * ((c % 2147483647 + 7919 * k * k + k) * 48271 % 2147483647) % 1000003
theorem mixV_bd {c k : Int} : 0 ≤ mixV c k ∧ mixV c k < 1000003 := by
  unfold mixV
  omega
theorem let_get {j x : Nat} (h : LET[j]? = some x) : x = 97 + j := by
  have hj := (List.getElem?_eq_some_iff.mp h).1
  have : ∀ j, j < 26 → LET[j]? = some (97 + j) := by decide
  rw [this j hj] at h
  exact (Option.some.inj h).symm
def ltW (c : Int) (at_ k j : Nat) : Nat := 97 + ((mixV c j + 5 * (k : Int) * (if j = at_ then 1 else 0)) % 26).toNat
def wdW (c : Int) (sz at_ k : Nat) : Tx := (List.range sz).map (ltW c at_ k)
theorem wdW_ok {c : Int} {sz at_ k : Nat} (h1 : 1 ≤ sz) (h2 : sz ≤ 8) : wOk (wdW c sz at_ k) = true := by
  refine wOk_iff.mpr ⟨by simp [wdW]; omega, by simp [wdW]; omega, fun x hx => ?_⟩
  obtain ⟨j, _, rfl⟩ := List.mem_map.mp hx
  refine mem_let ?_
  unfold ltW
  split <;> omega
theorem wdW_ne {c : Int} {sz at_ k k' : Nat} (ha : at_ < sz) (h : k < 8) (h' : k' < 8) (hne : k ≠ k') : wdW c sz at_ k ≠ wdW c sz at_ k' := fun e => by
  have e2 : (wdW c sz at_ k)[at_]? = (wdW c sz at_ k')[at_]? := by rw [e]
  simp only [wdW, List.getElem?_map, List.getElem?_range ha, Option.map_some, Option.some.injEq] at e2
  unfold ltW at e2
  simp only [if_true] at e2
  omega
theorem wdW_nodup {c : Int} {sz at_ m : Nat} (ha : at_ < sz) (hm : m ≤ 8) : ((List.range m).map (wdW c sz at_)).Nodup := by
  rw [List.nodup_iff_pairwise_ne, List.pairwise_map]
  refine (List.nodup_iff_pairwise_ne.mp List.nodup_range).imp_of_mem fun hx hy hxy => ?_
  have := List.mem_range.mp hx
  have := List.mem_range.mp hy
  exact wdW_ne ha (by omega) (by omega) hxy
end U
end

section
set_option maxRecDepth 100000
set_option maxHeartbeats 1000000
/-! A law's end in the heap machine: values given away whole, then changed. -/
namespace U
open PySem
/-- no slot, and nobody else either -/
abbrev TMP : Nat := 999999
section
variable {T : Tab} {F : Nat → List D → M D} {FP : Nat → List P → Option (P × Nat)} {h h' : Hd} {σ : St} {ρ : Rho} {ow : Ow}
theorem Pn.no {r : PR} {N : Rho → Prop} {R : P → Nat → Prop} {C B : Rho → Prop} (k : Pn r N R C B) : r ≠ .no := fun e => by
  subst e; exact k.h
/-- from here the law ends in True -/
def Ds (T : Tab) (F : Nat → List D → M D) (t : CSs) (ρ : Rho) : Prop := ∀ h σ ow, Inv h σ ρ ow → Sn (evSs T F t σ h) (fun _ _ => False) (fun v _ => v = .bl true) (fun _ _ => False) (fun _ _ => False)
theorem ds_pn (hF : FSnd F FP) (hT : T.wh = whl) {t : CSs} (k : Pn (evSPs FP t ρ) (fun _ => False) (fun p _ => p = .bl true) (fun _ => False) (fun _ => False)) : Ds T F t ρ := fun h σ ow I => by
  refine Sn.mono (stsP_ok hF hT t I k.no) (fun σ' h' ⟨ρ', e, _⟩ => ?_) (fun v h' ⟨p, lv, e, ow', ws, _, q, _⟩ => ?_) (fun σ' h' ⟨ρ', e, _⟩ => ?_) fun σ' h' ⟨ρ', e, _⟩ => ?_
  · rw [e] at k; exact k.h
  · rw [e] at k
    have k : p = .bl true := k.h
    subst k
    exact (rp_bl.mp q).1
  · rw [e] at k; exact k.h
  · rw [e] at k; exact k.h
theorem ds_go (hF : FSnd F FP) (hT : T.wh = whl) {t : CSs} {s : CS} {r : CSs} (e : t = .cons s r) (k : Pn (evSP FP s ρ) (fun ρ' => Ds T F r ρ') (fun p _ => p = .bl true) (fun _ => False) (fun _ => False)) : Ds T F t ρ := fun h σ ow I => by
  subst e
  rw [sn_cons]
  refine Sn.mono (stP_ok hF hT s I k.no) (fun σ' h' ⟨ρ', e, ow', I', _⟩ => ?_) (fun v h' ⟨p, lv, e, ow', ws, _, q, _⟩ => ?_) (fun σ' h' ⟨ρ', e, _⟩ => ?_) fun σ' h' ⟨ρ', e, _⟩ => ?_
  · rw [e] at k
    exact k.h h' σ' ow' I'
  · rw [e] at k
    have k : p = .bl true := k.h
    subst k
    exact (rp_bl.mp q).1
  · rw [e] at k; exact k.h.elim
  · rw [e] at k; exact k.h.elim
/-- a slot of which nothing is said -/
theorem Inv.junk {i : Nat} {v : Option D} (I : Inv h σ ρ ow) (e : ρ[i]? = some none) : Inv h (σ.set i v) ρ ow := by
  refine ⟨by rw [List.length_set]; exact I.len, fun j p lv ej => ?_, I.own, I.small⟩
  obtain ⟨d, us, e1, q, l⟩ := I.rep j p lv ej
  refine ⟨d, us, ?_, q, l⟩
  rw [List.getElem?_set_ne (fun z => by subst z; rw [e] at ej; cases ej)]
  exact e1
theorem Inv.forget {i : Nat} (I : Inv h σ ρ ow) : Inv h σ (ρ.set i none) ow := by
  refine ⟨by rw [List.length_set]; exact I.len, fun j p lv ej => ?_, I.own, by rw [List.length_set]; exact I.small⟩
  by_cases z : i = j
  · subst z
    by_cases hl : i < ρ.length
    · rw [List.getElem?_set_self hl] at ej; cases ej
    · rw [List.getElem?_eq_none (by simpa using hl)] at ej; cases ej
  · rw [List.getElem?_set_ne z] at ej
    exact I.rep j p lv ej
/-- a place that no slot has is written -/
theorem Inv.wild {x : Nat} {o : O} (I : Inv h σ ρ ow) (hB : ρ.length < TMP) (e : ow x = some TMP) : Inv (h.set x o) σ ρ ow := by
  refine ⟨I.len, fun j p lv ej => ?_, fun r i er => ?_, I.small⟩
  · obtain ⟨d, us, e1, q, l⟩ := I.rep j p lv ej
    have hj : j < ρ.length := (List.getElem?_eq_some_iff.mp ej).1
    refine ⟨d, us, e1, q.fr fun r hr => List.getElem?_set_ne fun z => ?_, l⟩
    subst z
    by_cases a : lv = 2
    · rw [(l.1 a).2 x hr] at e; cases e; omega
    · by_cases b : lv = 1
      · obtain ⟨n, ws, rfl, w1, w2⟩ := l.2.1 b
        rcases List.mem_cons.mp hr with rfl | hr
        · rw [w1] at e; cases e; omega
        · rw [w2 x hr] at e; cases e
      · rw [l.2.2 a b x hr] at e; cases e
  · show r < _
    rw [List.length_set]
    exact I.own r i er
/-- the slot's value, whole, has places that no other slot has -/
def Dr (T : Tab) (F : Nat → List D → M D) (t : CSs) (ρ : Rho) (i : Nat) (p : P) : Prop := ∀ h σ ow d us, Inv h σ ρ ow → σ[i]? = some (some d) → Rp h p d us → (∀ x ∈ us, ow x = some TMP) →
  Sn (evSs T F t σ h) (fun _ _ => False) (fun v _ => v = .bl true) (fun _ _ => False) (fun _ _ => False)
theorem ds_reg (hF : FSnd F FP) {t : CSs} {i f : Nat} {es : CEs} {r : CSs} (e : t = .cons (.set (.nm i) (.call f es)) r) (hi : i < ρ.length) (k : Tn (evPs FP es ρ) fun v => P.scals v.ps = true ∧ Tn (FP f v.ps) fun q => Dr T F r (ρ.set i none) i q.1) : Ds T F t ρ := fun h σ ow I => by
  subst e
  obtain ⟨v, e1, hs, k⟩ := k.h
  obtain ⟨q, e2, k⟩ := k.h
  rw [sn_cons, sn_set, rn_call]
  refine (evPs_ok hF es I e1).mono fun ds h1 ⟨f1, us1, r1, _⟩ => ?_
  obtain ⟨rfl, _⟩ := r1.scal hs
  refine (hF f v.ps q e2 h1 ds [] r1).mono fun d h2 ⟨f2, ws, q2, w1, _⟩ => ?_
  have ea : asg (.nm i) d σ = some (σ.set i (some d)) := by
    show (if i < σ.length then some (σ.set i (some d)) else none) = _
    rw [if_pos (by rw [← I.len]; exact hi)]
  rw [ea, rn_some]
  have f12 := f1.trans f2
  have nw : ∀ x ∈ ws, h.length ≤ x := fun x hx => by
    rcases w1 x hx with z | z
    · exact Nat.le_trans f1.1 z
    · cases z
  refine k h2 (σ.set i (some d)) (fun x => if x ∈ ws then some TMP else ow x) d ws ⟨by simp [I.len], fun j p lv ej => ?_, fun x j ex => ?_, by rw [List.length_set]; exact I.small⟩ (by rw [List.getElem?_set_self (by rw [← I.len]; exact hi)]) q2 fun x hx => if_pos hx
  · by_cases z : i = j
    · subst z
      rw [List.getElem?_set_self hi] at ej; cases ej
    · rw [List.getElem?_set_ne z] at ej
      obtain ⟨d', us', e1', q', l⟩ := I.rep j p lv ej
      have same : ∀ x ∈ us', (fun x => if x ∈ ws then some TMP else ow x) x = ow x := fun x hx => if_neg fun y => by
        have := nw x y
        have := q'.lt x hx
        omega
      refine ⟨d', us', by rw [List.getElem?_set_ne z]; exact e1', q'.frA f12, fun a => ⟨(l.1 a).1, fun x hx => (same x hx).trans ((l.1 a).2 x hx)⟩, fun a => ?_, fun a b x hx => (same x hx).trans (l.2.2 a b x hx)⟩
      obtain ⟨n, wz, rfl, w1, w2⟩ := l.2.1 a
      exact ⟨n, wz, rfl, (same n (by simp)).trans w1, fun x hx => (same x (by simp [hx])).trans (w2 x hx)⟩
  · have ex : (if x ∈ ws then some TMP else ow x) = some j := ex
    split at ex
    · rename_i z; exact q2.lt x z
    · exact (I.own x j ex).fr f12
/-- it is lent for a look -/
theorem Inv.lend {i : Nat} {d : D} {us : List Nat} {p : P} (I : Inv h σ ρ ow) (hB : ρ.length < TMP) (e : σ[i]? = some (some d)) (q : Rp h p d us) (hu : ∀ x ∈ us, ow x = some TMP) : Inv h σ (ρ.set i (some (nrm p 0))) (fun x => if ow x = some TMP then none else ow x) := by
  refine ⟨by rw [List.length_set]; exact I.len, fun j p' lv ej => ?_, fun x j ex => ?_, by rw [List.length_set]; exact I.small⟩
  · by_cases z : i = j
    · subst z
      by_cases hl : i < ρ.length
      · rw [List.getElem?_set_self hl] at ej
        injection ej with ej; injection ej with ej
        have e1 : p = p' := congrArg Prod.fst ej
        have e2 : (nrm p 0).2 = lv := congrArg Prod.snd ej
        subst e1
        refine ⟨d, us, e, q, ?_⟩
        unfold nrm at e2
        cases hs : p.scal with
        | true =>
          obtain ⟨rfl, _⟩ := q.scal hs
          rw [hs] at e2
          exact ⟨fun _ => by simp, (by intro z; rw [← e2] at z; cases z), fun _ _ => by simp⟩
        | false =>
          rw [hs] at e2
          exact ⟨(by intro z; rw [← e2] at z; cases z), (by intro z; rw [← e2] at z; cases z), fun _ _ x hx => if_pos (hu x hx)⟩
      · rw [List.getElem?_eq_none (by simpa using hl)] at ej; cases ej
    · rw [List.getElem?_set_ne z] at ej
      obtain ⟨d', us', e1', q', l⟩ := I.rep j p' lv ej
      have hj : j < ρ.length := (List.getElem?_eq_some_iff.mp ej).1
      refine ⟨d', us', e1', q', fun a => ⟨(l.1 a).1, fun x hx => ?_⟩, fun a => ?_, fun a b x hx => ?_⟩
      · show (if ow x = some TMP then none else ow x) = _
        rw [(l.1 a).2 x hx, if_neg (by intro y; cases y; omega)]
      · obtain ⟨n, wz, rfl, w1, w2⟩ := l.2.1 a
        refine ⟨n, wz, rfl, ?_, fun x hx => ?_⟩
        · show (if ow n = some TMP then none else ow n) = _
          rw [w1, if_neg (by intro y; cases y; omega)]
        · show (if ow x = some TMP then none else ow x) = _
          rw [w2 x hx, if_neg (by intro y; cases y)]
      · show (if ow x = some TMP then none else ow x) = _
        rw [l.2.2 a b x hx, if_neg (by intro y; cases y)]
  · have ex : (if ow x = some TMP then none else ow x) = some j := ex
    split at ex
    · cases ex
    · exact I.own x j ex
/-- a test that fails -/
theorem dr_no (hF : FSnd F FP) {t : CSs} {i : Nat} {p : P} {c : CT} {b r : CSs} (e : t = .cons (.ite c b .nil) r) (hB : ρ.length < TMP) (hc : Tn (evPT FP c (ρ.set i (some (nrm p 0)))) fun k => k = false) (k : Dr T F r ρ i p) : Dr T F t ρ i p := fun h σ ow d us I hd q hu => by
  subst e
  obtain ⟨kk, e1, rfl⟩ := hc.h
  rw [sn_cons, sn_ite]
  refine (evPT_ok hF c (I.lend hB hd q hu) e1).mono fun k' h1 ⟨f, ek⟩ => ?_
  subst ek
  rw [if_neg (by decide), sn_nil]
  exact k h1 σ ow d us (I.fr f) hd (q.frA f) hu
theorem clr {m : Nat} {es : List D} {σ : St} {h : Hd} (hm : h[m]? = some (.lst es)) : bnd (tyM .clear (.ref m)) (fun _ => bnd (evEs T F .nil σ) fun xs => bmtE .clear (.ref m) xs) h = .ok .non (h.set m (.lst [])) := by
  have e1 : tyM .clear (.ref m) h = .ok () h := by
    unfold tyM
    dsimp only
    rw [hm]
  rw [bnd_app, e1]
  show bmtE .clear (.ref m) [] h = _
  unfold bmtE
  dsimp only
  have e2 : lst? h (.ref m) = some (m, es) := by
    unfold lst?
    dsimp only
    rw [hm]
  rw [bnd_app, e2]
  show bnd (put m (.lst [])) (fun _ => ret D.non) h = _
  have e3 : put m (.lst []) h = .ok () (h.set m (.lst [])) := by
    unfold put
    rw [decide_eq_true (List.getElem?_eq_some_iff.mp hm).1]
  rw [bnd_app, e3]
  rfl
theorem dr_clear {t r : CSs} {a b i : Nat} {xs : List (Tx × Ru)} (e : t = .cons (.for_ (.tp [.nm a, .nm b]) (.e (.var i)) (.cons (.ex (.bmt .clear (.idx (.var b) (.cst (.int 2))) .nil)) .nil)) (.cons (.ex (.bmt .clear (.var i) .nil)) r)) (hab : a ≠ b ∧ a ≠ i ∧ b ≠ i) (ha : ρ[a]? = some none) (hb : ρ[b]? = some none)
    (hB : ρ.length < TMP) (hx : ∀ x ∈ xs, x.2.rs ≠ []) (k : Ds T F r ρ) : Dr T F t ρ i (.lst (xs.map fun x => .tup [.str x.1, x.2.p])) := fun h σ ow d us I hd q hu => by
  subst e
  obtain ⟨n, ds, ws, rfl, hn, qs, rfl⟩ := rp_lst.mp q
  have hal : a < ρ.length := (List.getElem?_eq_some_iff.mp ha).1
  have hbl : b < ρ.length := (List.getElem?_eq_some_iff.mp hb).1
  have item : ∀ dd ∈ ds, ∃ dn d1 d2 m, dd = .tup [dn, .tup [d1, d2, .ref m]] ∧ (∃ es, h[m]? = some (.lst es)) ∧ m ≠ n ∧ ow m = some TMP := fun dd hdd => by
    obtain ⟨j, hj⟩ := List.mem_iff_getElem?.mp hdd
    have hjl : j < xs.length := by
      have := (List.getElem?_eq_some_iff.mp hj).1
      rw [qs.len] at this
      simpa using this
    obtain ⟨d', vs, e1, q1, sub⟩ := qs.get (i := j) (p := .tup [.str xs[j].1, xs[j].2.p]) (by rw [List.getElem?_map, List.getElem?_eq_getElem hjl]; rfl)
    rw [hj] at e1
    cases e1
    have hne := hx xs[j] (List.getElem_mem hjl)
    generalize xs[j] = x at q1 hne
    obtain ⟨d2s, rfl, q2⟩ := rp_tup.mp q1
    rw [Rps] at q2
    obtain ⟨dn, es1, u1, u2, rfl, rfl, _, q3⟩ := q2
    rw [Rps] at q3
    obtain ⟨dr, es2, u3, u4, rfl, rfl, q4, q5⟩ := q3
    rw [Rps] at q5
    obtain ⟨rfl, rfl⟩ := q5
    obtain ⟨d3s, rfl, q6⟩ := rp_tup.mp q4
    rw [Rps] at q6
    obtain ⟨d1, es3, u5, u6, rfl, rfl, _, q7⟩ := q6
    rw [Rps] at q7
    obtain ⟨d2, es4, u7, u8, rfl, rfl, _, q8⟩ := q7
    rw [Rps] at q8
    obtain ⟨d3, es5, u9, u10, rfl, rfl, q9, q10⟩ := q8
    rw [Rps] at q10
    obtain ⟨rfl, rfl⟩ := q10
    obtain ⟨m, es, wz, rfl, hm, q11, rfl⟩ := rp_lst.mp q9
    refine ⟨dn, d1, d2, m, rfl, ⟨es, hm⟩, fun z => ?_, hu m (List.mem_cons_of_mem _ (sub.subset (by simp)))⟩
    subst z
    rw [hn] at hm
    cases hm
    -- a list of tuples is no list of lists
    cases hr : x.2.rs with
    | nil => exact hne hr
    | cons r0 rr =>
      rw [hr, List.map_cons] at q11
      rw [Rps] at q11
      obtain ⟨d0, es', v1, v2, rfl, rfl, q12, _⟩ := q11
      obtain ⟨m0, _, _, rfl, _⟩ := rp_lst.mp q12
      have hjl0 : 0 < xs.length := by omega
      obtain ⟨d', vs', e1, q1', _⟩ := qs.get (i := 0) (p := .tup [.str xs[0].1, xs[0].2.p]) (by rw [List.getElem?_map, List.getElem?_eq_getElem hjl0]; rfl)
      cases e1
      obtain ⟨_, e, _⟩ := rp_tup.mp q1'
      cases e
  have loop : ∀ (l : List D) (h' : Hd) (σ' : St), (∀ dd ∈ l, ∃ dn d1 d2 m, dd = .tup [dn, .tup [d1, d2, .ref m]] ∧ (∃ es, h'[m]? = some (.lst es)) ∧ m ≠ n ∧ ow m = some TMP) → h'[n]? = some (.lst ds) → Inv h' σ' ρ ow → σ'[i]? = some (some (.ref n)) →
      Sn (forL [(n, .lst ds)] (bodyF T F (.tp [.nm a, .nm b]) (.cons (.ex (.bmt .clear (.idx (.var b) (.cst (.int 2))) .nil)) .nil)) l σ' h') (fun σ2 h2 => h2[n]? = some (.lst ds) ∧ Inv h2 σ2 ρ ow ∧ σ2[i]? = some (some (.ref n))) (fun v _ => v = .bl true) (fun _ _ => False) (fun _ _ => False) := by
    intro l
    induction l with
    | nil =>
      intro h' σ' _ h1 I1 h2
      unfold forL
      rw [gd_of (by simpa using h1)]
      exact ⟨h1, I1, h2⟩
    | cons dd l ih =>
      intro h' σ' hit h1 I1 h2
      obtain ⟨dn, d1, d2, m, rfl, ⟨es, hm⟩, hmn, hmo⟩ := hit dd (by simp)
      unfold forL
      rw [gd_of (by simpa using h1)]
      dsimp only
      have hsl : σ'.length = ρ.length := I1.len.symm
      have e1 : bodyF T F (.tp [.nm a, .nm b]) (.cons (.ex (.bmt .clear (.idx (.var b) (.cst (.int 2))) .nil)) .nil) (.tup [dn, .tup [d1, d2, .ref m]]) σ' h' = .nx ((σ'.set a (some dn)).set b (some (.tup [d1, d2, .ref m]))) (h'.set m (.lst [])) := by
        unfold bodyF
        have ea : asg (.tp [.nm a, .nm b]) (.tup [dn, .tup [d1, d2, .ref m]]) σ' = some ((σ'.set a (some dn)).set b (some (.tup [d1, d2, .ref m]))) := by
          show (if a < σ'.length then some (σ'.set a (some dn)) else none).bind (fun σ1 => (if b < σ1.length then some (σ1.set b (some (.tup [d1, d2, .ref m]))) else none).bind fun σ2 => some σ2) = _
          rw [if_pos (by omega)]
          show (if b < (σ'.set a (some dn)).length then some ((σ'.set a (some dn)).set b (some (.tup [d1, d2, .ref m]))) else none).bind (fun σ2 => some σ2) = _
          rw [if_pos (by rw [List.length_set]; omega)]
          rfl
        rw [ea]
        dsimp only
        generalize eσ : (σ'.set a (some dn)).set b (some (.tup [d1, d2, .ref m])) = σ2
        have hb2 : σ2[b]? = some (some (.tup [d1, d2, .ref m])) := by rw [← eσ, List.getElem?_set_self (by rw [List.length_set]; omega)]
        have ev1 : evE T F (.idx (.var b) (.cst (.int 2))) σ2 h' = .ok (.ref m) h' := by
          show bnd (evE T F (.var b) σ2) (fun x => bnd (evE T F (.cst (.int 2)) σ2) fun k => idxE x k) h' = _
          rw [bnd_app]
          have : evE T F (.var b) σ2 h' = .ok (.tup [d1, d2, .ref m]) h' := by
            show lft (σ2[b]?.bind id) h' = _
            rw [hb2]; rfl
          rw [this]
          rfl
        have ev2 : evE T F (.bmt .clear (.idx (.var b) (.cst (.int 2))) .nil) σ2 h' = .ok .non (h'.set m (.lst [])) := by
          show bnd (evE T F (.idx (.var b) (.cst (.int 2))) σ2) (fun x => bnd (tyM .clear x) fun _ => bnd (evEs T F .nil σ2) fun xs => bmtE .clear x xs) h' = _
          rw [bnd_app, ev1]
          exact clr hm
        show ((evS T F (.ex (.bmt .clear (.idx (.var b) (.cst (.int 2))) .nil)) σ2 h').then_ fun σ' h' => evSs T F .nil σ' h') = _
        show ((sE σ2 (evE T F (.bmt .clear (.idx (.var b) (.cst (.int 2))) .nil) σ2 h') fun _ h1 => .nx σ2 h1).then_ fun σ' h' => evSs T F .nil σ' h') = _
        rw [ev2]
        rfl
      rw [e1]
      have I2 := ((I1.junk (v := some dn) ha).junk (v := some (.tup [d1, d2, .ref m])) hb).wild (x := m) (o := .lst []) hB hmo
      refine ih _ _ (fun dd hdd => ?_) ?_ I2 ?_
      · obtain ⟨dn', d1', d2', m', rfl, ⟨es', hm'⟩, z1, z2⟩ := hit dd (List.mem_cons_of_mem _ hdd)
        refine ⟨dn', d1', d2', m', rfl, ?_, z1, z2⟩
        by_cases z : m = m'
        · subst z
          exact ⟨[], List.getElem?_set_self (List.getElem?_eq_some_iff.mp hm).1⟩
        · exact ⟨es', by rw [List.getElem?_set_ne z]; exact hm'⟩
      · rw [List.getElem?_set_ne hmn]; exact h1
      · rw [List.getElem?_set_ne hab.2.2, List.getElem?_set_ne hab.2.1]; exact h2
  rw [sn_cons, sn_for]
  have e2 : evI T F (.e (.var i)) σ h = .ok (ds, [(n, .lst ds)]) h := by
    show bnd (evE T F (.var i) σ) walkE h = _
    have : evE T F (.var i) σ h = .ok (.ref n) h := by
      show lft (σ[i]?.bind id) h = _
      rw [hd]; rfl
    rw [bnd_app, this]
    show walkE (.ref n) h = _
    unfold walkE
    dsimp only
    rw [hn]
  rw [e2, rn_ok]
  refine Sn.mono (loop ds h σ item hn I hd) (fun σ2 h2 ⟨z1, z2, z3⟩ => ?_) (fun _ _ z => z) (fun _ _ z => z) fun _ _ z => z
  rw [sn_cons, sn_ex]
  have e3 : evE T F (.bmt .clear (.var i) .nil) σ2 h2 = .ok .non (h2.set n (.lst [])) := by
    show bnd (evE T F (.var i) σ2) (fun x => bnd (tyM .clear x) fun _ => bnd (evEs T F .nil σ2) fun xs => bmtE .clear x xs) h2 = _
    have : evE T F (.var i) σ2 h2 = .ok (.ref n) h2 := by
      show lft (σ2[i]?.bind id) h2 = _
      rw [z3]; rfl
    rw [bnd_app, this]
    exact clr z1
  rw [e3, rn_ok]
  exact k _ _ ow (z2.wild hB (hu n (by simp)))
end
theorem fsnd_of {bs : List CDef} (hsl : (bs.all fun d => decide (d.sl ≤ BIG) && decide (d.ps ≤ d.sl)) = true) (n : Nat) : FSnd (callD (tabOf bs) n) (callP (fun f => bs[f]?) n) :=
  callP_ok (T := tabOf bs) rfl (fun f d hd => by
    have := List.all_eq_true.mp hsl d (List.mem_of_getElem? hd)
    rw [Bool.and_eq_true, decide_eq_true_eq, decide_eq_true_eq] at this
    exact this) n
/-- a law, told in the heap machine from some statement on -/
theorem law_mix {bs : List CDef} {f : Nat} {ns : List Int} {d : CDef} (hsl : (bs.all fun d => decide (d.sl ≤ BIG) && decide (d.ps ≤ d.sl)) = true) (hd : bs[f]? = some d) (hp : d.ps = 1)
    (k : Ds (tabOf bs) (callD (tabOf bs) 199) d.body (some (.scr ns, 0) :: List.replicate (d.sl - 1) none)) : ∃ h', callD (tabOf bs) 200 f [.ref 0] [.flst (ns.map .int)] = .ok (.bl true) h' := by
  have hz := List.all_eq_true.mp hsl d (List.mem_of_getElem? hd)
  rw [Bool.and_eq_true, decide_eq_true_eq, decide_eq_true_eq] at hz
  have q : Rn (callD (tabOf bs) 200 f [.ref 0] [.flst (ns.map .int)]) fun v _ => v = .bl true := by
    refine callD_succ (T := tabOf bs) (n := 199) (d := d) hd (by rw [hp]; rfl) ?_
    rw [hp]
    refine Sn.mono (k [.flst (ns.map .int)] _ (fun _ => none) ⟨by simp, fun i p lv e => ?_, (fun r i e => by cases e), by simp; omega⟩) (fun _ _ z => z.elim) (fun _ _ z => z) (fun _ _ z => z) fun _ _ z => z
    cases i with
    | zero =>
      cases e
      exact ⟨.ref 0, [0], rfl, rp_scr.mpr ⟨0, rfl, rfl, rfl⟩, (by intro z; cases z), (by intro z; cases z), fun _ _ _ _ => rfl⟩
    | succ i =>
      rw [List.getElem?_cons_succ, List.getElem?_replicate] at e
      split at e <;> cases e
  cases er : callD (tabOf bs) 200 f [.ref 0] [.flst (ns.map .int)] with
  | ok v h' =>
    rw [er] at q
    have q : v = .bl true := q
    rw [q]
    exact ⟨h', rfl⟩
  | er _ _ => rw [er] at q; exact q.elim
  | no => rw [er] at q; exact q.elim
theorem ds_mid {T : Tab} {F : Nat → List D → M D} {FP : Nat → List P → Option (P × Nat)} {ρ : Rho} (hF : FSnd F FP) (hT : T.wh = whl) {t : CSs} {s : CS} {r : CSs} (M : Rho → Prop) (e : t = .cons s r) (h1 : Pn (evSP FP s ρ) M (fun p _ => p = .bl true) (fun _ => False) (fun _ => False)) (h2 : ∀ ρ', M ρ' → Ds T F r ρ') : Ds T F t ρ :=
  ds_go hF hT e (h1.mono h2 (fun _ _ z => z) (fun _ z => z) fun _ z => z)
structure GivesK {α : Type} (enc : α → P) (K : α → Prop) (x : Option PV) : Prop where
  h : ∃ a, x = some ⟨enc a, 0, []⟩ ∧ K a
/-- a comprehension of what is nobody's own -/
theorem compP_no {α β : Type} {f : P → Option (Option PV)} {Q : PVs → Prop} {enc : α → P} {encB : β → P} (K : β → α → Prop) : ∀ (l : List β), (∀ b ∈ l, Tn (f (encB b)) (GivesK enc (K b))) → (∀ (as : List α), as.length = l.length → (∀ (i : Nat) b a, l[i]? = some b → as[i]? = some a → K b a) → Q ⟨as.map enc, as.isEmpty, []⟩) → Tn (compP f (l.map encB)) Q
  | [], _, hq => ⟨_, rfl, hq [] rfl (by simp)⟩
  | b :: l, hs, hq => by
    show Tn (compP f (encB b :: l.map encB)) Q
    unfold compP
    simp only [tn_bind, tn_map]
    refine (hs b (List.mem_cons_self ..)).mono fun x ⟨a, e, ka⟩ => ?_
    subst e
    refine compP_no (enc := enc) K l (fun q hq' => hs q (List.mem_cons_of_mem _ hq')) fun as hl ha => ?_
    exact hq (a :: as) (by simp [hl]) fun i p' a' h1 h2 => by
      cases i with
      | zero => simp at h1 h2; subst h1 h2; exact ka
      | succ i => exact ha i p' a' (by simpa using h1) (by simpa using h2)
end U
end

section
set_option maxRecDepth 100000
set_option maxHeartbeats 1000000
/-! Plain facts for laws: programs. -/
namespace U
open PySem
inductive Stp where
  | plain (ws : List Tx)
  | lend (x y : Tx) (b : List Stp)
  | ifs (k : Int) (a b : List Stp)
  | whl (k : Int) (b : List Stp)
abbrev tLend : Tx := [108, 101, 110, 100]
abbrev tBack : Tx := [98, 97, 99, 107]
abbrev tIf : Tx := [105, 102]
abbrev tElse : Tx := [101, 108, 115, 101]
abbrev tFi : Tx := [102, 105]
abbrev tWhile : Tx := [119, 104, 105, 108, 101]
abbrev tDone : Tx := [100, 111, 110, 101]
abbrev tOpen : Tx := [111, 112, 101, 110]
abbrev tDo : Tx := [100, 111]
abbrev tCopy : Tx := [99, 111, 112, 121]
abbrev tDrop : Tx := [100, 114, 111, 112]
abbrev tTie : Tx := [116, 105, 101]
mutual
def stpP : Stp → P
  | .plain ws => .tup (ws.map .str)
  | .lend x y b => .tup [.str tLend, .str x, .str y, .lst (stpPs b)]
  | .ifs k a b => .tup [.str tIf, .int k, .lst (stpPs a), .lst (stpPs b)]
  | .whl k b => .tup [.str tWhile, .int k, .lst (stpPs b)]
def stpPs : List Stp → List P
  | [] => []
  | s :: r => stpP s :: stpPs r
end
theorem stpPs_map : ∀ {l : List Stp}, stpPs l = l.map stpP
  | [] => by rw [stpPs]; rfl
  | s :: r => by rw [stpPs, stpPs_map]; rfl
def prgP (p : List Stp) : P := .lst (p.map stpP)
theorem stpP_plain {ws : List Tx} : stpP (.plain ws) = .tup (ws.map .str) := by rw [stpP]
theorem stpP_lend {x y : Tx} {b : List Stp} : stpP (.lend x y b) = .tup [.str tLend, .str x, .str y, prgP b] := by rw [stpP, stpPs_map]; rfl
theorem stpP_ifs {k : Int} {a b : List Stp} : stpP (.ifs k a b) = .tup [.str tIf, .int k, prgP a, prgP b] := by rw [stpP, stpPs_map, stpPs_map]; rfl
theorem stpP_whl {k : Int} {b : List Stp} : stpP (.whl k b) = .tup [.str tWhile, .int k, prgP b] := by rw [stpP, stpPs_map]; rfl
/-! ### how deep -/
mutual
def Stp.ht : Stp → Nat
  | .plain _ => 0
  | .lend _ _ b => htP b + 1
  | .ifs _ a b => max (htP a) (htP b) + 1
  | .whl _ b => htP b + 1
def htP : List Stp → Nat
  | [] => 0
  | s :: r => max s.ht (htP r)
end
theorem htP_mem : ∀ {l : List Stp} {s : Stp}, s ∈ l → s.ht ≤ htP l
  | [], _, h => by cases h
  | t :: r, s, h => by
    rw [htP]
    rcases List.mem_cons.mp h with rfl | h
    · exact Nat.le_max_left ..
    · exact Nat.le_trans (htP_mem h) (Nat.le_max_right ..)
mutual
theorem dle_stp : ∀ (s : Stp) {d : Nat}, P.dle (stpP s) (2 * s.ht + 1 + d)
  | .plain ws, d => by
    rw [stpP_plain]
    have : 2 * (Stp.plain ws).ht + 1 + d = d + 1 := by rw [Stp.ht]; omega
    rw [this]
    exact dle_tup dle_strs
  | .lend x y b, d => by
    rw [stpP_lend]
    have : 2 * (Stp.lend x y b).ht + 1 + d = (2 * htP b + 1 + d + 1) + 1 := by rw [Stp.ht]; omega
    rw [this]
    refine dle_tup fun p hp => ?_
    simp at hp
    rcases hp with rfl | rfl | rfl | rfl
    · exact dle_str
    · exact dle_str
    · exact dle_str
    · exact dle_lst (dle_stps b)
  | .ifs k a b, d => by
    rw [stpP_ifs]
    have : 2 * (Stp.ifs k a b).ht + 1 + d = (2 * max (htP a) (htP b) + 1 + d + 1) + 1 := by rw [Stp.ht]; omega
    rw [this]
    refine dle_tup fun p hp => ?_
    simp at hp
    rcases hp with rfl | rfl | rfl | rfl
    · exact dle_str
    · exact dle_int
    · have : 2 * max (htP a) (htP b) + 1 + d = 2 * htP a + 1 + (2 * (max (htP a) (htP b) - htP a) + d) := by have := Nat.le_max_left (htP a) (htP b); omega
      rw [this]
      exact dle_lst (dle_stps a)
    · have : 2 * max (htP a) (htP b) + 1 + d = 2 * htP b + 1 + (2 * (max (htP a) (htP b) - htP b) + d) := by have := Nat.le_max_right (htP a) (htP b); omega
      rw [this]
      exact dle_lst (dle_stps b)
  | .whl k b, d => by
    rw [stpP_whl]
    have : 2 * (Stp.whl k b).ht + 1 + d = (2 * htP b + 1 + d + 1) + 1 := by rw [Stp.ht]; omega
    rw [this]
    refine dle_tup fun p hp => ?_
    simp at hp
    rcases hp with rfl | rfl | rfl
    · exact dle_str
    · exact dle_int
    · exact dle_lst (dle_stps b)
theorem dle_stps : ∀ (l : List Stp) {d : Nat}, ∀ p ∈ l.map stpP, P.dle p (2 * htP l + 1 + d)
  | [], d, p, hp => by cases hp
  | s :: r, d, p, hp => by
    have e : htP (s :: r) = max s.ht (htP r) := by rw [htP]
    rw [List.map_cons] at hp
    rcases List.mem_cons.mp hp with rfl | hp
    · have : 2 * htP (s :: r) + 1 + d = 2 * s.ht + 1 + (2 * (max s.ht (htP r) - s.ht) + d) := by have := Nat.le_max_left s.ht (htP r); omega
      rw [this]
      exact dle_stp s
    · have : 2 * htP (s :: r) + 1 + d = 2 * htP r + 1 + (2 * (max s.ht (htP r) - htP r) + d) := by have := Nat.le_max_right s.ht (htP r); omega
      rw [this]
      exact dle_stps r p hp
end
theorem dat_stp {s : Stp} (h : s.ht ≤ 28) : (stpP s).dat = true := dat_of (dle_stp s (d := 0)) (by omega)
theorem dat_prg {l : List Stp} (h : htP l ≤ 27) : (prgP l).dat = true := dat_of (dle_lst (dle_stps l (d := 0))) (by omega)
/-! ### lines, names -/
mutual
def lnS : Stp → List Tx
  | .plain ws => [joinT [32] ws]
  | .lend x y b => (tLend ++ [32] ++ x ++ [32] ++ y) :: (lnP b ++ [tBack])
  | .ifs k a b => (tIf ++ [32] ++ showI k) :: (lnP a ++ tElse :: (lnP b ++ [tFi]))
  | .whl k b => (tWhile ++ [32] ++ showI k) :: (lnP b ++ [tDone])
def lnP : List Stp → List Tx
  | [] => []
  | s :: r => lnS s ++ lnP r
end
theorem lnP_app : ∀ {a b : List Stp}, lnP (a ++ b) = lnP a ++ lnP b
  | [], b => by rw [List.nil_append, lnP]; rfl
  | s :: a, b => by rw [List.cons_append, lnP, lnP_app, lnP, List.append_assoc]
/-- a plain step's parts -/
def plOk : List Tx → Bool
  | [] => false
  | h :: r => decide ((h, r.length) ∈ [(tOpen, 1), (tDo, 2), (tCopy, 2), (tDrop, 1), (tTie, 2)]) && r.all wOk
theorem plOk_cons {h : Tx} {r : List Tx} : plOk (h :: r) = true ↔ (h, r.length) ∈ [(tOpen, 1), (tDo, 2), (tCopy, 2), (tDrop, 1), (tTie, 2)] ∧ ∀ w ∈ r, wOk w = true := by
  unfold plOk
  rw [Bool.and_eq_true, decide_eq_true_eq, List.all_eq_true]
theorem plOk_words {ws : List Tx} (h : plOk ws = true) : (∀ w ∈ ws, wOk w = true) ∧ 2 ≤ ws.length ∧ ws.length ≤ 3 := by
  cases ws with
  | nil => cases h
  | cons a r =>
    obtain ⟨h1, h2⟩ := plOk_cons.mp h
    refine ⟨fun w hw => ?_, ?_⟩
    · rcases List.mem_cons.mp hw with rfl | hw
      · simp at h1
        rcases h1 with ⟨rfl, _⟩ | ⟨rfl, _⟩ | ⟨rfl, _⟩ | ⟨rfl, _⟩ | ⟨rfl, _⟩ <;> decide
      · exact h2 w hw
    · simp at h1 ⊢
      omega
abbrev BND : Int := 100000000000000000000000000000000000000000000000000000000000000
mutual
/-- well made: words, numbers not too great -/
def Stp.wf : Stp → Bool
  | .plain ws => plOk ws
  | .lend x y b => wOk x && wOk y && wfP b
  | .ifs k a b => decide (-BND ≤ k ∧ k ≤ BND) && wfP a && wfP b
  | .whl k b => decide (-BND ≤ k ∧ k ≤ BND) && wfP b
def wfP : List Stp → Bool
  | [] => true
  | s :: r => s.wf && wfP r
end
theorem wfP_iff : ∀ {l : List Stp}, wfP l = true ↔ ∀ s ∈ l, s.wf = true
  | [] => by simp [wfP]
  | s :: r => by rw [wfP, Bool.and_eq_true, wfP_iff]; simp
abbrev ONE60 : Int := 1000000000000000000000000000000000000000000000000000000000000
mutual
/-- within its bounds, so deep -/
def Stp.ok : Nat → Stp → Bool
  | _, .plain _ => true
  | d, .lend _ _ b => okP (d + 1) b
  | d, .ifs k a b => decide (-ONE60 < k ∧ k < ONE60) && okP (d + 1) a && okP (d + 1) b
  | d, .whl k b => decide (-ONE60 < k ∧ k < ONE60) && okP (d + 1) b
def okP : Nat → List Stp → Bool
  | _, [] => true
  | d, s :: r => decide (d ≤ 8) && s.ok d && okP d r
end
theorem okP_iff {d : Nat} : ∀ {l : List Stp}, okP d l = true ↔ (l = [] ∨ (d ≤ 8 ∧ ∀ s ∈ l, s.ok d = true))
  | [] => by simp [okP]
  | s :: r => by
    rw [okP, Bool.and_eq_true, Bool.and_eq_true, decide_eq_true_eq, okP_iff]
    simp
    constructor
    · rintro ⟨⟨h1, h2⟩, h3⟩
      refine ⟨h1, h2, ?_⟩
      rcases h3 with rfl | h3
      · simp
      · exact h3.2
    · rintro ⟨h1, h2, h3⟩
      exact ⟨⟨h1, h2⟩, .inr ⟨h1, h3⟩⟩
mutual
def nmS : Stp → List Tx
  | .plain ws => match ws with
    | [] => []
    | h :: r => if h = tDo then r.drop 1 else r
  | .lend x y b => x :: y :: nmP b
  | .ifs _ a b => nmP a ++ nmP b
  | .whl _ b => nmP b
def nmP : List Stp → List Tx
  | [] => []
  | s :: r => nmS s ++ nmP r
end
mutual
def ldS : Stp → Nat
  | .plain _ => 0
  | .lend _ _ b => ldP b + 1
  | .ifs _ a b => ldP a + ldP b
  | .whl _ b => ldP b
def ldP : List Stp → Nat
  | [] => 0
  | s :: r => ldS s + ldP r
end
/-- the names of a line -/
def namesIn (t : Tx) : List Tx := match splitT t [32] with
  | [] => []
  | h :: r => if h = tIf ∨ h = tWhile then [] else if h = tDo then r.drop 1 else r
def addN (ks : List Tx) (x : Tx) : List Tx := if x ∈ ks then ks else ks ++ [x]
def ddp (l : List Tx) : List Tx := l.foldl addN []
theorem showI_nat (n : Nat) : showI (n : Int) = TL.numL n := by
  have h := TL.tl_num n
  have e : Str.ofString (toString (n : Int)) = tS (showI (n : Int)) := show_eq (n : Int)
  rw [e] at h
  have e2 : TL.tl (tS (showI (n : Int))) = showI (n : Int) := by simp [TL.tl, tS]
  rw [e2] at h
  exact h
theorem showI_neg (m : Nat) : showI (Int.negSucc m) = 45 :: TL.numL (m + 1) := by
  have : toString (Int.negSucc m) = "-" ++ toString (m + 1) := rfl
  unfold showI
  rw [this]
  have e : ("-" ++ toString (m + 1)).toList = '-' :: (toString (m + 1)).toList := by simp [String.toList_append]
  rw [e, ← showI_nat]
  unfold showI
  rfl
theorem numL_bd {n : Nat} (h : n ≤ 100000000000000000000000000000000000000000000000000000000000000) : (TL.numL n).length ≤ 63 := TL.numL_len (by decide) (by
  have : (100000000000000000000000000000000000000000000000000000000000000 : Nat) < 10 ^ 63 := by decide +kernel
  omega)
theorem showI_len {k : Int} (h : -BND ≤ k ∧ k ≤ BND) : (showI k).length ≤ 65 ∧ (∀ c ∈ showI k, c < 256 ∧ c ≠ 32 ∧ c ≠ 10) ∧ showI k ≠ [] := by
  simp only [BND] at h
  cases k with
  | ofNat n =>
    rw [show Int.ofNat n = (n : Int) from rfl, showI_nat]
    refine ⟨Nat.le_trans (numL_bd (by simp at h; omega)) (by decide), fun c hc => ?_, TL.numL_ne n⟩
    have := TL.numL_digits n c hc
    omega
  | negSucc m =>
    rw [showI_neg]
    have := numL_bd (n := m + 1) (by omega)
    refine ⟨by simp; omega, fun c hc => ?_, by simp⟩
    rcases List.mem_cons.mp hc with rfl | hc
    · omega
    · have := TL.numL_digits (m + 1) c hc
      omega
theorem bnd_log {k : Int} (h : -BND ≤ k ∧ k ≤ BND) : k.natAbs.log2 < 1920 := by
  simp only [BND] at h
  have : k.natAbs ≤ 100000000000000000000000000000000000000000000000000000000000000 := by omega
  by_cases h0 : k.natAbs = 0
  · rw [h0]; decide
  · exact (Nat.log2_lt h0).mpr (Nat.lt_of_le_of_lt this (by
      have : (100000000000000000000000000000000000000000000000000000000000000 : Nat) < 2 ^ 210 := by decide +kernel
      exact Nat.lt_of_lt_of_le this (Nat.pow_le_pow_right (by decide) (by decide))))
theorem lnP_mem {s : Stp} : ∀ {l : List Stp}, s ∈ l → (lnS s).length ≤ (lnP l).length
  | [], h => by cases h
  | t :: r, h => by
    rw [lnP, List.length_append]
    rcases List.mem_cons.mp h with rfl | h
    · omega
    · have := lnP_mem h; omega
mutual
theorem lnS_ch : ∀ (s : Stp), s.wf = true → ∀ t ∈ lnS s, t.length ≤ 100 ∧ ∀ c ∈ t, c < 256 ∧ c ≠ 10
  | .plain ws, h, t, ht => by
    rw [lnS] at ht
    rw [Stp.wf] at h
    obtain ⟨h1, h2, h3⟩ := plOk_words h
    have e := List.mem_singleton.mp ht
    subst e
    refine ⟨Nat.le_trans (joinT_le (s := [32]) (b := 8) (n := 3) (fun t ht => (wOk_iff.mp (h1 t ht)).2.1) h3) (by simp), fun c hc => ?_⟩
    rcases joinT_mem hc with z | ⟨w, hw, z⟩
    · simp at z; omega
    · have := let_mem ((wOk_iff.mp (h1 w hw)).2.2 c z); omega
  | .lend x y b, h, t, ht => by
    rw [Stp.wf, Bool.and_eq_true, Bool.and_eq_true] at h
    rw [lnS] at ht
    obtain ⟨_, x2, x3⟩ := wOk_iff.mp h.1.1
    obtain ⟨_, y2, y3⟩ := wOk_iff.mp h.1.2
    rcases List.mem_cons.mp ht with rfl | ht
    · refine ⟨by simp; omega, fun c hc => ?_⟩
      simp at hc
      rcases hc with rfl | rfl | rfl | rfl | rfl | hc | rfl | hc <;> first | omega | skip
      · have := let_mem (x3 c hc); omega
      · have := let_mem (y3 c hc); omega
    · rcases List.mem_append.mp ht with ht | ht
      · exact lnP_ch b h.2 t ht
      · rw [List.mem_singleton.mp ht]; decide
  | .ifs k a b, h, t, ht => by
    rw [Stp.wf, Bool.and_eq_true, Bool.and_eq_true, decide_eq_true_eq] at h
    rw [lnS] at ht
    obtain ⟨k1, k2, _⟩ := showI_len h.1.1
    rcases List.mem_cons.mp ht with rfl | ht
    · refine ⟨by simp; omega, fun c hc => ?_⟩
      simp at hc
      rcases hc with rfl | rfl | rfl | hc <;> first | omega | skip
      have := k2 c hc; omega
    · rcases List.mem_append.mp ht with ht | ht
      · exact lnP_ch a h.1.2 t ht
      · rcases List.mem_cons.mp ht with rfl | ht
        · decide
        · rcases List.mem_append.mp ht with ht | ht
          · exact lnP_ch b h.2 t ht
          · rw [List.mem_singleton.mp ht]; decide
  | .whl k b, h, t, ht => by
    rw [Stp.wf, Bool.and_eq_true, decide_eq_true_eq] at h
    rw [lnS] at ht
    obtain ⟨k1, k2, _⟩ := showI_len h.1
    rcases List.mem_cons.mp ht with rfl | ht
    · refine ⟨by simp; omega, fun c hc => ?_⟩
      simp at hc
      rcases hc with rfl | rfl | rfl | rfl | rfl | rfl | hc <;> first | omega | skip
      have := k2 c hc; omega
    · rcases List.mem_append.mp ht with ht | ht
      · exact lnP_ch b h.2 t ht
      · rw [List.mem_singleton.mp ht]; decide
theorem lnP_ch : ∀ (l : List Stp), wfP l = true → ∀ t ∈ lnP l, t.length ≤ 100 ∧ ∀ c ∈ t, c < 256 ∧ c ≠ 10
  | [], h, t, ht => by rw [lnP] at ht; cases ht
  | s :: r, h, t, ht => by
    rw [wfP, Bool.and_eq_true] at h
    rw [lnP] at ht
    rcases List.mem_append.mp ht with ht | ht
    · exact lnS_ch s h.1 t ht
    · exact lnP_ch r h.2 t ht
end
@[simp] theorem scal_prg {b : List Stp} : P.scal (prgP b) = false := rfl
@[simp] theorem nrm_prg {b : List Stp} {lv : Nat} : nrm (prgP b) lv = (prgP b, lv) := rfl
@[simp] theorem vr_prg {b : List Stp} {lv : Nat} {lk : List Nat} : vr (prgP b) lv lk = ⟨prgP b, lv, lkv lv lk⟩ := rfl
@[simp] theorem part_prg0 {b : List Stp} {q : P} {lk : List Nat} : partv (prgP b) ⟨q, 0, lk⟩ = ⟨prgP b, 0, lk⟩ := rfl
@[simp] theorem walk_prg {b : List Stp} : walkP (prgP b) = some (b.map stpP) := rfl
@[simp] theorem len_prg {b : List Stp} : bltP .len [prgP b] = some (.int b.length) := by
  show some (P.int ((b.map stpP).length : Int)) = _
  rw [List.length_map]
@[simp] theorem y_prg {b : List Stp} {t : Ty} : isTyP (prgP b) t = some (t == .list) := rfl
@[simp] theorem idx_lend0 {x y : Tx} {b : List Stp} : idxP (stpP (.lend x y b)) (.int 0) = some (.str tLend) := by rw [stpP_lend]; rfl
@[simp] theorem idx_lend1 {x y : Tx} {b : List Stp} : idxP (stpP (.lend x y b)) (.int 1) = some (.str x) := by rw [stpP_lend]; rfl
@[simp] theorem idx_lend2 {x y : Tx} {b : List Stp} : idxP (stpP (.lend x y b)) (.int 2) = some (.str y) := by rw [stpP_lend]; rfl
@[simp] theorem idx_lend3 {x y : Tx} {b : List Stp} : idxP (stpP (.lend x y b)) (.int 3) = some (prgP b) := by rw [stpP_lend]; rfl
@[simp] theorem len_lend {x y : Tx} {b : List Stp} : bltP .len [stpP (.lend x y b)] = some (.int 4) := by rw [stpP_lend]; rfl
@[simp] theorem scal_lend {x y : Tx} {b : List Stp} : P.scal (stpP (.lend x y b)) = false := by rw [stpP_lend]; rfl
@[simp] theorem y_lend {x y : Tx} {b : List Stp} {t : Ty} : isTyP (stpP (.lend x y b)) t = some (t == .tuple) := by rw [stpP_lend]; rfl
@[simp] theorem nrm_lend {x y : Tx} {b : List Stp} {lv : Nat} : nrm (stpP (.lend x y b)) lv = (stpP (.lend x y b), lv) := nrm_ns scal_lend
@[simp] theorem vr_lend {x y : Tx} {b : List Stp} {lv : Nat} {lk : List Nat} : vr (stpP (.lend x y b)) lv lk = ⟨stpP (.lend x y b), lv, lkv lv lk⟩ := vr_ns scal_lend
@[simp] theorem idx_ifs0 {k : Int} {a b : List Stp} : idxP (stpP (.ifs k a b)) (.int 0) = some (.str tIf) := by rw [stpP_ifs]; rfl
@[simp] theorem idx_ifs1 {k : Int} {a b : List Stp} : idxP (stpP (.ifs k a b)) (.int 1) = some (.int k) := by rw [stpP_ifs]; rfl
@[simp] theorem idx_ifs2 {k : Int} {a b : List Stp} : idxP (stpP (.ifs k a b)) (.int 2) = some (prgP a) := by rw [stpP_ifs]; rfl
@[simp] theorem idx_ifs3 {k : Int} {a b : List Stp} : idxP (stpP (.ifs k a b)) (.int 3) = some (prgP b) := by rw [stpP_ifs]; rfl
@[simp] theorem len_ifs {k : Int} {a b : List Stp} : bltP .len [stpP (.ifs k a b)] = some (.int 4) := by rw [stpP_ifs]; rfl
@[simp] theorem scal_ifs {k : Int} {a b : List Stp} : P.scal (stpP (.ifs k a b)) = false := by rw [stpP_ifs]; rfl
@[simp] theorem y_ifs {k : Int} {a b : List Stp} {t : Ty} : isTyP (stpP (.ifs k a b)) t = some (t == .tuple) := by rw [stpP_ifs]; rfl
@[simp] theorem nrm_ifs {k : Int} {a b : List Stp} {lv : Nat} : nrm (stpP (.ifs k a b)) lv = (stpP (.ifs k a b), lv) := nrm_ns scal_ifs
@[simp] theorem vr_ifs {k : Int} {a b : List Stp} {lv : Nat} {lk : List Nat} : vr (stpP (.ifs k a b)) lv lk = ⟨stpP (.ifs k a b), lv, lkv lv lk⟩ := vr_ns scal_ifs
@[simp] theorem idx_whl0 {k : Int} {b : List Stp} : idxP (stpP (.whl k b)) (.int 0) = some (.str tWhile) := by rw [stpP_whl]; rfl
@[simp] theorem idx_whl1 {k : Int} {b : List Stp} : idxP (stpP (.whl k b)) (.int 1) = some (.int k) := by rw [stpP_whl]; rfl
@[simp] theorem idx_whl2 {k : Int} {b : List Stp} : idxP (stpP (.whl k b)) (.int 2) = some (prgP b) := by rw [stpP_whl]; rfl
@[simp] theorem len_whl {k : Int} {b : List Stp} : bltP .len [stpP (.whl k b)] = some (.int 3) := by rw [stpP_whl]; rfl
@[simp] theorem scal_whl {k : Int} {b : List Stp} : P.scal (stpP (.whl k b)) = false := by rw [stpP_whl]; rfl
@[simp] theorem y_whl {k : Int} {b : List Stp} {t : Ty} : isTyP (stpP (.whl k b)) t = some (t == .tuple) := by rw [stpP_whl]; rfl
@[simp] theorem nrm_whl {k : Int} {b : List Stp} {lv : Nat} : nrm (stpP (.whl k b)) lv = (stpP (.whl k b), lv) := nrm_ns scal_whl
@[simp] theorem vr_whl {k : Int} {b : List Stp} {lv : Nat} {lk : List Nat} : vr (stpP (.whl k b)) lv lk = ⟨stpP (.whl k b), lv, lkv lv lk⟩ := vr_ns scal_whl
@[simp] theorem b_abs {i : Int} : bltP .abs [.int i] = some (.int (if i < 0 then -i else i)) := rfl
theorem dat_tnil : P.dat (.tup []) = true := dat_of (dle_tup (d := 0) (by simp)) (by decide)
theorem eq_tnil {ps : List P} (h : P.dat (.tup ps) = true) : cmpP .eq (.tup ps) (.tup []) = some ps.isEmpty := by
  show grd (P.dat _ && P.dat _) _ = _
  rw [h, dat_tnil]
  cases ps <;> simp [grd, P.py, P.pys, PyData.eqv, PyData.eqvAll]
def pairP (p : Tx × Int) : P := .tup [.str p.1, .int p.2]
theorem eqv_pair (a b : Tx × Int) : PyData.eqv (pairP a).py (pairP b).py = decide (a = b) := by
  have e : PyData.eqv (pairP a).py (pairP b).py = (PyData.eqv (P.str a.1).py (P.str b.1).py && (PyData.eqv (P.int a.2).py (P.int b.2).py && true)) := rfl
  rw [e, eqv_str, eqv_int, Bool.and_true, Bool.eq_iff_iff]
  simp [Prod.ext_iff]
theorem dle_pair {a : Tx × Int} {d : Nat} : P.dle (pairP a) (d + 1) := dle_tup fun p hp => by
  simp at hp
  rcases hp with rfl | rfl
  · exact dle_str
  · exact dle_int
theorem in_pairs {x : Tx × Int} {l : List (Tx × Int)} : inP (pairP x) (.tup (l.map pairP)) = some (decide (x ∈ l)) := by
  show grd ((pairP x).dat && (P.tup (l.map pairP)).dat) _ = _
  have e1 : (pairP x).dat = true := dat_of (dle_pair (d := 0)) (by decide)
  have e2 : (P.tup (l.map pairP)).dat = true := dat_of (dle_tup (d := 1) fun p hp => by
    obtain ⟨y, _, rfl⟩ := List.mem_map.mp hp
    exact dle_pair) (by decide)
  rw [e1, e2]
  show some ((l.map pairP).any fun z => PyData.eqv z.py (pairP x).py) = _
  congr 1
  rw [List.any_map, Bool.eq_iff_iff, List.any_eq_true, decide_eq_true_eq]
  constructor
  · rintro ⟨y, hy, e⟩
    simp only [Function.comp, eqv_pair, decide_eq_true_eq] at e
    rw [← e]; exact hy
  · intro h
    exact ⟨x, h, by simp only [Function.comp, eqv_pair, decide_eq_true_eq]⟩
def PLN : List (Tx × Int) := [(tOpen, 2), (tDo, 3), (tCopy, 3), (tDrop, 2), (tTie, 3)]
theorem pln_P : dP (D.tup [D.tup [D.str [111, 112, 101, 110], D.int 2], D.tup [D.str [100, 111], D.int 3], D.tup [D.str [99, 111, 112, 121], D.int 3], D.tup [D.str [100, 114, 111, 112], D.int 2], D.tup [D.str [116, 105, 101], D.int 3]]) = some (.tup (PLN.map pairP)) := by rfl
theorem abs_lt {k : Int} : cmpP .lt (.int (if k < 0 then -k else k)) (.int ONE60) = some (decide (-ONE60 < k ∧ k < ONE60)) := by
  show some (decide ((if k < 0 then -k else k) < ONE60)) = _
  congr 1
  simp only [ONE60]
  rw [Bool.eq_iff_iff, decide_eq_true_eq, decide_eq_true_eq]
  split <;> omega
/-! ### the words of lines -/
mutual
def lwS : Stp → List (List Tx)
  | .plain ws => [ws]
  | .lend x y b => [tLend, x, y] :: (lwP b ++ [[tBack]])
  | .ifs k a b => [tIf, showI k] :: (lwP a ++ [tElse] :: (lwP b ++ [[tFi]]))
  | .whl k b => [tWhile, showI k] :: (lwP b ++ [[tDone]])
def lwP : List Stp → List (List Tx)
  | [] => []
  | s :: r => lwS s ++ lwP r
end
mutual
theorem ln_lwS : ∀ (s : Stp), lnS s = (lwS s).map (joinT [32])
  | .plain ws => by rw [lnS, lwS]; rfl
  | .lend x y b => by rw [lnS, lwS, ln_lwP b]; simp [joinT]
  | .ifs k a b => by rw [lnS, lwS, ln_lwP a, ln_lwP b]; simp [joinT]
  | .whl k b => by rw [lnS, lwS, ln_lwP b]; simp [joinT]
theorem ln_lwP : ∀ (l : List Stp), lnP l = (lwP l).map (joinT [32])
  | [] => by rw [lnP, lwP]; rfl
  | s :: r => by rw [lnP, lwP, ln_lwS s, ln_lwP r, List.map_append]
end
def nmW : List Tx → List Tx
  | [] => []
  | h :: r => if h = tIf ∨ h = tWhile then [] else if h = tDo then r.drop 1 else r
def WOk (W : List Tx) : Prop := W ≠ [] ∧ W.length ≤ 3 ∧ ∀ w ∈ W, w.length ≤ 65 ∧ ∀ c ∈ w, c < 256 ∧ c ≠ 32
theorem WOk_sing {w : Tx} (h : w.length ≤ 65 ∧ ∀ c ∈ w, c < 256 ∧ c ≠ 32) : WOk [w] := ⟨by simp, by simp, by simpa using h⟩
theorem wOk_W {w : Tx} (h : wOk w = true) : w.length ≤ 65 ∧ ∀ c ∈ w, c < 256 ∧ c ≠ 32 := by
  obtain ⟨_, b, c⟩ := wOk_iff.mp h
  exact ⟨by omega, fun d hd => by have := let_mem (c d hd); omega⟩
mutual
theorem lwS_ok : ∀ (s : Stp), s.wf = true → ∀ W ∈ lwS s, WOk W
  | .plain ws, h, W, hW => by
    rw [lwS] at hW
    rw [Stp.wf] at h
    obtain ⟨h1, h2, h3⟩ := plOk_words h
    rw [List.mem_singleton.mp hW]
    exact ⟨by intro e; rw [e] at h2; simp at h2, h3, fun w hw => wOk_W (h1 w hw)⟩
  | .lend x y b, h, W, hW => by
    rw [Stp.wf, Bool.and_eq_true, Bool.and_eq_true] at h
    rw [lwS] at hW
    rcases List.mem_cons.mp hW with rfl | hW
    · refine ⟨by simp, by simp, fun w hw => ?_⟩
      simp at hw
      rcases hw with rfl | rfl | rfl
      · decide
      · exact wOk_W h.1.1
      · exact wOk_W h.1.2
    · rcases List.mem_append.mp hW with hW | hW
      · exact lwP_ok b h.2 W hW
      · rw [List.mem_singleton.mp hW]; exact WOk_sing (by decide)
  | .ifs k a b, h, W, hW => by
    rw [Stp.wf, Bool.and_eq_true, Bool.and_eq_true, decide_eq_true_eq] at h
    rw [lwS] at hW
    obtain ⟨k1, k2, _⟩ := showI_len h.1.1
    rcases List.mem_cons.mp hW with rfl | hW
    · refine ⟨by simp, by simp, fun w hw => ?_⟩
      simp at hw
      rcases hw with rfl | rfl
      · decide
      · exact ⟨k1, fun c hc => ⟨(k2 c hc).1, (k2 c hc).2.1⟩⟩
    · rcases List.mem_append.mp hW with hW | hW
      · exact lwP_ok a h.1.2 W hW
      · rcases List.mem_cons.mp hW with rfl | hW
        · exact WOk_sing (by decide)
        · rcases List.mem_append.mp hW with hW | hW
          · exact lwP_ok b h.2 W hW
          · rw [List.mem_singleton.mp hW]; exact WOk_sing (by decide)
  | .whl k b, h, W, hW => by
    rw [Stp.wf, Bool.and_eq_true, decide_eq_true_eq] at h
    rw [lwS] at hW
    obtain ⟨k1, k2, _⟩ := showI_len h.1
    rcases List.mem_cons.mp hW with rfl | hW
    · refine ⟨by simp, by simp, fun w hw => ?_⟩
      simp at hw
      rcases hw with rfl | rfl
      · decide
      · exact ⟨k1, fun c hc => ⟨(k2 c hc).1, (k2 c hc).2.1⟩⟩
    · rcases List.mem_append.mp hW with hW | hW
      · exact lwP_ok b h.2 W hW
      · rw [List.mem_singleton.mp hW]; exact WOk_sing (by decide)
theorem lwP_ok : ∀ (l : List Stp), wfP l = true → ∀ W ∈ lwP l, WOk W
  | [], h, W, hW => by rw [lwP] at hW; cases hW
  | s :: r, h, W, hW => by
    rw [wfP, Bool.and_eq_true] at h
    rw [lwP] at hW
    rcases List.mem_append.mp hW with hW | hW
    · exact lwS_ok s h.1 W hW
    · exact lwP_ok r h.2 W hW
end
mutual
theorem nm_lwS : ∀ (s : Stp), s.wf = true → (lwS s).flatMap nmW = nmS s
  | .plain ws, h => by
    rw [lwS]
    rw [Stp.wf] at h
    cases ws with
    | nil => cases h
    | cons a r =>
      rw [nmS]
      have hh := (plOk_cons.mp h).1
      have na : ¬ (a = tIf ∨ a = tWhile) := by
        simp at hh
        rcases hh with ⟨rfl, _⟩ | ⟨rfl, _⟩ | ⟨rfl, _⟩ | ⟨rfl, _⟩ | ⟨rfl, _⟩ <;> decide
      simp [nmW, na]
  | .lend x y b, h => by
    rw [Stp.wf, Bool.and_eq_true, Bool.and_eq_true] at h
    rw [lwS, nmS, List.flatMap_cons, List.flatMap_append, nm_lwP b h.2]
    simp [nmW]
  | .ifs k a b, h => by
    rw [Stp.wf, Bool.and_eq_true, Bool.and_eq_true, decide_eq_true_eq] at h
    rw [lwS, nmS, List.flatMap_cons, List.flatMap_append, List.flatMap_cons, List.flatMap_append, nm_lwP a h.1.2, nm_lwP b h.2]
    simp [nmW]
  | .whl k b, h => by
    rw [Stp.wf, Bool.and_eq_true, decide_eq_true_eq] at h
    rw [lwS, nmS, List.flatMap_cons, List.flatMap_append, nm_lwP b h.2]
    simp [nmW]
theorem nm_lwP : ∀ (l : List Stp), wfP l = true → (lwP l).flatMap nmW = nmP l
  | [], h => by rw [lwP, nmP]; rfl
  | s :: r, h => by
    rw [wfP, Bool.and_eq_true] at h
    rw [lwP, nmP, List.flatMap_append, nm_lwS s h.1, nm_lwP r h.2]
end
/-! ### names, each once; lends -/
theorem beq_str {a b : Tx} : D.beq (.str a) (.str b) = decide (a = b) := by
  by_cases h : a = b
  · subst h; rw [D.beq_refl]; simp
  · rw [decide_eq_false h]
    cases e : D.beq (.str a) (.str b) with
    | false => rfl
    | true => have := D.beq_eq e; injection this with this; exact absurd this h
theorem zipWith_const : ∀ {ks : List D} {k : D} {n : Nat}, n = ks.length → List.zipWith (fun z p => match D.beq z k with | true => P.bl true | false => p) ks (List.replicate n (P.bl true)) = List.replicate n (P.bl true)
  | [], k, n, h => by subst h; rfl
  | z :: ks, k, n, h => by
    subst h
    simp only [List.length_cons, List.replicate_succ, List.zipWith_cons_cons]
    rw [zipWith_const rfl]
    cases D.beq z k <;> rfl
def namesP (ks : List Tx) : P := .dct (ks.map .str) (List.replicate ks.length (.bl true))
theorem putP_names {ks : List Tx} {x : Tx} : P.dct (putP (ks.map .str) (List.replicate ks.length (.bl true)) (.str x) (.bl true)).1 (putP (ks.map .str) (List.replicate ks.length (.bl true)) (.str x) (.bl true)).2 = namesP (addN ks x) := by
  have e : ((ks.map D.str).any fun z => D.beq z (.str x)) = decide (x ∈ ks) := by
    rw [List.any_map, Bool.eq_iff_iff, List.any_eq_true, decide_eq_true_eq]
    constructor
    · rintro ⟨y, hy, e⟩
      simp only [Function.comp, beq_str, decide_eq_true_eq] at e
      rw [← e]; exact hy
    · intro h
      exact ⟨x, h, by simp only [Function.comp, beq_str, decide_eq_true_eq]⟩
  unfold putP addN
  rw [e]
  by_cases h : x ∈ ks
  · rw [decide_eq_true h, if_pos h]
    exact congrArg (P.dct (ks.map D.str)) (zipWith_const (ks := ks.map D.str) (k := .str x) (n := ks.length) (by simp))
  · rw [decide_eq_false h, if_neg h]
    dsimp only
    unfold namesP
    congr 1
    · simp
    · rw [List.length_append]; exact List.replicate_succ'.symm
theorem addN_len {ks : List Tx} {x : Tx} : (addN ks x).length ≤ ks.length + 1 := by
  unfold addN; split <;> simp
theorem list_names {ks : List Tx} : bltP .list [namesP ks] = some (.lst (ks.map .str)) := by
  show grd ((ks.map D.str).all (keyOk KD)) (P.lst ((ks.map D.str).map kP)) = _
  have e : (ks.map D.str).all (keyOk KD) = true := by
    rw [List.all_map, List.all_eq_true]; intro x _; rfl
  rw [e, List.map_map]
  rfl
open PySem.Builtin PySem.Builtin.Str PySem.StrLaws in
theorem starts_iff {t b : Tx} : startsT t b = decide (t.take b.length = b) := by
  unfold startsT Txt.startswith
  have e1 : (strOf t).length = t.length := by simp [strOf, Str.length]
  have e2 : (strOf b).length = b.length := by simp [strOf, Str.length]
  rw [e1, e2, subAt_eq, e2]
  show (decide (0 + b.length ≤ t.length) && ((t.drop 0).take b.length == b)) = _
  rw [Bool.eq_iff_iff, Bool.and_eq_true, decide_eq_true_eq, decide_eq_true_eq, beq_iff_eq, List.drop_zero]
  constructor
  · exact fun h => h.2
  · intro h
    refine ⟨?_, h⟩
    have := congrArg List.length h
    rw [List.length_take] at this
    omega
def isLd (t : Tx) : Bool := startsT t [108, 101, 110, 100, 32]
theorem isLd_no {c : Nat} {t : Tx} (h : c ≠ 108) : isLd (c :: t) = false := by
  unfold isLd
  rw [starts_iff]
  simp
  intro e
  exact absurd e h
theorem isLd_lend {x y : Tx} : isLd (tLend ++ [32] ++ x ++ [32] ++ y) = true := by
  unfold isLd
  rw [starts_iff]
  simp
mutual
theorem ld_lnS : ∀ (s : Stp), s.wf = true → ((lnS s).filter isLd).length = ldS s
  | .plain ws, h => by
    rw [lnS, ldS]
    rw [Stp.wf] at h
    cases ws with
    | nil => cases h
    | cons a r =>
      have hh := (plOk_cons.mp h).1
      have hr : r ≠ [] := by
        intro e
        subst e
        simp at hh
      obtain ⟨u, q, rfl⟩ : ∃ u q, r = u :: q := by cases r with | nil => exact absurd rfl hr | cons u q => exact ⟨u, q, rfl⟩
      have : isLd (joinT [32] (a :: u :: q)) = false := by
        simp at hh
        rcases hh with ⟨rfl, _⟩ | ⟨rfl, _⟩ | ⟨rfl, _⟩ | ⟨rfl, _⟩ | ⟨rfl, _⟩ <;> exact isLd_no (by decide)
      simp [this]
  | .lend x y b, h => by
    rw [Stp.wf, Bool.and_eq_true, Bool.and_eq_true] at h
    have e2 : isLd tBack = false := isLd_no (by decide)
    rw [lnS, ldS, List.filter_cons, isLd_lend, if_pos rfl, List.length_cons, List.filter_append, List.length_append, ld_lnP b h.2]
    simp [e2]
  | .ifs k a b, h => by
    rw [Stp.wf, Bool.and_eq_true, Bool.and_eq_true, decide_eq_true_eq] at h
    have e1 : isLd (tIf ++ [32] ++ showI k) = false := isLd_no (by decide)
    have e2 : isLd tElse = false := isLd_no (by decide)
    have e3 : isLd tFi = false := isLd_no (by decide)
    rw [lnS, ldS, List.filter_cons, e1, if_neg (by decide), List.filter_append, List.length_append, List.filter_cons, e2, if_neg (by decide), List.filter_append, List.length_append, ld_lnP a h.1.2, ld_lnP b h.2]
    simp [e3]
  | .whl k b, h => by
    rw [Stp.wf, Bool.and_eq_true, decide_eq_true_eq] at h
    have e1 : isLd (tWhile ++ [32] ++ showI k) = false := isLd_no (by decide)
    have e2 : isLd tDone = false := isLd_no (by decide)
    rw [lnS, ldS, List.filter_cons, e1, if_neg (by decide), List.filter_append, List.length_append, ld_lnP b h.2]
    simp [e2]
theorem ld_lnP : ∀ (l : List Stp), wfP l = true → ((lnP l).filter isLd).length = ldP l
  | [], h => by rw [lnP, ldP]; rfl
  | s :: r, h => by
    rw [wfP, Bool.and_eq_true] at h
    rw [lnP, ldP, List.filter_append, List.length_append, ld_lnS s h.1, ld_lnP r h.2]
end
/-- within all its bounds -/
def prgOk (p : List Stp) : Bool := okP 0 p && decide ((lnP p).length ≤ 60) && decide ((ddp (nmP p)).length ≤ 4) && decide (ldP p ≤ 3)
@[simp] theorem pairsP_nil : pairsP [] = some ([], []) := rfl
@[simp] theorem nodK_nil : nodK [] = true := rfl
@[simp] theorem dctv_nil {t : Bool} {lk : List Nat} : dctv [] ⟨[], t, lk⟩ = ⟨.dct [] [], 2, []⟩ := by cases t <;> rfl
@[simp] theorem nrm_names {ks : List Tx} {lv : Nat} : nrm (namesP ks) lv = (namesP ks, lv) := rfl
@[simp] theorem vr_names {ks : List Tx} {lv : Nat} {lk : List Nat} : vr (namesP ks) lv lk = ⟨namesP ks, lv, lkv lv lk⟩ := rfl
theorem ddp_app {a b : List Tx} : ddp (a ++ b) = b.foldl addN (ddp a) := by unfold ddp; rw [List.foldl_append]
theorem foldN_len : ∀ {l ks : List Tx}, (l.foldl addN ks).length ≤ ks.length + l.length
  | [], ks => by simp
  | x :: l, ks => by
    have h1 := @foldN_len l (addN ks x)
    have h2 := @addN_len ks x
    simp only [List.foldl_cons, List.length_cons]
    omega
theorem nmW_len {W : List Tx} : (nmW W).length ≤ W.length := by
  cases W with
  | nil => simp [nmW]
  | cons a r =>
    simp only [nmW]
    by_cases h1 : a = tIf ∨ a = tWhile
    · rw [if_pos h1]; simp
    · rw [if_neg h1]
      by_cases h2 : a = tDo
      · rw [if_pos h2, List.length_drop, List.length_cons]; omega
      · rw [if_neg h2, List.length_cons]; omega
theorem flat_len : ∀ {Ws : List (List Tx)}, (∀ W ∈ Ws, WOk W) → (Ws.flatMap nmW).length ≤ 3 * Ws.length
  | [], _ => by simp
  | W :: Ws, h => by
    have h1 := @flat_len Ws fun V hV => h V (List.mem_cons_of_mem _ hV)
    have h2 := (h W (by simp)).2.1
    have h3 := @nmW_len W
    rw [List.flatMap_cons, List.length_append, List.length_cons]
    omega
theorem ddp_len {l : List Tx} : (ddp l).length ≤ l.length := by
  have := @foldN_len l []
  unfold ddp
  simpa using this
structure GivesF {α : Type} (enc : α → P) (a : α) (c : Bool) (x : Option PV) : Prop where
  h : (c = true ∧ ∃ lk, x = some ⟨enc a, 2, lk⟩) ∨ (c = false ∧ x = none)
/-- a comprehension with a test: what passes it -/
theorem compP_filter {α : Type} {f : P → Option (Option PV)} {Q : PVs → Prop} {enc : α → P} (c : α → Bool) : ∀ (l : List α), (∀ b ∈ l, Tn (f (enc b)) (GivesF enc b (c b))) → (∀ lk, Q ⟨(l.filter c).map enc, true, lk⟩) → Tn (compP f (l.map enc)) Q
  | [], _, hq => ⟨_, rfl, hq []⟩
  | b :: l, hs, hq => by
    show Tn (compP f (enc b :: l.map enc)) Q
    unfold compP
    simp only [tn_bind, tn_map]
    refine (hs b (List.mem_cons_self ..)).mono fun x ⟨h⟩ => ?_
    refine compP_filter c l (fun q hq' => hs q (List.mem_cons_of_mem _ hq')) fun lk' => ?_
    rw [List.filter_cons] at hq
    rcases h with ⟨h1, lk, rfl⟩ | ⟨h1, rfl⟩
    · rw [if_pos h1] at hq
      exact hq _
    · rw [if_neg (by rw [h1]; decide)] at hq
      exact hq _
theorem mem_addN {ks : List Tx} {x y : Tx} : y ∈ addN ks x ↔ y ∈ ks ∨ y = x := by
  unfold addN
  split
  · constructor
    · exact .inl
    · rintro (h | rfl)
      · exact h
      · assumption
  · simp
theorem mem_foldN {y : Tx} : ∀ {l ks : List Tx}, y ∈ l.foldl addN ks ↔ y ∈ ks ∨ y ∈ l
  | [], ks => by simp
  | x :: l, ks => by
    rw [List.foldl_cons, mem_foldN, mem_addN, List.mem_cons, or_assoc]
theorem mem_ddp {y : Tx} {l : List Tx} : y ∈ ddp l ↔ y ∈ l := by unfold ddp; rw [mem_foldN]; simp
theorem nodup_foldN : ∀ {l ks : List Tx}, ks.Nodup → (l.foldl addN ks).Nodup
  | [], ks, h => h
  | x :: l, ks, h => by
    rw [List.foldl_cons]
    refine nodup_foldN ?_
    unfold addN
    split
    · exact h
    · rename_i hx
      exact List.nodup_append.mpr ⟨h, by simp, fun a ha b hb e => hx (by rw [List.mem_singleton.mp hb] at e; rw [← e]; exact ha)⟩
theorem nodup_ddp {l : List Tx} : (ddp l).Nodup := nodup_foldN (by simp)
theorem nodup_le : ∀ {l L : List Tx}, l.Nodup → (∀ x ∈ l, x ∈ L) → l.length ≤ L.length
  | [], L, _, _ => by simp
  | a :: l, L, h, hs => by
    rw [List.nodup_cons] at h
    have ha := hs a (by simp)
    have := nodup_le (l := l) (L := L.erase a) h.2 fun x hx => (List.mem_erase_of_ne (fun e => h.1 (by rw [← e]; exact hx))).mpr (hs x (List.mem_cons_of_mem _ hx))
    rw [List.length_erase_of_mem ha] at this
    have : L.length ≠ 0 := by intro e; rw [List.length_eq_zero_iff.mp e] at ha; cases ha
    simp
    omega
theorem ddp_sub {l L : List Tx} (h : ∀ x ∈ l, x ∈ L) : (ddp l).length ≤ L.length := nodup_le nodup_ddp fun x hx => h x (mem_ddp.mp hx)
theorem nmP_app : ∀ {a b : List Stp}, nmP (a ++ b) = nmP a ++ nmP b
  | [], b => by rw [List.nil_append, nmP]; rfl
  | s :: a, b => by rw [List.cons_append, nmP, nmP_app, nmP, List.append_assoc]
theorem ldP_app : ∀ {a b : List Stp}, ldP (a ++ b) = ldP a + ldP b
  | [], b => by rw [List.nil_append, ldP]; omega
  | s :: a, b => by rw [List.cons_append, ldP, ldP_app, ldP]; omega
theorem wfP_app {a b : List Stp} : wfP (a ++ b) = (wfP a && wfP b) := by
  rw [Bool.eq_iff_iff, Bool.and_eq_true, wfP_iff, wfP_iff, wfP_iff]
  simp only [List.mem_append]
  exact ⟨fun h => ⟨fun s hs => h s (.inl hs), fun s hs => h s (.inr hs)⟩, fun h s hs => hs.elim (h.1 s) (h.2 s)⟩
theorem htP_app : ∀ {a b : List Stp}, htP (a ++ b) = max (htP a) (htP b)
  | [], b => by rw [List.nil_append, htP]; omega
  | s :: a, b => by rw [List.cons_append, htP, htP_app, htP]; omega
/-- steps all plain -/
theorem pl_facts {l : List (List Tx)} (h : ∀ ws ∈ l, plOk ws = true) : wfP (l.map Stp.plain) = true ∧ htP (l.map Stp.plain) = 0 ∧ (lnP (l.map Stp.plain)).length = l.length ∧ ldP (l.map Stp.plain) = 0 ∧ ∀ d, d ≤ 8 → okP d (l.map Stp.plain) = true := by
  induction l with
  | nil => simp [wfP, htP, lnP, ldP, okP]
  | cons ws l ih =>
    obtain ⟨a, b, c, d, e⟩ := ih fun w hw => h w (List.mem_cons_of_mem _ hw)
    have hw := h ws (by simp)
    refine ⟨?_, ?_, ?_, ?_, fun k hk => ?_⟩
    · rw [List.map_cons, wfP, Stp.wf, hw, a]; rfl
    · rw [List.map_cons, htP, Stp.ht, b]; rfl
    · rw [List.map_cons, lnP, lnS, List.length_append, c]; simp; omega
    · rw [List.map_cons, ldP, ldS, d]
    · rw [List.map_cons, okP, Stp.ok, e k hk, decide_eq_true hk]; rfl
/-- a program as it is asked for -/
structure Prg (p : List Stp) (ok : Bool) : Prop where
  wf : wfP p = true
  ht : htP p ≤ 20
  ln : (lnP p).length ≤ 1000
  is : prgOk p = ok
theorem prgP_1 {s : Stp} : prgP [s] = .lst [stpP s] := rfl
theorem prgP_2 {s t : Stp} : prgP [s, t] = .lst [stpP s, stpP t] := rfl
theorem plOk_drop {w : Tx} (h : wOk w = true) : plOk [tDrop, w] = true := plOk_cons.mpr ⟨by simp, by simpa using h⟩
theorem nm_drops {us : List Tx} : nmP ((us.map fun w => [tDrop, w]).map Stp.plain) = us := by
  induction us with
  | nil => rw [List.map_nil, List.map_nil, nmP]
  | cons u us ih =>
    rw [List.map_cons, List.map_cons, nmP, nmS, ih, if_neg (by decide)]
    rfl
@[simp] theorem slc_prg {p : List Stp} {l u : Option Int} : slcP (prgP p) l u = some (prgP (cut p l u)) := by
  show some (P.lst (cut (p.map stpP) l u)) = _
  rw [cut_map]
  rfl
theorem okP_app {d : Nat} : ∀ {a b : List Stp}, okP d (a ++ b) = (okP d a && okP d b)
  | [], b => by rw [List.nil_append, okP, Bool.true_and]
  | s :: a, b => by rw [List.cons_append, okP, okP_app, okP, Bool.and_assoc, Bool.and_assoc, Bool.and_assoc]
theorem lnS_pos {s : Stp} : 1 ≤ (lnS s).length := by cases s <;> simp [lnS]
theorem len_lnP : ∀ {p : List Stp}, p.length ≤ (lnP p).length
  | [] => by simp
  | s :: r => by
    have := @len_lnP r
    have := @lnS_pos s
    rw [lnP, List.length_append, List.length_cons]
    omega
end U
end

section
set_option maxRecDepth 100000
set_option maxHeartbeats 1000000
/-! The value machine with a store of shared lists: a raw place and what the list there holds. -/
namespace U
open PySem
/-- the store's owner -/
abbrev STO : Nat := 1000001
abbrev Mu := Nat → Option (List P)
def Mu.upd (μ : Mu) (n : Nat) (ps : List P) : Mu := fun m => if m = n then some ps else μ m
/-- the store is right: lists of items without places, owned by nobody here -/
def Sto (μ : Mu) (h : Hd) (ow : Ow) : Prop := ∀ n ps, μ n = some ps → ow n = some STO ∧ ∃ ds, h[n]? = some (.lst ds) ∧ Rps h ps ds []
theorem Sto.lt {μ : Mu} {h : Hd} {ow : Ow} (S : Sto μ h ow) {n : Nat} {ps : List P} (e : μ n = some ps) : n < h.length := by
  obtain ⟨_, ds, hn, _⟩ := S n ps e
  exact (List.getElem?_eq_some_iff.mp hn).1
theorem Sto.fo {μ : Mu} {h h' : Hd} {ow ow' : Ow} (S : Sto μ h ow) (f : Fo h ow h' ow') : Sto μ h' ow' := fun n ps e => by
  obtain ⟨a, ds, hn, q⟩ := S n ps e
  obtain ⟨b, c⟩ := f.st n (S.lt e) fun i hi => by rw [a] at hi; cases hi; decide
  exact ⟨c.trans a, ds, b.trans hn, q.fr fun r hr => by cases hr⟩
/-- behind: what neither is owned here nor in the store is as it was -/
structure Zo (μ : Mu) (h : Hd) (ow : Ow) (h' : Hd) (ow' : Ow) : Prop where
  le : h.length ≤ h'.length
  st : ∀ r, r < h.length → μ r = none → (∀ i, ow r = some i → BIG ≤ i) → h'[r]? = h[r]? ∧ ow' r = ow r
/-- the store grows by new places alone -/
def Mu.le (L : Nat) (μ μ' : Mu) : Prop := ∀ n, n < L → (μ' n).isSome = (μ n).isSome
theorem Zo.refl {μ : Mu} {h : Hd} {ow : Ow} : Zo μ h ow h ow := ⟨Nat.le_refl _, fun _ _ _ _ => ⟨rfl, rfl⟩⟩
theorem Zo.of {μ : Mu} {h h' : Hd} {ow ow' : Ow} (f : Fo h ow h' ow') : Zo μ h ow h' ow' := ⟨f.le, fun r a _ b => f.st r a b⟩
theorem Zo.trans {μ μ1 : Mu} {h h1 h2 : Hd} {ow ow1 ow2 : Ow} (a : Zo μ h ow h1 ow1) (l : Mu.le h.length μ μ1) (b : Zo μ1 h1 ow1 h2 ow2) : Zo μ h ow h2 ow2 := ⟨Nat.le_trans a.le b.le, fun r hr m k => by
  obtain ⟨e1, e2⟩ := a.st r hr m k
  have m1 : μ1 r = none := by
    have := l r hr
    rw [m] at this
    cases e : μ1 r with
    | none => rfl
    | some _ => rw [e] at this; cases this
  obtain ⟨e3, e4⟩ := b.st r (Nat.lt_of_lt_of_le hr a.le) m1 (by rw [e2]; exact k)
  exact ⟨e3.trans e1, e4.trans e2⟩⟩
theorem Mu.le.refl {L : Nat} {μ : Mu} : Mu.le L μ μ := fun _ _ => rfl
theorem Mu.le.trans {L L1 : Nat} {μ μ1 μ2 : Mu} (a : Mu.le L μ μ1) (b : Mu.le L1 μ1 μ2) (l : L ≤ L1) : Mu.le L μ μ2 := fun n hn => (b n (Nat.lt_of_lt_of_le hn l)).trans (a n hn)
/-- a state that is told by ρ and μ -/
def ZN (N : Rho → Mu → Prop) (μ : Mu) (h : Hd) (ow : Ow) (σ' : St) (h' : Hd) : Prop := ∃ ρ' μ' ow', N ρ' μ' ∧ Inv h' σ' ρ' ow' ∧ Sto μ' h' ow' ∧ Zo μ h ow h' ow' ∧ Mu.le h.length μ μ'
/-- a result that is told by p and μ: a value without places, or all its own -/
def ZR (R : P → Mu → Prop) (μ : Mu) (h : Hd) (ow : Ow) (d : D) (h' : Hd) : Prop := ∃ p μ' ow' ws, R p μ' ∧ Rp h' p d ws ∧ ws.Nodup ∧ (∀ x ∈ ws, Fresh h ow x ∧ μ' x = none) ∧ Sto μ' h' ow' ∧ Zo μ h ow h' ow' ∧ Mu.le h.length μ μ'
def Zn (run : St → Hd → SR) (ρ : Rho) (μ : Mu) (N : Rho → Mu → Prop) (R : P → Mu → Prop) : Prop := ∀ h σ ow, Inv h σ ρ ow → Sto μ h ow → Sn (run σ h) (ZN N μ h ow) (ZR R μ h ow) (fun _ _ => False) (fun _ _ => False)
section
variable {T : Tab} {F : Nat → List D → M D} {FP : Nat → List P → Option (P × Nat)} {ρ : Rho} {μ : Mu}
theorem ZN.back {N : Rho → Mu → Prop} {μ1 : Mu} {h h1 h' : Hd} {ow ow1 : Ow} {σ' : St} (a : Zo μ h ow h1 ow1) (l : Mu.le h.length μ μ1) (k : ZN N μ1 h1 ow1 σ' h') : ZN N μ h ow σ' h' := by
  obtain ⟨ρ', μ', ow', n, i, s, z, m⟩ := k
  exact ⟨ρ', μ', ow', n, i, s, a.trans l z, l.trans m a.le⟩
/-- a statement on values -/
theorem zn_p (hF : FSnd F FP) (hT : T.wh = whl) {s : CS} {N : Rho → Mu → Prop} {R : P → Mu → Prop} (k : Pn (evSP FP s ρ) (fun ρ' => N ρ' μ) (fun _ _ => False) (fun _ => False) (fun _ => False)) : Zn (evS T F s) ρ μ N R := fun h σ ow I S => by
  refine Sn.mono (stP_ok hF hT s I k.no) (fun σ' h' ⟨ρ', e, ow', I', f⟩ => ?_) (fun v h' ⟨p, lv, e, _⟩ => ?_) (fun σ' h' ⟨ρ', e, _⟩ => ?_) fun σ' h' ⟨ρ', e, _⟩ => ?_
  · rw [e] at k
    exact ⟨ρ', μ, ow', k.h, I', S.fo f, .of f, .refl⟩
  · rw [e] at k; exact k.h.elim
  · rw [e] at k; exact k.h.elim
  · rw [e] at k; exact k.h.elim
/-- a place of the store is written -/
theorem Inv.alien {h : Hd} {σ : St} {ow : Ow} {x : Nat} {o : O} (I : Inv h σ ρ ow) (e : ow x = some STO) : Inv (h.set x o) σ ρ ow := by
  refine ⟨I.len, fun j p lv ej => ?_, fun r i er => ?_, I.small⟩
  · obtain ⟨d, us, e1, q, l⟩ := I.rep j p lv ej
    have hj : j < ρ.length := (List.getElem?_eq_some_iff.mp ej).1
    have hs : ρ.length ≤ 1000000 := I.small
    refine ⟨d, us, e1, q.fr fun r hr => List.getElem?_set_ne fun z => ?_, l⟩
    subst z
    by_cases a : lv = 2
    · rw [(l.1 a).2 x hr] at e; have e : j = 1000001 := Option.some.inj e; omega
    · by_cases b : lv = 1
      · obtain ⟨n, ws, rfl, w1, w2⟩ := l.2.1 b
        rcases List.mem_cons.mp hr with rfl | hr
        · rw [w1] at e; have e : j = 1000001 := Option.some.inj e; omega
        · rw [w2 x hr] at e; cases e
      · rw [l.2.2 a b x hr] at e; cases e
  · show r < _
    rw [List.length_set]
    exact I.own r i er
/-- an expression whose value has no places -/
def Ez (T : Tab) (F : Nat → List D → M D) (e : CE) (ρ : Rho) (μ : Mu) (Q : P → Prop) : Prop := ∀ h σ ow, Inv h σ ρ ow → Sto μ h ow → Rn (evE T F e σ h) fun d h' => ∃ p, Q p ∧ p.scal = true ∧ Rp h' p d [] ∧ FrA h h'
theorem ez_p (hF : FSnd F FP) {e : CE} {Q : P → Prop} (k : Tn (evP FP e ρ) fun v => v.p.scal = true ∧ Q v.p) : Ez T F e ρ μ Q := fun h σ ow I S => by
  obtain ⟨v, ev, hs, hq⟩ := k.h
  refine (evP_ok hF e I ev).mono fun d h' ⟨f, us, q, _⟩ => ⟨v.p, hq, hs, ?_, f⟩
  obtain ⟨rfl, _⟩ := q.scal hs
  exact q
theorem Sto.upd {h : Hd} {ow : Ow} {n : Nat} {ps : List P} {ds : List D} (S : Sto μ h ow) (o : ow n = some STO) (hn : n < h.length) (q : Rps h ps ds []) : Sto (μ.upd n ps) (h.set n (.lst ds)) ow := fun m qs e => by
  unfold Mu.upd at e
  by_cases z : m = n
  · subst z
    rw [if_pos rfl] at e
    cases e
    exact ⟨o, ds, List.getElem?_set_self hn, q.fr fun r hr => by cases hr⟩
  · rw [if_neg z] at e
    obtain ⟨a, es, b, c⟩ := S m qs e
    exact ⟨a, es, (List.getElem?_set_ne (fun w => z w.symm)).trans b, c.fr fun r hr => by cases hr⟩
theorem Mu.le.upd {L n : Nat} {ps qs : List P} (e : μ n = some ps) : Mu.le L μ (μ.upd n qs) := fun m _ => by
  unfold Mu.upd
  by_cases z : m = n
  · subst z; rw [if_pos rfl, e]; rfl
  · rw [if_neg z]
/-- a raw list gets one more -/
theorem zn_app {i n lv : Nat} {e : CE} {ps : List P} {Q : P → Prop} {N : Rho → Mu → Prop} {R : P → Mu → Prop} (ei : ρ[i]? = some (some (.raw n, lv))) (en : μ n = some ps) (hl : ps.length < LIM) (k : Ez T F e ρ μ Q) (kn : ∀ p, Q p → p.scal = true → N ρ (μ.upd n (ps ++ [p]))) :
    Zn (evS T F (.ex (.bmt .append (.var i) (.cons e .nil)))) ρ μ N R := fun h σ ow I S => by
  obtain ⟨d0, us0, e0, q0, _⟩ := I.rep i _ _ ei
  obtain ⟨rfl, _⟩ := rp_raw.mp q0
  obtain ⟨o, ds, hn, q⟩ := S n ps en
  rw [sn_ex, rn_bmt, rn_var]
  rw [e0]
  show Rn (tyM .append (.ref n) h) _
  have e1 : tyM .append (.ref n) h = .ok () h := by unfold tyM; dsimp only; rw [hn]
  rw [e1, rn_ok, rn_cons]
  refine (k h σ ow I S).mono fun d h' ⟨p, hq, hs, qd, f⟩ => ?_
  rw [rn_nil]
  have hlt := (List.getElem?_eq_some_iff.mp hn).1
  have hn' : h'[n]? = some (.lst ds) := (f.2 n hlt).trans hn
  have e2 : bmtE .append (.ref n) [d] h' = .ok .non (h'.set n (.lst (ds ++ [d]))) := by
    show (bnd (lft (lst? h' (.ref n))) fun p => bnd (must (decide (p.2.length < LIM))) fun _ => bnd (put p.1 (.lst (p.2 ++ [d]))) fun _ => ret D.non) h' = _
    unfold lst?
    dsimp only
    rw [hn']
    dsimp only
    have : decide (ds.length < LIM) = true := decide_eq_true (by rw [q.len]; exact hl)
    have z : decide (n < h'.length) = true := decide_eq_true (Nat.lt_of_lt_of_le hlt f.1)
    simp only [bnd, lft, must, this, put, ret, z, Rs.bnd]
  rw [e2, rn_ok]
  have qq : Rps h' (ps ++ [p]) (ds ++ [d]) [] := by
    have := (q.frA f).app (Rps.one qd)
    simpa using this
  refine ⟨ρ, _, ow, kn p hq hs, (I.fr f).alien o, (S.fo (.of f)).upd o (Nat.lt_of_lt_of_le hlt f.1) qq, ⟨?_, fun r hr hm _ => ⟨?_, rfl⟩⟩, .upd en⟩
  · rw [List.length_set]; exact f.1
  · have : n ≠ r := fun z => by subst z; rw [en] at hm; cases hm
    rw [List.getElem?_set_ne this]
    exact f.2 r hr
/-- a raw list gets the items of a list -/
theorem zn_ext (hF : FSnd F FP) {i n lv : Nat} {e : CE} {ps : List P} {N : Rho → Mu → Prop} {R : P → Mu → Prop} (ei : ρ[i]? = some (some (.raw n, lv))) (en : μ n = some ps) (k : Tn (evP FP e ρ) fun v => ∃ qs, v.p = .lst qs ∧ P.scals qs = true ∧ ps.length + qs.length ≤ LIM ∧ N ρ (μ.upd n (ps ++ qs))) :
    Zn (evS T F (.ex (.bmt .extend (.var i) (.cons e .nil)))) ρ μ N R := fun h σ ow I S => by
  obtain ⟨v, ev, qs, hv, hs, hl, kn⟩ := k.h
  obtain ⟨d0, us0, e0, q0, _⟩ := I.rep i _ _ ei
  obtain ⟨rfl, _⟩ := rp_raw.mp q0
  obtain ⟨o, ds, hn, q⟩ := S n ps en
  rw [sn_ex, rn_bmt, rn_var, e0]
  show Rn (tyM .extend (.ref n) h) _
  have e1 : tyM .extend (.ref n) h = .ok () h := by unfold tyM; dsimp only; rw [hn]
  rw [e1, rn_ok, rn_cons]
  refine (evP_ok hF e I ev).mono fun d h' ⟨f, us, qd, _⟩ => ?_
  rw [rn_nil]
  rw [hv] at qd
  obtain ⟨m, es, ws, rfl, hm, qe, _⟩ := rp_lst.mp qd
  obtain ⟨rfl, _⟩ := qe.scal hs
  have hlt := (List.getElem?_eq_some_iff.mp hn).1
  have hn' : h'[n]? = some (.lst ds) := (f.2 n hlt).trans hn
  have e2 : bmtE .extend (.ref n) [.ref m] h' = .ok .non (h'.set n (.lst (ds ++ es))) := by
    show (bnd (lft (lst? h' (.ref n))) fun p => bnd (lft (lst? h' (.ref m))) fun q => bnd (must (decide (p.2.length + q.2.length ≤ LIM))) fun _ => bnd (put p.1 (.lst (p.2 ++ q.2))) fun _ => ret D.non) h' = _
    unfold lst?
    dsimp only
    rw [hn', hm]
    dsimp only
    have : decide (ds.length + es.length ≤ LIM) = true := decide_eq_true (by rw [q.len, qe.len]; exact hl)
    have z : decide (n < h'.length) = true := decide_eq_true (Nat.lt_of_lt_of_le hlt f.1)
    simp only [bnd, lft, must, this, put, ret, z, Rs.bnd]
  rw [e2, rn_ok]
  have qq : Rps h' (ps ++ qs) (ds ++ es) [] := by
    have := (q.frA f).app qe
    simpa using this
  refine ⟨ρ, _, ow, kn, (I.fr f).alien o, (S.fo (.of f)).upd o (Nat.lt_of_lt_of_le hlt f.1) qq, ⟨?_, fun r hr hm _ => ⟨?_, rfl⟩⟩, .upd en⟩
  · rw [List.length_set]; exact f.1
  · have : n ≠ r := fun z => by subst z; rw [en] at hm; cases hm
    rw [List.getElem?_set_ne this]
    exact f.2 r hr
/-- a new list, shared from now on -/
theorem zn_new {i : Nat} {N : Rho → Mu → Prop} {R : P → Mu → Prop} (hi : i < ρ.length) (kn : ∀ n, μ n = none → N (ρ.set i (some (.raw n, 2))) (μ.upd n [])) : Zn (evS T F (.set (.nm i) (.lst .nil))) ρ μ N R := fun h σ ow I S => by
  rw [sn_set, rn_lst, rn_nil]
  refine ⟨Nat.zero_le _, ?_⟩
  have hi' : i < σ.length := by rw [← I.len]; exact hi
  have ea : asg (.nm i) (.ref h.length) σ = some (σ.set i (some (.ref h.length))) := by
    unfold asg
    first | rfl | simp [hi']
  rw [ea, rn_some]
  have hm : μ h.length = none := by
    cases e : μ h.length with
    | none => rfl
    | some ps => have := S.lt e; omega
  let ow' : Ow := fun x => if x = h.length then some STO else ow x
  have low : ∀ r, r < h.length → ow' r = ow r := fun r hr => if_neg (by omega)
  refine ⟨_, _, ow', kn h.length hm, ⟨by simp [I.len], fun j p lv ej => ?_, fun r j er => ?_, by rw [List.length_set]; exact I.small⟩, fun m qs e => ?_, ⟨by simp, fun r hr _ _ => ⟨List.getElem?_append_left hr, low r hr⟩⟩, fun m hm' => ?_⟩
  · by_cases z : i = j
    · subst z
      rw [List.getElem?_set_self hi] at ej
      cases ej
      exact ⟨.ref h.length, [], by rw [List.getElem?_set_self hi'], rp_raw.mpr ⟨rfl, rfl⟩, fun _ => by simp, (by intro w; cases w), by simp⟩
    · rw [List.getElem?_set_ne z] at ej
      obtain ⟨d, us, e1, q, l⟩ := I.rep j p lv ej
      have lo : ∀ r ∈ us, ow' r = ow r := fun r hr => low r (q.lt r hr)
      refine ⟨d, us, by rw [List.getElem?_set_ne z]; exact e1, q.frA .app, fun w => ⟨(l.1 w).1, fun r hr => (lo r hr).trans ((l.1 w).2 r hr)⟩, fun w => ?_, fun w1 w2 r hr => (lo r hr).trans (l.2.2 w1 w2 r hr)⟩
      obtain ⟨n, ws, rfl, a, b⟩ := l.2.1 w
      exact ⟨n, ws, rfl, (lo n (by simp)).trans a, fun r hr => (lo r (by simp [hr])).trans (b r hr)⟩
  · show r < _
    by_cases z : r = h.length
    · subst z; simp
    · have : ow r = some j := by rw [← er]; exact (if_neg z).symm
      have := I.own r j this
      have : r < h.length := this
      rw [List.length_append]; omega
  · unfold Mu.upd at e
    by_cases z : m = h.length
    · subst z
      rw [if_pos rfl] at e
      cases e
      exact ⟨if_pos rfl, [], by simp, .nil⟩
    · rw [if_neg z] at e
      obtain ⟨a, es, b, c⟩ := S m qs e
      have hm := S.lt e
      exact ⟨(low m hm).trans a, es, (List.getElem?_append_left hm).trans b, c.fr fun r hr => by cases hr⟩
  · unfold Mu.upd
    rw [if_neg (by omega)]
theorem Fresh.zback {μ1 : Mu} {h h1 : Hd} {ow ow1 : Ow} {r : Nat} (S1 : Sto μ1 h1 ow1) (a : Zo μ h ow h1 ow1) (l : Mu.le h.length μ μ1) (k : Fresh h1 ow1 r) : Fresh h ow r := by
  rcases k with k | ⟨i, k1, k2⟩
  · exact .inl (Nat.le_trans a.le k)
  · by_cases hr : r < h.length
    · cases e : μ r with
      | some ps =>
        have hm := l r hr
        rw [e] at hm
        cases e1 : μ1 r with
        | none => rw [e1] at hm; cases hm
        | some qs =>
          rw [(S1 r qs e1).1] at k2
          have : 1000001 = i := Option.some.inj k2
          have : i < 1000000 := k1
          omega
      | none =>
        by_cases z : ∀ i, ow r = some i → BIG ≤ i
        · have := (a.st r hr e z).2
          rw [k2] at this
          have h1 : 1000000 ≤ i := z i this.symm
          have : i < 1000000 := k1
          omega
        · cases e2 : ow r with
          | none => exact (z fun i hi => by rw [e2] at hi; cases hi).elim
          | some j =>
            by_cases w : j < BIG
            · exact .inr ⟨j, w, e2⟩
            · exact (z fun i hi => by rw [e2] at hi; cases hi; exact Nat.le_of_not_lt w).elim
    · exact .inl (Nat.le_of_not_lt hr)
/-- one statement behind the other -/
theorem zn_cons {s : CS} {r : CSs} {N : Rho → Mu → Prop} {R : P → Mu → Prop} (k : Zn (evS T F s) ρ μ (fun ρ' μ' => Zn (evSs T F r) ρ' μ' N R) R) : Zn (evSs T F (.cons s r)) ρ μ N R := fun h σ ow I S => by
  rw [sn_cons]
  refine Sn.mono (k h σ ow I S) (fun σ' h' ⟨ρ', μ', ow', n, I', S', z, l⟩ => ?_) (fun _ _ z => z) (fun _ _ z => z) fun _ _ z => z
  refine Sn.mono (n h' σ' ow' I' S') (fun σ2 h2 k2 => k2.back z l) (fun d h2 k2 => ?_) (fun _ _ z => z) fun _ _ z => z
  obtain ⟨p, μ2, ow2, ws, a, b, c, e, f, g, i⟩ := k2
  refine ⟨p, μ2, ow2, ws, a, b, c, fun x hx => ?_, f, z.trans l g, l.trans i z.le⟩
  exact ⟨(e x hx).1.zback S' z l, (e x hx).2⟩
theorem zn_nil {N : Rho → Mu → Prop} {R : P → Mu → Prop} (k : N ρ μ) : Zn (evSs T F .nil) ρ μ N R := fun h σ ow I S => ⟨ρ, μ, ow, k, I, S, .refl, .refl⟩
/-- a result without places -/
theorem zn_ret {e : CE} {Q : P → Prop} {N : Rho → Mu → Prop} {R : P → Mu → Prop} (k : Ez T F e ρ μ Q) (kr : ∀ p, Q p → p.scal = true → R p μ) : Zn (evS T F (.ret e)) ρ μ N R := fun h σ ow I S => by
  rw [sn_ret]
  refine (k h σ ow I S).mono fun d h' ⟨p, hq, hs, q, f⟩ => ?_
  exact ⟨p, μ, ow, [], kr p hq hs, q, .nil, (fun x hx => by cases hx), S.fo (.of f), .of (.of f), .refl⟩
/-- a test -/
def Cz (T : Tab) (F : Nat → List D → M D) (c : CT) (ρ : Rho) (μ : Mu) (Q : Bool → Prop) : Prop := ∀ h σ ow, Inv h σ ρ ow → Sto μ h ow → Rn (evT T F c σ h) fun b h' => Q b ∧ FrA h h'
theorem cz_p (hF : FSnd F FP) {c : CT} {Q : Bool → Prop} (k : Tn (evPT FP c ρ) Q) : Cz T F c ρ μ Q := fun h σ ow I S => by
  obtain ⟨b, e, q⟩ := k.h
  refine (evPT_ok hF c I e).mono fun b' h' ⟨f, e⟩ => ⟨by rw [e]; exact q, f⟩
theorem zn_ite {c : CT} {a b : CSs} {Q : Bool → Prop} {N : Rho → Mu → Prop} {R : P → Mu → Prop} (k : Cz T F c ρ μ Q) (ka : Q true → Zn (evSs T F a) ρ μ N R) (kb : Q false → Zn (evSs T F b) ρ μ N R) : Zn (evS T F (.ite c a b)) ρ μ N R := fun h σ ow I S => by
  rw [sn_ite]
  refine (k h σ ow I S).mono fun b' h' ⟨q, f⟩ => ?_
  have z : Zo μ h ow h' ow := .of (.of f)
  have S' := S.fo (.of f)
  have go : ∀ {t : CSs}, Zn (evSs T F t) ρ μ N R → Sn (evSs T F t σ h') (ZN N μ h ow) (ZR R μ h ow) (fun _ _ => False) (fun _ _ => False) := fun {t} kt => by
    refine Sn.mono (kt h' σ ow (I.fr f) S') (fun σ2 h2 k2 => k2.back z .refl) (fun d h2 k2 => ?_) (fun _ _ z => z) fun _ _ z => z
    obtain ⟨p, μ2, ow2, ws, a, b, c, e, f', g, i⟩ := k2
    exact ⟨p, μ2, ow2, ws, a, b, c, fun x hx => ⟨(e x hx).1.zback S' z .refl, (e x hx).2⟩, f', z.trans .refl g, Mu.le.trans .refl i z.le⟩
  cases b' with
  | true => rw [if_pos rfl]; exact go (ka q)
  | false => rw [if_neg (by decide)]; exact go (kb q)
theorem Zn.mono {run : St → Hd → SR} {N N' : Rho → Mu → Prop} {R R' : P → Mu → Prop} (k : Zn run ρ μ N R) (hn : ∀ ρ' μ', N ρ' μ' → N' ρ' μ') (hr : ∀ p μ', R p μ' → R' p μ') : Zn run ρ μ N' R' := fun h σ ow I S =>
  Sn.mono (k h σ ow I S) (fun σ2 h2 ⟨a, b, c, d, e⟩ => ⟨a, b, c, hn a b d, e⟩) (fun d h2 ⟨a, b, c, ws, d, e⟩ => ⟨a, b, c, ws, hr a b d, e⟩) (fun _ _ z => z) fun _ _ z => z
/-- ρ with some raw slots told by what the store holds there, to be read -/
structure View (ρ : Rho) (μ : Mu) (ρv : Rho) : Prop where
  len : ρv.length = ρ.length
  at_ : ∀ i : Nat, ρv[i]? = ρ[i]? ∨ ∃ n lv ps, ρ[i]? = some (some (.raw n, lv)) ∧ μ n = some ps ∧ ρv[i]? = some (some (.lst ps, 0))
theorem View.refl : View ρ μ ρ := ⟨rfl, fun _ => .inl rfl⟩
theorem View.one {ρv : Rho} {i n lv : Nat} {ps : List P} (v : View ρ μ ρv) (e : ρ[i]? = some (some (.raw n, lv))) (em : μ n = some ps) : View ρ μ (ρv.set i (some (.lst ps, 0))) := ⟨by rw [List.length_set]; exact v.len, fun j => by
  by_cases z : i = j
  · subst z
    have : i < ρv.length := by rw [v.len]; exact (List.getElem?_eq_some_iff.mp e).1
    exact .inr ⟨n, lv, ps, e, em, List.getElem?_set_self this⟩
  · rw [List.getElem?_set_ne z]; exact v.at_ j⟩
theorem View.inv {h : Hd} {σ : St} {ow : Ow} {ρv : Rho} (v : View ρ μ ρv) (I : Inv h σ ρ ow) (S : Sto μ h ow) : Inv h σ ρv (fun x => if ow x = some STO then none else ow x) := by
  refine ⟨v.len.trans I.len, fun j p lv ej => ?_, fun r j er => ?_, by rw [v.len]; exact I.small⟩
  · rcases v.at_ j with e | ⟨n, lv', ps, e1, e2, e3⟩
    · rw [e] at ej
      obtain ⟨d, us, q1, q2, l⟩ := I.rep j p lv ej
      have hj : j < ρ.length := (List.getElem?_eq_some_iff.mp ej).1
      have hs : ρ.length ≤ 1000000 := I.small
      have nj : ∀ x, ow x = some j → (if ow x = some STO then none else ow x) = some j := fun x hx => by
        rw [if_neg, hx]
        rw [hx]
        intro w
        have : j = 1000001 := Option.some.inj w
        omega
      have nn : ∀ x, ow x = none → (if ow x = some STO then none else ow x) = none := fun x hx => by
        rw [if_neg, hx]
        rw [hx]
        intro w; cases w
      refine ⟨d, us, q1, q2, fun w => ⟨(l.1 w).1, fun r hr => nj r ((l.1 w).2 r hr)⟩, fun w => ?_, fun w1 w2 r hr => nn r (l.2.2 w1 w2 r hr)⟩
      obtain ⟨n, ws, rfl, a, b⟩ := l.2.1 w
      exact ⟨n, ws, rfl, nj n a, fun r hr => nn r (b r hr)⟩
    · rw [e3] at ej
      cases ej
      obtain ⟨d, us, q1, q2, _⟩ := I.rep j _ _ e1
      obtain ⟨rfl, _⟩ := rp_raw.mp q2
      obtain ⟨o, ds, hn, q⟩ := S n ps e2
      refine ⟨.ref n, [n], q1, rp_lst.mpr ⟨n, ds, [], rfl, hn, q, rfl⟩, (by intro w; cases w), (by intro w; cases w), fun _ _ r hr => ?_⟩
      rw [List.mem_singleton] at hr
      subst hr
      exact if_pos o
  · have er : (if ow r = some STO then none else ow r) = some j := er
    split at er
    · cases er
    · exact I.own r j er
theorem ez_v (hF : FSnd F FP) {ρv : Rho} (v : View ρ μ ρv) {e : CE} {Q : P → Prop} (k : Tn (evP FP e ρv) fun v => v.p.scal = true ∧ Q v.p) : Ez T F e ρ μ Q := fun h σ ow I S =>
  ez_p (μ := fun _ => none) hF k h σ _ (v.inv I S) (fun n ps e => by cases e)
theorem cz_v (hF : FSnd F FP) {ρv : Rho} (v : View ρ μ ρv) {c : CT} {Q : Bool → Prop} (k : Tn (evPT FP c ρv) Q) : Cz T F c ρ μ Q := fun h σ ow I S =>
  cz_p (μ := fun _ => none) hF k h σ _ (v.inv I S) (fun n ps e => by cases e)
/-- an expression that may write to the store; its value has no places -/
def Em (T : Tab) (F : Nat → List D → M D) (e : CE) (ρ : Rho) (μ : Mu) (Q : P → Mu → Prop) : Prop := ∀ h σ ow, Inv h σ ρ ow → Sto μ h ow → Rn (evE T F e σ h) fun d h' => ∃ p μ' ow', Q p μ' ∧ p.scal = true ∧ Rp h' p d [] ∧ Inv h' σ ρ ow' ∧ Sto μ' h' ow' ∧ Zo μ h ow h' ow' ∧ Mu.le h.length μ μ'
theorem em_ez {e : CE} {Q : P → Mu → Prop} (k : Ez T F e ρ μ fun p => Q p μ) : Em T F e ρ μ Q := fun h σ ow I S =>
  (k h σ ow I S).mono fun d h' ⟨p, hq, hs, q, f⟩ => ⟨p, μ, ow, hq, hs, q, I.fr f, S.fo (.of f), .of (.of f), .refl⟩
/-- the last of a raw list is taken away -/
theorem em_pop {i n lv : Nat} {ps : List P} {y : P} {Q : P → Mu → Prop} (ei : ρ[i]? = some (some (.raw n, lv))) (en : μ n = some (ps ++ [y])) (hy : y.scal = true) (k : Q y (μ.upd n ps)) : Em T F (.bmt .pop (.var i) .nil) ρ μ Q := fun h σ ow I S => by
  obtain ⟨d0, us0, e0, q0, _⟩ := I.rep i _ _ ei
  obtain ⟨rfl, _⟩ := rp_raw.mp q0
  obtain ⟨o, ds, hn, q⟩ := S n _ en
  rw [rn_bmt, rn_var, e0]
  show Rn (tyM .pop (.ref n) h) _
  have e1 : tyM .pop (.ref n) h = .ok () h := by unfold tyM; dsimp only; rw [hn]
  rw [e1, rn_ok, rn_nil]
  have hlt := (List.getElem?_eq_some_iff.mp hn).1
  have hl : ds.length = ps.length + 1 := by rw [q.len]; simp
  obtain ⟨d, vs, g1, g2, g3⟩ := q.get (i := ps.length) (p := y) (by simp)
  have hv : vs = [] := List.sublist_nil.mp g3
  subst hv
  obtain ⟨ws, t1, t2⟩ := q.take ps.length
  have hw : ws = [] := List.sublist_nil.mp t2
  subst hw
  rw [List.take_left] at t1
  have e2 : bmtE .pop (.ref n) [] h = .ok d (h.set n (.lst ds.dropLast)) := by
    show (bnd (lft (lst? h (.ref n))) fun p => bnd (lft p.2[p.2.length - 1]?) fun y => bnd (put p.1 (.lst p.2.dropLast)) fun _ => ret y) h = _
    unfold lst?
    dsimp only
    rw [hn]
    dsimp only
    have z : decide (n < h.length) = true := decide_eq_true hlt
    have g : ds[ds.length - 1]? = some d := by rw [hl]; exact g1
    simp only [bnd, lft, must, put, ret, z, Rs.bnd, g]
  rw [e2, rn_ok]
  have hd : ds.dropLast = ds.take ps.length := by rw [List.dropLast_eq_take, hl]; rfl
  rw [hd]
  refine ⟨y, _, ow, k, hy, (g2.scal hy).2 _, I.alien o, S.upd o hlt t1, ⟨by simp, fun r hr hm _ => ⟨?_, rfl⟩⟩, .upd en⟩
  have : n ≠ r := fun z => by subst z; rw [en] at hm; cases hm
  rw [List.getElem?_set_ne this]
/-- a value without places is kept -/
theorem zn_set {t : Tg} {e : CE} {Q : P → Mu → Prop} {N : Rho → Mu → Prop} {R : P → Mu → Prop} (k : Em T F e ρ μ Q) (ka : ∀ p μ', Q p μ' → p.scal = true → Tn (asgP t p 0 ρ) fun ρ' => N ρ' μ') : Zn (evS T F (.set t e)) ρ μ N R := fun h σ ow I S => by
  rw [sn_set]
  refine (k h σ ow I S).mono fun d h' ⟨p, μ', ow', hq, hs, q, I', S', z, l⟩ => ?_
  obtain ⟨ρ', e1, n⟩ := (ka p μ' hq hs).h
  obtain ⟨σ', a1, I2⟩ := asg0 e1 I' q (by simp)
  rw [a1, rn_some]
  exact ⟨ρ', μ', ow', n, I2, S', z, l⟩
/-- the value of an expression is not kept -/
theorem zn_ex {e : CE} {Q : P → Mu → Prop} {N : Rho → Mu → Prop} {R : P → Mu → Prop} (k : Em T F e ρ μ Q) (kn : ∀ p μ', Q p μ' → N ρ μ') : Zn (evS T F (.ex e)) ρ μ N R := fun h σ ow I S => by
  rw [sn_ex]
  exact (k h σ ow I S).mono fun d h' ⟨p, μ', ow', hq, hs, q, I', S', z, l⟩ => ⟨ρ, μ', ow', kn p μ' hq, I', S', z, l⟩
/-- the store's lists, no word of owners -/
def StoH (μ : Mu) (h : Hd) : Prop := ∀ n ps, μ n = some ps → ∃ ds, h[n]? = some (.lst ds) ∧ Rps h ps ds []
theorem Sto.h {h : Hd} {ow : Ow} (S : Sto μ h ow) : StoH μ h := fun n ps e => (S n ps e).2
/-- a def, called with values without places: it may write to the store -/
def Zf (F : Nat → List D → M D) (f : Nat) (ps : List P) (μ : Mu) (R : P → Mu → Prop) : Prop := ∀ h ds us, Rps h ps ds us → (∀ r ∈ us, μ r = none) → StoH μ h → Rn (F f ds h) fun d h' => ∃ p μ', R p μ' ∧ p.scal = true ∧ Rp h' p d [] ∧ StoH μ' h' ∧ h.length ≤ h'.length ∧ (∀ r, r < h.length → μ r = none → h'[r]? = h[r]?) ∧ Mu.le h.length μ μ'
theorem zf_of {n f : Nat} {d : CDef} {ps : List P} {R : P → Mu → Prop} (hf : T.fn f = some d) (hl : ps.length = d.ps) (h1 : d.sl ≤ BIG) (h2 : d.ps ≤ d.sl)
    (k : Zn (evSs T (callD T n) d.body) ((ps.map fun p => some (nrm p 0)) ++ List.replicate (d.sl - d.ps) none) μ (fun _ μ' => R .non μ') fun p μ' => p.scal = true ∧ R p μ') : Zf (callD T (n + 1)) f ps μ R := fun h ds us0 q hus S => by
  refine callD_succ hf (q.len.trans hl) ?_
  let ow : Ow := fun r => if r < h.length then (if (μ r).isSome then some STO else if r ∈ us0 then none else some BIG) else none
  have lt : ∀ {r ps}, μ r = some ps → r < h.length := fun {r ps} e => by
    obtain ⟨ds, hn, _⟩ := S r ps e
    exact (List.getElem?_eq_some_iff.mp hn).1
  have I : Inv h (ds.map some ++ List.replicate (d.sl - d.ps) none) ((ps.map fun p => some (nrm p 0)) ++ List.replicate (d.sl - d.ps) none) ow := by
    refine ⟨by simp [q.len], fun i p lv e => ?_, fun x i e => ?_, by simp [hl]; omega⟩
    · have hi : i < ps.length := by
        by_cases z : i < ps.length
        · exact z
        · rw [List.getElem?_append_right (by simpa using z), List.getElem?_replicate] at e
          split at e <;> cases e
      rw [List.getElem?_append_left (by simpa using hi), List.getElem?_map] at e
      obtain ⟨p', e3, e4⟩ := Option.map_eq_some_iff.mp e
      obtain ⟨dd, vs, e5, e6, e7⟩ := q.get e3
      have e4 : nrm p' 0 = (p, lv) := Option.some.inj e4
      have own0 : ∀ r ∈ vs, ow r = none := fun r hr => by
        have hr := e7.subset hr
        show (if r < h.length then (if (μ r).isSome then some STO else if r ∈ us0 then none else some BIG) else none) = none
        rw [if_pos (q.lt r hr), hus r hr, if_neg (by simp), if_pos hr]
      have e4p : p' = p ∧ (p'.scal = true ∧ lv = 2 ∨ lv = 0) := by
        unfold nrm at e4
        cases hsc : p'.scal with
        | true => rw [hsc] at e4; cases e4; exact ⟨rfl, .inl ⟨rfl, rfl⟩⟩
        | false => rw [hsc] at e4; cases e4; exact ⟨rfl, .inr rfl⟩
      obtain ⟨rfl, e4p⟩ := e4p
      have l0 : Lv ow i lv vs := by
        rcases e4p with ⟨hsc, rfl⟩ | rfl
        · obtain ⟨rfl, _⟩ := e6.scal hsc
          exact ⟨fun _ => by simp, (by intro w; cases w), by simp⟩
        · exact ⟨(by intro w; cases w), (by intro w; cases w), fun _ _ => own0⟩
      refine ⟨dd, vs, ?_, e6, l0⟩
      rw [List.getElem?_append_left (by rw [List.length_map, q.len]; exact hi), List.getElem?_map, e5]
      rfl
    · show x < _
      have e : (if x < h.length then (if (μ x).isSome then some STO else if x ∈ us0 then none else some BIG) else none) = some i := e
      by_cases z : x < h.length
      · exact z
      · rw [if_neg z] at e; cases e
  have S0 : Sto μ h ow := fun m qs e => ⟨by
    show (if m < h.length then (if (μ m).isSome then some STO else if m ∈ us0 then none else some BIG) else none) = some STO
    rw [if_pos (lt e), e]; rfl, S m qs e⟩
  have fr : ∀ {h' : Hd} {ow' : Ow}, Zo μ h ow h' ow' → ∀ r, r < h.length → μ r = none → h'[r]? = h[r]? := fun {h' ow'} z r hr hm => (z.st r hr hm fun i hi => by
    have hi : (if r < h.length then (if (μ r).isSome then some STO else if r ∈ us0 then none else some BIG) else none) = some i := hi
    rw [if_pos hr, hm, if_neg (by simp)] at hi
    split at hi
    · cases hi
    · cases hi
      exact Nat.le_refl _).1
  refine Sn.mono (k h _ ow I S0) (fun σ' h' ⟨ρ', μ', ow', n, _, S', z, l⟩ => ?_) (fun v h' ⟨p, μ', ow', ws, ⟨p1, p2⟩, q', _, _, S', z, l⟩ => ?_) (fun _ _ z => z) fun _ _ z => z
  · exact ⟨.non, μ', n, rfl, rp_non.mpr ⟨rfl, rfl⟩, S'.h, z.le, fr z, l⟩
  · exact ⟨p, μ', p2, p1, (q'.scal p1).2 _, S'.h, z.le, fr z, l⟩
theorem em_call (hF : FSnd F FP) {ρv : Rho} (v : View ρ μ ρv) {f : Nat} {es : CEs} {Q : P → Mu → Prop} (k : Tn (evPs FP es ρv) fun v => P.scals v.ps = true ∧ Zf F f v.ps μ Q) : Em T F (.call f es) ρ μ Q := fun h σ ow I S => by
  obtain ⟨w, e1, hs, k⟩ := k.h
  rw [rn_call]
  refine (evPs_ok hF es (v.inv I S) e1).mono fun ds h1 ⟨f1, us1, r1, _⟩ => ?_
  obtain ⟨rfl, _⟩ := r1.scal hs
  have S1 := S.fo (.of f1)
  refine (k h1 ds [] r1 (fun r hr => by cases hr) S1.h).mono fun d h2 ⟨p, μ', hq, hp, q2, S2, le2, fr2, l2⟩ => ?_
  have I1 := I.fr f1
  have hb : ρ.length ≤ 1000000 := I.small
  have ml : ∀ m qs, μ m = some qs → ow m = some STO := fun m qs e => (S m qs e).1
  -- who is in the store, as it was or new
  have old : ∀ r, r < h1.length → (μ' r).isSome = (μ r).isSome := l2
  let ow' : Ow := fun r => if (μ' r).isSome then some STO else ow r
  have keep : ∀ r, r < h1.length → ow' r = ow r := fun r hr => by
    show (if (μ' r).isSome then some STO else ow r) = ow r
    rw [old r hr]
    cases e : μ r with
    | none => rfl
    | some qs => rw [ml r qs e]; rfl
  have same : ∀ r, r < h1.length → ow r ≠ some STO → h2[r]? = h1[r]? := fun r hr hn => fr2 r hr (by
    cases e : μ r with
    | none => rfl
    | some qs => exact (hn (ml r qs e)).elim)
  have nos : ∀ r j, j < ρ.length → ow r = some j → ow r ≠ some STO := fun r j hj e w => by
    rw [e] at w
    have : j = 1000001 := Option.some.inj w
    omega
  refine ⟨p, μ', ow', hq, hp, q2, ⟨I1.len, fun j r lv ej => ?_, fun x j ex => ?_, I.small⟩, fun m qs e => ⟨if_pos (by rw [e]; rfl), S2 m qs e⟩, ⟨Nat.le_trans f1.1 le2, fun r hr hm _ => ?_⟩, ?_⟩
  · obtain ⟨dd, us, g1, g2, l⟩ := I1.rep j r lv ej
    have hj : j < ρ.length := (List.getElem?_eq_some_iff.mp ej).1
    have hu : ∀ x ∈ us, ow x ≠ some STO := fun x hx => by
      by_cases a : lv = 2
      · exact nos x j hj ((l.1 a).2 x hx)
      · by_cases b : lv = 1
        · obtain ⟨n, ws, rfl, w1, w2⟩ := l.2.1 b
          rcases List.mem_cons.mp hx with rfl | hx
          · exact nos _ j hj w1
          · rw [w2 x hx]; intro w; cases w
        · rw [l.2.2 a b x hx]; intro w; cases w
    have kp : ∀ x ∈ us, ow' x = ow x := fun x hx => keep x (g2.lt x hx)
    refine ⟨dd, us, g1, g2.fr fun x hx => same x (g2.lt x hx) (hu x hx), fun a => ⟨(l.1 a).1, fun x hx => (kp x hx).trans ((l.1 a).2 x hx)⟩, fun a => ?_, fun a b x hx => (kp x hx).trans (l.2.2 a b x hx)⟩
    obtain ⟨n, ws, rfl, w1, w2⟩ := l.2.1 a
    exact ⟨n, ws, rfl, (kp n (by simp)).trans w1, fun x hx => (kp x (by simp [hx])).trans (w2 x hx)⟩
  · show x < _
    have ex : (if (μ' x).isSome then some STO else ow x) = some j := ex
    split at ex
    · rename_i z
      cases e : μ' x with
      | none => rw [e] at z; cases z
      | some qs =>
        obtain ⟨ds, hn, _⟩ := S2 x qs e
        exact (List.getElem?_eq_some_iff.mp hn).1
    · exact Nat.lt_of_lt_of_le (I1.own x j ex) le2
  · have hr1 := Nat.lt_of_lt_of_le hr f1.1
    exact ⟨(fr2 r hr1 hm).trans (f1.2 r hr), keep r hr1⟩
  · exact fun m hm => l2 m (Nat.lt_of_lt_of_le hm f1.1)
/-- the same; lists may be told to it, to be read -/
theorem em_call0 (hF : FSnd F FP) {f : Nat} {es : CEs} {Q : P → Mu → Prop} (k : Tn (evPs FP es ρ) fun v => Zf F f v.ps μ Q) : Em T F (.call f es) ρ μ Q := fun h σ ow I S => by
  obtain ⟨w, e1, k⟩ := k.h
  rw [rn_call]
  refine (evPs_ok hF es I e1).mono fun ds h1 ⟨f1, us1, r1, tv⟩ => ?_
  have hus : ∀ r ∈ us1, μ r = none := fun r hr => by
    cases e : μ r with
    | none => rfl
    | some qs =>
      have a := (S r qs e).1
      have b := S.lt e
      rcases tv.ok r hr with k | k | ⟨i, _, k, k2⟩
      · omega
      · rw [k] at a; cases a
      · rw [k2] at a
        have a : i = 1000001 := Option.some.inj a
        have k : i < 1000000 := k
        omega
  have S1 := S.fo (.of f1)
  refine (k h1 ds us1 r1 hus S1.h).mono fun d h2 ⟨p, μ', hq, hp, q2, S2, le2, fr2, l2⟩ => ?_
  have I1 := I.fr f1
  have hb : ρ.length ≤ 1000000 := I.small
  have ml : ∀ m qs, μ m = some qs → ow m = some STO := fun m qs e => (S m qs e).1
  -- who is in the store, as it was or new
  have old : ∀ r, r < h1.length → (μ' r).isSome = (μ r).isSome := l2
  let ow' : Ow := fun r => if (μ' r).isSome then some STO else ow r
  have keep : ∀ r, r < h1.length → ow' r = ow r := fun r hr => by
    show (if (μ' r).isSome then some STO else ow r) = ow r
    rw [old r hr]
    cases e : μ r with
    | none => rfl
    | some qs => rw [ml r qs e]; rfl
  have same : ∀ r, r < h1.length → ow r ≠ some STO → h2[r]? = h1[r]? := fun r hr hn => fr2 r hr (by
    cases e : μ r with
    | none => rfl
    | some qs => exact (hn (ml r qs e)).elim)
  have nos : ∀ r j, j < ρ.length → ow r = some j → ow r ≠ some STO := fun r j hj e w => by
    rw [e] at w
    have : j = 1000001 := Option.some.inj w
    omega
  refine ⟨p, μ', ow', hq, hp, q2, ⟨I1.len, fun j r lv ej => ?_, fun x j ex => ?_, I.small⟩, fun m qs e => ⟨if_pos (by rw [e]; rfl), S2 m qs e⟩, ⟨Nat.le_trans f1.1 le2, fun r hr hm _ => ?_⟩, ?_⟩
  · obtain ⟨dd, us, g1, g2, l⟩ := I1.rep j r lv ej
    have hj : j < ρ.length := (List.getElem?_eq_some_iff.mp ej).1
    have hu : ∀ x ∈ us, ow x ≠ some STO := fun x hx => by
      by_cases a : lv = 2
      · exact nos x j hj ((l.1 a).2 x hx)
      · by_cases b : lv = 1
        · obtain ⟨n, ws, rfl, w1, w2⟩ := l.2.1 b
          rcases List.mem_cons.mp hx with rfl | hx
          · exact nos _ j hj w1
          · rw [w2 x hx]; intro w; cases w
        · rw [l.2.2 a b x hx]; intro w; cases w
    have kp : ∀ x ∈ us, ow' x = ow x := fun x hx => keep x (g2.lt x hx)
    refine ⟨dd, us, g1, g2.fr fun x hx => same x (g2.lt x hx) (hu x hx), fun a => ⟨(l.1 a).1, fun x hx => (kp x hx).trans ((l.1 a).2 x hx)⟩, fun a => ?_, fun a b x hx => (kp x hx).trans (l.2.2 a b x hx)⟩
    obtain ⟨n, ws, rfl, w1, w2⟩ := l.2.1 a
    exact ⟨n, ws, rfl, (kp n (by simp)).trans w1, fun x hx => (kp x (by simp [hx])).trans (w2 x hx)⟩
  · show x < _
    have ex : (if (μ' x).isSome then some STO else ow x) = some j := ex
    split at ex
    · rename_i z
      cases e : μ' x with
      | none => rw [e] at z; cases z
      | some qs =>
        obtain ⟨ds, hn, _⟩ := S2 x qs e
        exact (List.getElem?_eq_some_iff.mp hn).1
    · exact Nat.lt_of_lt_of_le (I1.own x j ex) le2
  · have hr1 := Nat.lt_of_lt_of_le hr f1.1
    exact ⟨(fr2 r hr1 hm).trans (f1.2 r hr), keep r hr1⟩
  · exact fun m hm => l2 m (Nat.lt_of_lt_of_le hm f1.1)
theorem for_z {t : Tg} {b : CSs} {J : List P → Rho → Mu → Prop} {R : P → Mu → Prop} (step : ∀ p ps ρ μ, J (p :: ps) ρ μ → Tn (asgP t p 0 ρ) fun ρ' => Zn (evSs T F b) ρ' μ (J ps) R) : ∀ (ps : List P) (ds : List D) (gs : Gd) (ρ : Rho) (μ : Mu) (h : Hd) (σ : St) (ow : Ow), J ps ρ μ → Rps h ps ds [] → Inv h σ ρ ow → Sto μ h ow → (∀ q ∈ gs, h[q.1]? = some q.2 ∧ ow q.1 = none) → Sn (forL gs (bodyF T F t b) ds σ h) (ZN (fun ρ' μ' => J [] ρ' μ') μ h ow) (ZR R μ h ow) (fun _ _ => False) (fun _ _ => False)
  | [], ds, gs, ρ, μ, h, σ, ow, j, q, I, S, g => by
    rw [Rps] at q
    obtain ⟨rfl, _⟩ := q
    unfold forL
    rw [gd_of fun q hq => (g q hq).1]
    exact ⟨ρ, μ, ow, j, I, S, .refl, .refl⟩
  | p :: ps, ds, gs, ρ, μ, h, σ, ow, j, q, I, S, g => by
    rw [Rps] at q
    obtain ⟨d, es, vs, ws, rfl, e, qa, qb⟩ := q
    obtain ⟨rfl, rfl⟩ := List.nil_eq_append_iff.mp e
    obtain ⟨ρ1, a1, k⟩ := (step p ps ρ μ j).h
    obtain ⟨σ1, a2, I1⟩ := asg0 a1 I qa (by simp)
    unfold forL
    rw [gd_of fun q hq => (g q hq).1]
    dsimp only
    have eb : bodyF T F t b d σ h = evSs T F b σ1 h := by
      unfold bodyF
      rw [a2]
    rw [eb]
    have z := k h σ1 ow I1 S
    cases er : evSs T F b σ1 h with
    | nx σ' h' =>
      rw [er] at z
      obtain ⟨ρ', μ', ow', jn, I', S', zo, l⟩ := z
      dsimp only
      refine Sn.mono (for_z step ps es gs ρ' μ' h' σ' ow' jn (qb.fr fun r hr => by cases hr) I' S' fun q hq => ?_) (fun σ2 h2 k2 => k2.back zo l) (fun d h2 k2 => ?_) (fun _ _ z => z) fun _ _ z => z
      · obtain ⟨g1, g2⟩ := g q hq
        have hlt := (List.getElem?_eq_some_iff.mp g1).1
        have hm : μ q.1 = none := by
          cases e : μ q.1 with
          | none => rfl
          | some qs => have := (S q.1 qs e).1; rw [g2] at this; cases this
        obtain ⟨y1, y2⟩ := zo.st q.1 hlt hm fun i hi => by rw [g2] at hi; cases hi
        exact ⟨y1.trans g1, y2.trans g2⟩
      · obtain ⟨p, μ2, ow2, ws, a, b, c, e, f', g, i⟩ := k2
        exact ⟨p, μ2, ow2, ws, a, b, c, fun x hx => ⟨(e x hx).1.zback S' zo l, (e x hx).2⟩, f', zo.trans l g, l.trans i zo.le⟩
    | rt v h' => rw [er] at z; exact z
    | ct _ _ => rw [er] at z; exact z.elim
    | bk _ _ => rw [er] at z; exact z.elim
    | er _ _ _ => rw [er] at z; exact z.elim
    | no => rw [er] at z; exact z.elim
/-- a for over items without places -/
theorem zn_for (hF : FSnd F FP) {t : Tg} {w : Wk} {b : CSs} {N : Rho → Mu → Prop} {R : P → Mu → Prop} (J : List P → Rho → Mu → Prop) (k : Tn (evPI FP w ρ) fun v => P.scals v.ps = true ∧ J v.ps (drp v.lk ρ) μ)
    (step : ∀ p ps ρ μ, J (p :: ps) ρ μ → Tn (asgP t p 0 ρ) fun ρ' => Zn (evSs T F b) ρ' μ (J ps) R) (hn : ∀ ρ' μ', J [] ρ' μ' → N ρ' μ') : Zn (evS T F (.for_ t w b)) ρ μ N R := fun h σ ow I S => by
  obtain ⟨v, e1, hs, j⟩ := k.h
  rw [sn_for]
  refine (evPI_ok hF w I e1).mono fun p h1 ⟨f, ⟨us, q, k⟩, g⟩ => ?_
  obtain ⟨rfl, _⟩ := q.scal hs
  have clean : ∀ {r}, Ok h.length ow v.lk r → dow v.lk ow r = none := fun {r} k => by
    rcases k with k | k | k
    · cases z : dow v.lk ow r with
      | none => rfl
      | some i => have := (I.own r i (dow_some.mp z).1).lt; omega
    · exact dow_none.mpr (.inl k)
    · exact dow_none.mpr (.inr k)
  have fo : Fo h ow h1 (dow v.lk ow) := Fo.trans (.of f) .drp
  refine Sn.mono (for_z step v.ps p.1 p.2 _ μ h1 σ _ j q ((I.fr f).drp v.lk) (S.fo fo) fun q hq => ⟨(g q hq).1, clean (g q hq).2⟩) (fun σ2 h2 k2 => ?_) (fun d h2 k2 => ?_) (fun _ _ z => z) fun _ _ z => z
  · obtain ⟨a, b, c, d, e⟩ := k2.back (.of fo) .refl
    exact ⟨a, b, c, hn a b d, e⟩
  · obtain ⟨p, μ2, ow2, ws, a, b, c, e, f', g, i⟩ := k2
    exact ⟨p, μ2, ow2, ws, a, b, c, fun x hx => ⟨(e x hx).1.zback (S.fo fo) (.of fo) .refl, (e x hx).2⟩, f', Zo.trans (.of fo) .refl g, Mu.le.trans .refl i fo.le⟩
theorem ZR.back {R : P → Mu → Prop} {μ1 : Mu} {h h1 h' : Hd} {ow ow1 : Ow} {d : D} (S1 : Sto μ1 h1 ow1) (a : Zo μ h ow h1 ow1) (l : Mu.le h.length μ μ1) (k : ZR R μ1 h1 ow1 d h') : ZR R μ h ow d h' := by
  obtain ⟨p, μ2, ow2, ws, x, b, c, e, f', g, i⟩ := k
  exact ⟨p, μ2, ow2, ws, x, b, c, fun x hx => ⟨(e x hx).1.zback S1 a l, (e x hx).2⟩, f', a.trans l g, l.trans i a.le⟩
/-- a while: J m says what stands before a turn, m falls -/
theorem zn_whl (hT : T.wh = whl) {c : CT} {b : CSs} {N : Rho → Mu → Prop} {R : P → Mu → Prop} (J : Nat → Rho → Mu → Prop) (n : Nat) (j : J n ρ μ)
    (step : ∀ m ρ μ, J m ρ μ → Cz T F c ρ μ fun k => (k = true → Zn (evSs T F b) ρ μ (fun ρ' μ' => ∃ m', m' < m ∧ J m' ρ' μ') R) ∧ (k = false → N ρ μ)) : Zn (evS T F (.whl c b)) ρ μ N R := fun h σ ow I S => by
  rw [sn_whl, hT]
  refine whl_inv (fun m σ' h' => ∃ ρ' μ' ow', J m ρ' μ' ∧ Inv h' σ' ρ' ow' ∧ Sto μ' h' ow' ∧ Zo μ h ow h' ow' ∧ Mu.le h.length μ μ') n ⟨ρ, μ, ow, j, I, S, .refl, .refl⟩ ?_
  rintro m σ1 h1 ⟨ρ1, μ1, ow1, j1, I1, S1, z1, l1⟩
  refine (step m ρ1 μ1 j1 h1 σ1 ow1 I1 S1).mono fun k h2 ⟨⟨kt, kf⟩, f⟩ => ?_
  have z2 : Zo μ h ow h2 ow1 := z1.trans l1 (.of (.of f))
  have S2 := S1.fo (.of f)
  cases k with
  | false =>
    rw [if_neg (by decide)]
    exact ⟨ρ1, μ1, ow1, kf rfl, I1.fr f, S2, z2, l1⟩
  | true =>
    rw [if_pos rfl]
    refine Sn.mono (kt rfl h2 σ1 ow1 (I1.fr f) S2) (fun σ3 h3 ⟨ρ3, μ3, ow3, ⟨m', hm, j3⟩, I3, S3, z3, l3⟩ => ?_) (fun d h3 k3 => ?_) (fun _ _ z => z.elim) fun _ _ z => z.elim
    · exact ⟨m', hm, ρ3, μ3, ow3, j3, I3, S3, z2.trans l1 z3, l1.trans l3 z2.le⟩
    · exact k3.back S2 z2 l1
end
mutual
/-- p, as the store has it by r: its lists at the places us -/
def Tr (μ : Mu) : P → P → List Nat → Prop
  | .lst ps, r, us => ∃ n rs ws, r = .raw n ∧ μ n = some rs ∧ Trs μ ps rs ws ∧ us = n :: ws
  | .tup ps, r, us => ∃ rs, r = .tup rs ∧ Trs μ ps rs us
  | .non, r, us => r = .non ∧ us = []
  | .bl b, r, us => r = .bl b ∧ us = []
  | .int b, r, us => r = .int b ∧ us = []
  | .str b, r, us => r = .str b ∧ us = []
  | .scr _, _, _ => False
  | .dct _ _, _, _ => False
  | .raw _, _, _ => False
def Trs (μ : Mu) : List P → List P → List Nat → Prop
  | [], rs, us => rs = [] ∧ us = []
  | p :: ps, rs, us => ∃ r qs vs ws, rs = r :: qs ∧ us = vs ++ ws ∧ Tr μ p r vs ∧ Trs μ ps qs ws
end
mutual
theorem tr_rp {μ : Mu} {h : Hd} (S : StoH μ h) : ∀ {p r : P} {us : List Nat} {d : D}, Tr μ p r us → Rp h r d [] → Rp h p d us
  | .lst ps, r, us, d, t, q => by
    rw [Tr] at t
    obtain ⟨n, rs, ws, rfl, e, ts, rfl⟩ := t
    obtain ⟨rfl, _⟩ := rp_raw.mp q
    obtain ⟨ds, hn, qs⟩ := S n rs e
    exact rp_lst.mpr ⟨n, ds, ws, rfl, hn, trs_rp S ts qs, rfl⟩
  | .tup ps, r, us, d, t, q => by
    rw [Tr] at t
    obtain ⟨rs, rfl, ts⟩ := t
    obtain ⟨ds, rfl, qs⟩ := rp_tup.mp q
    exact rp_tup.mpr ⟨ds, rfl, trs_rp S ts qs⟩
  | .non, r, us, d, t, q => by rw [Tr] at t; obtain ⟨rfl, rfl⟩ := t; exact q
  | .bl _, r, us, d, t, q => by rw [Tr] at t; obtain ⟨rfl, rfl⟩ := t; exact q
  | .int _, r, us, d, t, q => by rw [Tr] at t; obtain ⟨rfl, rfl⟩ := t; exact q
  | .str _, r, us, d, t, q => by rw [Tr] at t; obtain ⟨rfl, rfl⟩ := t; exact q
  | .scr _, r, us, d, t, q => by rw [Tr] at t; exact t.elim
  | .dct _ _, r, us, d, t, q => by rw [Tr] at t; exact t.elim
  | .raw _, r, us, d, t, q => by rw [Tr] at t; exact t.elim
theorem trs_rp {μ : Mu} {h : Hd} (S : StoH μ h) : ∀ {ps rs : List P} {us : List Nat} {ds : List D}, Trs μ ps rs us → Rps h rs ds [] → Rps h ps ds us
  | [], rs, us, ds, t, q => by rw [Trs] at t; obtain ⟨rfl, rfl⟩ := t; exact q
  | p :: ps, rs, us, ds, t, q => by
    rw [Trs] at t
    obtain ⟨r, qs, vs, ws, rfl, rfl, t1, t2⟩ := t
    rw [Rps] at q
    obtain ⟨d, es, v2, w2, rfl, e, q1, q2⟩ := q
    obtain ⟨rfl, rfl⟩ := List.nil_eq_append_iff.mp e
    rw [Rps]
    exact ⟨d, es, vs, ws, rfl, rfl, tr_rp S t1 q1, trs_rp S t2 q2⟩
end
mutual
theorem tr_mem {μ : Mu} : ∀ {p r : P} {us : List Nat}, Tr μ p r us → ∀ x ∈ us, (μ x).isSome = true
  | .lst ps, r, us, t, x, hx => by
    rw [Tr] at t
    obtain ⟨n, rs, ws, rfl, e, ts, rfl⟩ := t
    rcases List.mem_cons.mp hx with rfl | hx
    · rw [e]; rfl
    · exact trs_mem ts x hx
  | .tup ps, r, us, t, x, hx => by
    rw [Tr] at t
    obtain ⟨rs, rfl, ts⟩ := t
    exact trs_mem ts x hx
  | .non, r, us, t, x, hx => by rw [Tr] at t; rw [t.2] at hx; cases hx
  | .bl _, r, us, t, x, hx => by rw [Tr] at t; rw [t.2] at hx; cases hx
  | .int _, r, us, t, x, hx => by rw [Tr] at t; rw [t.2] at hx; cases hx
  | .str _, r, us, t, x, hx => by rw [Tr] at t; rw [t.2] at hx; cases hx
  | .scr _, r, us, t, x, hx => by rw [Tr] at t; exact t.elim
  | .dct _ _, r, us, t, x, hx => by rw [Tr] at t; exact t.elim
  | .raw _, r, us, t, x, hx => by rw [Tr] at t; exact t.elim
theorem trs_mem {μ : Mu} : ∀ {ps rs : List P} {us : List Nat}, Trs μ ps rs us → ∀ x ∈ us, (μ x).isSome = true
  | [], rs, us, t, x, hx => by rw [Trs] at t; rw [t.2] at hx; cases hx
  | p :: ps, rs, us, t, x, hx => by
    rw [Trs] at t
    obtain ⟨r, qs, vs, ws, rfl, rfl, t1, t2⟩ := t
    rcases List.mem_append.mp hx with hx | hx
    · exact tr_mem t1 x hx
    · exact trs_mem t2 x hx
end
section
variable {T : Tab} {F : Nat → List D → M D} {FP : Nat → List P → Option (P × Nat)} {ρ : Rho}
/-- a def's two results, each whole and one's own -/
theorem ds_two (hF : FSnd F FP) {t : CSs} {a b f : Nat} {es : CEs} {r : CSs} (e : t = .cons (.set (.tp [.nm a, .nm b]) (.call f es)) r) (hab : a ≠ b) (ha : a < ρ.length) (hb : b < ρ.length)
    (k : Tn (evPs FP es ρ) fun v => Zf F f v.ps (fun _ => none) fun q μ' => ∃ p1 p2 us, Tr μ' (.tup [p1, p2]) q us ∧ us.Nodup ∧ Ds T F r ((ρ.set a (some (p1, 2))).set b (some (p2, 2)))) : Ds T F t ρ := fun h σ ow I => by
  subst e
  obtain ⟨v, e1, k⟩ := k.h
  rw [sn_cons, sn_set, rn_call]
  refine (evPs_ok hF es I e1).mono fun ds h1 ⟨f1, us1, r1, _⟩ => ?_
  refine (k h1 ds us1 r1 (fun _ _ => rfl) (fun n ps e => by cases e)).mono fun d h2 ⟨q, μ', ⟨p1, p2, us, tr, nd, kd⟩, hq, q2, S2, le2, fr2, l2⟩ => ?_
  have f2 : FrA h1 h2 := ⟨le2, fun x hx => fr2 x hx rfl⟩
  have f12 := f1.trans f2
  obtain ⟨ds2, rfl, q3⟩ := rp_tup.mp (tr_rp S2 tr q2)
  obtain ⟨d1, d2, vs, ws, rfl, rfl, qa, qb⟩ := two_ps q3
  have new : ∀ x ∈ vs ++ ws, h.length ≤ x := fun x hx => by
    have := tr_mem tr x hx
    refine Nat.le_trans f1.1 (Nat.le_of_not_lt fun z => ?_)
    rw [l2 x z] at this
    cases this
  have las : σ.length = ρ.length := I.len.symm
  have ea : asg (.tp [.nm a, .nm b]) (.tup [d1, d2]) σ = some ((σ.set a (some d1)).set b (some d2)) := by
    simp [asg, asgs, las, ha, hb]
  rw [ea, rn_some]
  have nab : ∀ x, x ∈ vs → x ∉ ws := fun x h1 h2 => (List.nodup_append.mp nd).2.2 x h1 x h2 rfl
  refine kd h2 _ (fun x => if x ∈ vs then some a else if x ∈ ws then some b else ow x) ⟨by simp [I.len], fun j p lv ej => ?_, fun x j ex => ?_, by simp only [List.length_set]; exact I.small⟩
  · by_cases zb : b = j
    · subst zb
      rw [List.getElem?_set_self (by simpa using hb)] at ej
      cases ej
      refine ⟨d2, ws, List.getElem?_set_self (by simpa [las] using hb), qb, fun _ => ⟨(List.nodup_append.mp nd).2.1, fun x hx => ?_⟩, (by intro w; cases w), (by intro w; exact (w rfl).elim)⟩
      show (if x ∈ vs then some a else if x ∈ ws then some b else ow x) = some b
      rw [if_neg fun z => nab x z hx, if_pos hx]
    · rw [List.getElem?_set_ne zb] at ej
      by_cases za : a = j
      · subst za
        rw [List.getElem?_set_self ha] at ej
        cases ej
        exact ⟨d1, vs, by rw [List.getElem?_set_ne zb, List.getElem?_set_self (by rw [las]; exact ha)], qa, fun _ => ⟨(List.nodup_append.mp nd).1, fun x hx => if_pos hx⟩, (by intro w; cases w), (by intro w; exact (w rfl).elim)⟩
      · rw [List.getElem?_set_ne za] at ej
        obtain ⟨d', us', e1', q', l⟩ := I.rep j p lv ej
        have same : ∀ x ∈ us', (fun x => if x ∈ vs then some a else if x ∈ ws then some b else ow x) x = ow x := fun x hx => by
          have hlt := q'.lt x hx
          show (if x ∈ vs then some a else if x ∈ ws then some b else ow x) = ow x
          rw [if_neg fun y => (by have := new x (List.mem_append_left _ y); omega), if_neg fun y => (by have := new x (List.mem_append_right _ y); omega)]
        refine ⟨d', us', by rw [List.getElem?_set_ne zb, List.getElem?_set_ne za]; exact e1', q'.frA f12, fun a => ⟨(l.1 a).1, fun x hx => (same x hx).trans ((l.1 a).2 x hx)⟩, fun a => ?_, fun a b x hx => (same x hx).trans (l.2.2 a b x hx)⟩
        obtain ⟨n, wz, rfl, w1, w2⟩ := l.2.1 a
        exact ⟨n, wz, rfl, (same n (by simp)).trans w1, fun x hx => (same x (by simp [hx])).trans (w2 x hx)⟩
  · have ex : (if x ∈ vs then some a else if x ∈ ws then some b else ow x) = some j := ex
    split at ex
    · rename_i z; exact qa.lt x z
    · split at ex
      · rename_i z; exact qb.lt x z
      · exact (I.own x j ex).fr f12
end
/-- ρ with some slots told whole, by what the store has, to be read -/
structure Deep (ρ : Rho) (μ : Mu) (ρv : Rho) : Prop where
  len : ρv.length = ρ.length
  at_ : ∀ i : Nat, ρv[i]? = ρ[i]? ∨ ∃ r lv p us, ρ[i]? = some (some (r, lv)) ∧ Tr μ p r us ∧ r.scal = true ∧ ρv[i]? = some (some (nrm p 0))
section
variable {T : Tab} {F : Nat → List D → M D} {FP : Nat → List P → Option (P × Nat)} {ρ : Rho} {μ : Mu}
theorem Deep.inv {h : Hd} {σ : St} {ow : Ow} {ρv : Rho} (v : Deep ρ μ ρv) (I : Inv h σ ρ ow) (S : Sto μ h ow) : Inv h σ ρv (fun x => if ow x = some STO then none else ow x) := by
  refine ⟨v.len.trans I.len, fun j p lv ej => ?_, fun r j er => ?_, by rw [v.len]; exact I.small⟩
  · rcases v.at_ j with e | ⟨r0, lv', p', us, e1, e2, hr0, e3⟩
    · rw [e] at ej
      obtain ⟨d, us, q1, q2, l⟩ := I.rep j p lv ej
      have hj : j < ρ.length := (List.getElem?_eq_some_iff.mp ej).1
      have hs : ρ.length ≤ 1000000 := I.small
      have nj : ∀ x, ow x = some j → (if ow x = some STO then none else ow x) = some j := fun x hx => by
        rw [if_neg, hx]
        rw [hx]
        intro w
        have : j = 1000001 := Option.some.inj w
        omega
      have nn : ∀ x, ow x = none → (if ow x = some STO then none else ow x) = none := fun x hx => by
        rw [if_neg, hx]
        rw [hx]
        intro w; cases w
      refine ⟨d, us, q1, q2, fun w => ⟨(l.1 w).1, fun r hr => nj r ((l.1 w).2 r hr)⟩, fun w => ?_, fun w1 w2 r hr => nn r (l.2.2 w1 w2 r hr)⟩
      obtain ⟨n, ws, rfl, a, b⟩ := l.2.1 w
      exact ⟨n, ws, rfl, nj n a, fun r hr => nn r (b r hr)⟩
    · rw [e3] at ej
      have ej : nrm p' 0 = (p, lv) := Option.some.inj (Option.some.inj ej)
      obtain ⟨d, us0, q1, q2, _⟩ := I.rep j _ _ e1
      have q3 := tr_rp S.h e2 ((q2.scal hr0).2 h)
      have hpp : p' = p ∧ (p'.scal = true ∧ lv = 2 ∨ lv = 0) := by
        unfold nrm at ej
        cases hsc : p'.scal with
        | true => rw [hsc] at ej; cases ej; exact ⟨rfl, .inl ⟨rfl, rfl⟩⟩
        | false => rw [hsc] at ej; cases ej; exact ⟨rfl, .inr rfl⟩
      obtain ⟨rfl, hpp⟩ := hpp
      refine ⟨d, us, q1, q3, ?_⟩
      rcases hpp with ⟨hsc, rfl⟩ | rfl
      · obtain ⟨rfl, _⟩ := q3.scal hsc
        exact ⟨fun _ => by simp, (by intro w; cases w), by simp⟩
      · refine ⟨(by intro w; cases w), (by intro w; cases w), fun _ _ r hr => ?_⟩
        have hm := tr_mem e2 r hr
        cases e : μ r with
        | none => rw [e] at hm; cases hm
        | some qs => exact if_pos (S r qs e).1
  · have er : (if ow r = some STO then none else ow r) = some j := er
    split at er
    · cases er
    · exact I.own r j er
theorem cz_d (hF : FSnd F FP) {ρv : Rho} (v : Deep ρ μ ρv) {c : CT} {Q : Bool → Prop} (k : Tn (evPT FP c ρv) Q) : Cz T F c ρ μ Q := fun h σ ow I S =>
  cz_p (μ := fun _ => none) hF k h σ _ (v.inv I S) (fun n ps e => by cases e)
end
end U
end

section
set_option maxRecDepth 100000
set_option maxHeartbeats 1000000
/-! Programs in building: what is begun round the place that is written next. -/
namespace U
open PySem
/-- a block that is begun: the steps ahead of it, its head; of an if what is done there when all is there -/
inductive Fr where
  | lend (pre : List Stp) (x y : Tx)
  | whl (pre : List Stp) (k : Int)
  | ifa (pre : List Stp) (k : Int)
  | ifb (pre : List Stp) (k : Int) (a : List Stp)
def Fr.fill : Fr → List Stp → List Stp
  | .lend pre x y, b => pre ++ [.lend x y b]
  | .whl pre k, b => pre ++ [.whl k b]
  | .ifa pre k, a => pre ++ [.ifs k a []]
  | .ifb pre k a, b => pre ++ [.ifs k a b]
/-- all of it; the inmost block first -/
def plug : List Fr → List Stp → List Stp
  | [], p => p
  | f :: r, p => plug r (f.fill p)
/-- the inmost block ended -/
def popF : List Fr → List Stp → List Fr × List Stp
  | [], cur => ([], cur)
  | .ifa pre k :: r, cur => (.ifb pre k cur :: r, [])
  | f :: r, cur => (r, f.fill cur)
def Fr.ln : Fr → List Tx
  | .lend pre x y => lnP pre ++ [tLend ++ [32] ++ x ++ [32] ++ y]
  | .whl pre k => lnP pre ++ [tWhile ++ [32] ++ showI k]
  | .ifa pre k => lnP pre ++ [tIf ++ [32] ++ showI k]
  | .ifb pre k a => lnP pre ++ [tIf ++ [32] ++ showI k] ++ lnP a ++ [tElse]
def lnZ : List Fr → List Tx
  | [] => []
  | f :: r => lnZ r ++ f.ln
def Fr.good (d : Nat) : Fr → Prop
  | .lend pre x y => wfP pre = true ∧ okP d pre = true ∧ wOk x = true ∧ wOk y = true
  | .whl pre k => wfP pre = true ∧ okP d pre = true ∧ -ONE60 < k ∧ k < ONE60
  | .ifa pre k => wfP pre = true ∧ okP d pre = true ∧ -ONE60 < k ∧ k < ONE60
  | .ifb pre k a => wfP pre = true ∧ okP d pre = true ∧ (-ONE60 < k ∧ k < ONE60) ∧ wfP a = true ∧ okP (d + 1) a = true
def okZ : List Fr → Prop
  | [] => True
  | f :: r => f.good r.length ∧ okZ r
structure Zg (frs : List Fr) (cur : List Stp) : Prop where
  z : okZ frs
  d : frs.length ≤ 8
  w : wfP cur = true
  k : okP frs.length cur = true
theorem one60_bnd {k : Int} (h : -ONE60 < k ∧ k < ONE60) : -BND ≤ k ∧ k ≤ BND := by
  simp only [ONE60, BND] at *
  omega
theorem fill_good {f : Fr} {d : Nat} {cur : List Stp} (h : f.good d) (hd : d ≤ 8) (hw : wfP cur = true) (hk : okP (d + 1) cur = true) : wfP (f.fill cur) = true ∧ okP d (f.fill cur) = true := by
  cases f with
  | lend pre x y =>
    obtain ⟨a, b, c, e⟩ := h
    constructor
    · simp [Fr.fill, wfP_app, wfP, Stp.wf, a, c, e, hw]
    · simp [Fr.fill, okP_app, okP, Stp.ok, b, hk, hd]
  | whl pre k =>
    obtain ⟨a, b, c⟩ := h
    have c' := one60_bnd c
    constructor
    · simp only [Fr.fill, wfP_app, wfP, Stp.wf, a, hw, Bool.and_true, Bool.true_and, decide_eq_true_eq]; exact c'
    · simp only [Fr.fill, okP_app, okP, Stp.ok, b, hk, Bool.and_true, Bool.true_and, Bool.and_eq_true, decide_eq_true_eq]; exact ⟨hd, c⟩
  | ifa pre k =>
    obtain ⟨a, b, c⟩ := h
    have c' := one60_bnd c
    constructor
    · simp only [Fr.fill, wfP_app, wfP, Stp.wf, a, hw, Bool.and_true, Bool.true_and, decide_eq_true_eq]; exact c'
    · simp only [Fr.fill, okP_app, okP, Stp.ok, b, hk, Bool.and_true, Bool.true_and, Bool.and_eq_true, decide_eq_true_eq]; exact ⟨hd, c⟩
  | ifb pre k t =>
    obtain ⟨a, b, c, e, g⟩ := h
    have c' := one60_bnd c
    constructor
    · simp only [Fr.fill, wfP_app, wfP, Stp.wf, a, hw, e, Bool.and_true, Bool.true_and, decide_eq_true_eq]; exact c'
    · simp only [Fr.fill, okP_app, okP, Stp.ok, b, hk, g, Bool.and_true, Bool.true_and, Bool.and_eq_true, decide_eq_true_eq]; exact ⟨hd, c⟩
theorem Zg.out {f : Fr} {r : List Fr} {cur : List Stp} (g : Zg (f :: r) cur) : Zg r (f.fill cur) := by
  obtain ⟨a, b⟩ := g.z
  have := g.d
  simp at this
  obtain ⟨c, e⟩ := fill_good a (by omega) g.w g.k
  exact ⟨b, by omega, c, e⟩
theorem plug_good : ∀ {frs : List Fr} {cur : List Stp}, Zg frs cur → wfP (plug frs cur) = true ∧ okP 0 (plug frs cur) = true
  | [], cur, g => ⟨g.w, g.k⟩
  | f :: r, cur, g => plug_good (frs := r) g.out
theorem plug_ln : ∀ {frs : List Fr} {cur cur' : List Stp} {k : Nat}, (lnP cur').length = (lnP cur).length + k → (lnP (plug frs cur')).length = (lnP (plug frs cur)).length + k
  | [], _, _, _, h => h
  | f :: r, cur, cur', k, h => by
    refine plug_ln (frs := r) ?_
    cases f <;> simp [Fr.fill, lnP_app, lnP, lnS, h] <;> omega
theorem plug_ld : ∀ {frs : List Fr} {cur cur' : List Stp} {k : Nat}, ldP cur' = ldP cur + k → ldP (plug frs cur') = ldP (plug frs cur) + k
  | [], _, _, _, h => h
  | f :: r, cur, cur', k, h => by
    refine plug_ld (frs := r) ?_
    cases f <;> simp [Fr.fill, ldP_app, ldP, ldS, h] <;> omega
mutual
theorem okS_ht : ∀ (s : Stp) {d : Nat}, d ≤ 8 → s.ok d = true → s.ht + d ≤ 9
  | .plain ws, d, hd, h => by rw [Stp.ht]; omega
  | .lend x y b, d, hd, h => by
    rw [Stp.ok] at h
    have := okP_ht b (by omega) h
    rw [Stp.ht]; omega
  | .ifs k a b, d, hd, h => by
    rw [Stp.ok, Bool.and_eq_true, Bool.and_eq_true] at h
    have := okP_ht a (by omega) h.1.2
    have := okP_ht b (by omega) h.2
    rw [Stp.ht]; omega
  | .whl k b, d, hd, h => by
    rw [Stp.ok, Bool.and_eq_true] at h
    have := okP_ht b (by omega) h.2
    rw [Stp.ht]; omega
theorem okP_ht : ∀ (l : List Stp) {d : Nat}, d ≤ 9 → okP d l = true → htP l + d ≤ 9
  | [], d, hd, h => by rw [htP]; omega
  | s :: r, d, hd, h => by
    rw [okP, Bool.and_eq_true, Bool.and_eq_true, decide_eq_true_eq] at h
    have := okS_ht s h.1.1 h.1.2
    have := okP_ht r hd h.2
    rw [htP]; omega
end
theorem Zg.ht {frs : List Fr} {cur : List Stp} (g : Zg frs cur) : htP cur ≤ 9 := by
  have := okP_ht cur (by have := g.d; omega) g.k
  omega
/-! ### the store's side -/
section
variable {μ μ' : Mu}
mutual
theorem Tr.fr : ∀ {p r : P} {us : List Nat}, Tr μ p r us → (∀ x ∈ us, μ' x = μ x) → Tr μ' p r us
  | .lst ps, r, us, t, a => by
    rw [Tr] at t ⊢
    obtain ⟨n, rs, ws, rfl, e, ts, rfl⟩ := t
    exact ⟨n, rs, ws, rfl, (a n (by simp)).trans e, Trs.fr ts fun x hx => a x (by simp [hx]), rfl⟩
  | .tup ps, r, us, t, a => by
    rw [Tr] at t ⊢
    obtain ⟨rs, rfl, ts⟩ := t
    exact ⟨rs, rfl, Trs.fr ts a⟩
  | .non, r, us, t, a => by rw [Tr] at t ⊢; exact t
  | .bl _, r, us, t, a => by rw [Tr] at t ⊢; exact t
  | .int _, r, us, t, a => by rw [Tr] at t ⊢; exact t
  | .str _, r, us, t, a => by rw [Tr] at t ⊢; exact t
  | .scr _, r, us, t, a => by rw [Tr] at t; exact t.elim
  | .dct _ _, r, us, t, a => by rw [Tr] at t; exact t.elim
  | .raw _, r, us, t, a => by rw [Tr] at t; exact t.elim
theorem Trs.fr : ∀ {ps rs : List P} {us : List Nat}, Trs μ ps rs us → (∀ x ∈ us, μ' x = μ x) → Trs μ' ps rs us
  | [], rs, us, t, a => by rw [Trs] at t ⊢; exact t
  | p :: ps, rs, us, t, a => by
    rw [Trs] at t ⊢
    obtain ⟨r, qs, vs, ws, rfl, rfl, t1, t2⟩ := t
    exact ⟨r, qs, vs, ws, rfl, rfl, Tr.fr t1 fun x hx => a x (by simp [hx]), Trs.fr t2 fun x hx => a x (by simp [hx])⟩
end
theorem Trs.nil : Trs μ [] [] [] := by rw [Trs]; exact ⟨rfl, rfl⟩
theorem Trs.cons {p r : P} {us : List Nat} {ps rs : List P} {vs : List Nat} (a : Tr μ p r us) (b : Trs μ ps rs vs) : Trs μ (p :: ps) (r :: rs) (us ++ vs) := by rw [Trs]; exact ⟨r, rs, us, vs, rfl, rfl, a, b⟩
theorem Trs.one {p r : P} {us : List Nat} (a : Tr μ p r us) : Trs μ [p] [r] us := by have := Trs.cons a .nil; simpa using this
theorem Trs.app : ∀ {ps qs rs ss : List P} {us vs : List Nat}, Trs μ ps rs us → Trs μ qs ss vs → Trs μ (ps ++ qs) (rs ++ ss) (us ++ vs)
  | [], qs, rs, ss, us, vs, k, l => by rw [Trs] at k; obtain ⟨rfl, rfl⟩ := k; simpa using l
  | p :: ps, qs, rs, ss, us, vs, k, l => by
    rw [Trs] at k
    obtain ⟨d, es', vs', ws, rfl, rfl, q, r⟩ := k
    rw [List.append_assoc]
    exact .cons q (Trs.app r l)
theorem tr_str {t : Tx} : Tr μ (.str t) (.str t) [] := by rw [Tr]; exact ⟨rfl, rfl⟩
theorem tr_int {t : Int} : Tr μ (.int t) (.int t) [] := by rw [Tr]; exact ⟨rfl, rfl⟩
theorem trs_strs : ∀ {ws : List Tx}, Trs μ (ws.map .str) (ws.map .str) []
  | [] => .nil
  | w :: ws => by have := Trs.cons (tr_str (μ := μ) (t := w)) (trs_strs (ws := ws)); simpa using this
theorem tr_tup {ps rs : List P} {us : List Nat} (h : Trs μ ps rs us) : Tr μ (.tup ps) (.tup rs) us := by rw [Tr]; exact ⟨rs, rfl, h⟩
theorem tr_lst {ps rs : List P} {us : List Nat} {n : Nat} (e : μ n = some rs) (h : Trs μ ps rs us) : Tr μ (.lst ps) (.raw n) (n :: us) := by rw [Tr]; exact ⟨n, rs, us, rfl, e, h, rfl⟩
theorem tr_plain {ws : List Tx} : Tr μ (stpP (.plain ws)) (stpP (.plain ws)) [] := by rw [stpP_plain]; exact tr_tup trs_strs
theorem Trs.len : ∀ {ps rs : List P} {us : List Nat}, Trs μ ps rs us → rs.length = ps.length
  | [], rs, us, t => by rw [Trs] at t; rw [t.1]
  | p :: ps, rs, us, t => by
    rw [Trs] at t
    obtain ⟨r, qs, vs, ws, rfl, _, t1, t2⟩ := t
    simp [Trs.len t2]
theorem tr_prg {cur : List Stp} {n : Nat} {us : List Nat} (t : Tr μ (prgP cur) (.raw n) us) : ∃ rs ws, μ n = some rs ∧ Trs μ (cur.map stpP) rs ws ∧ us = n :: ws := by
  unfold prgP at t
  rw [Tr] at t
  obtain ⟨m, rs, ws, e, a, b, c⟩ := t
  cases e
  exact ⟨rs, ws, a, b, c⟩
end
abbrev entR (x : Tx × Nat) : P := .tup [.str x.1, .raw x.2]
/-- what is begun, as the store has it: root is the whole, here the place that is written next, ps the pile, us all places of it but here's own -/
def Zp (μ : Mu) (root : Nat) : List Fr → Nat → List (Tx × Nat) → List Nat → Prop
  | [], here, ps, us => here = root ∧ ps = [] ∧ us = []
  | .lend pre x y :: r, here, ps, us => ∃ par rs ws pl vs, μ par = some (rs ++ [.tup [.str tLend, .str x, .str y, .raw here]]) ∧ Trs μ (pre.map stpP) rs ws ∧ Zp μ root r par pl vs ∧ ps = pl ++ [(tBack, par)] ∧ us = par :: (ws ++ vs)
  | .whl pre k :: r, here, ps, us => ∃ par rs ws pl vs, μ par = some (rs ++ [.tup [.str tWhile, .int k, .raw here]]) ∧ Trs μ (pre.map stpP) rs ws ∧ Zp μ root r par pl vs ∧ ps = pl ++ [(tDone, par)] ∧ us = par :: (ws ++ vs)
  | .ifa pre k :: r, here, ps, us => ∃ par oth rs ws pl vs, μ par = some (rs ++ [.tup [.str tIf, .int k, .raw here, .raw oth]]) ∧ μ oth = some [] ∧ Trs μ (pre.map stpP) rs ws ∧ Zp μ root r par pl vs ∧ ps = pl ++ [(tFi, par), (tElse, oth)] ∧ us = oth :: par :: (ws ++ vs)
  | .ifb pre k a :: r, here, ps, us => ∃ par thn zs rs ws pl vs, μ par = some (rs ++ [.tup [.str tIf, .int k, .raw thn, .raw here]]) ∧ Tr μ (prgP a) (.raw thn) zs ∧ Trs μ (pre.map stpP) rs ws ∧ Zp μ root r par pl vs ∧ ps = pl ++ [(tFi, par)] ∧ us = zs ++ par :: (ws ++ vs)
theorem Zp.fr {μ μ' : Mu} {root : Nat} : ∀ {frs : List Fr} {here : Nat} {ps : List (Tx × Nat)} {us : List Nat}, Zp μ root frs here ps us → (∀ x ∈ us, μ' x = μ x) → Zp μ' root frs here ps us
  | [], _, _, _, h, _ => h
  | .lend pre x y :: r, here, ps, us, h, a => by
    obtain ⟨par, rs, ws, pl, vs, e, t, z, rfl, rfl⟩ := h
    exact ⟨par, rs, ws, pl, vs, (a par (by simp)).trans e, t.fr fun x hx => a x (by simp [hx]), Zp.fr z fun x hx => a x (by simp [hx]), rfl, rfl⟩
  | .whl pre k :: r, here, ps, us, h, a => by
    obtain ⟨par, rs, ws, pl, vs, e, t, z, rfl, rfl⟩ := h
    exact ⟨par, rs, ws, pl, vs, (a par (by simp)).trans e, t.fr fun x hx => a x (by simp [hx]), Zp.fr z fun x hx => a x (by simp [hx]), rfl, rfl⟩
  | .ifa pre k :: r, here, ps, us, h, a => by
    obtain ⟨par, oth, rs, ws, pl, vs, e, o, t, z, rfl, rfl⟩ := h
    exact ⟨par, oth, rs, ws, pl, vs, (a par (by simp)).trans e, (a oth (by simp)).trans o, t.fr fun x hx => a x (by simp [hx]), Zp.fr z fun x hx => a x (by simp [hx]), rfl, rfl⟩
  | .ifb pre k b :: r, here, ps, us, h, a => by
    obtain ⟨par, thn, zs, rs, ws, pl, vs, e, o, t, z, rfl, rfl⟩ := h
    exact ⟨par, thn, zs, rs, ws, pl, vs, (a par (by simp)).trans e, o.fr fun x hx => a x (by simp [hx]), t.fr fun x hx => a x (by simp [hx]), Zp.fr z fun x hx => a x (by simp [hx]), rfl, rfl⟩
theorem Zp.mem {μ : Mu} {root : Nat} : ∀ {frs : List Fr} {here : Nat} {ps : List (Tx × Nat)} {us : List Nat}, Zp μ root frs here ps us → ∀ x ∈ us, (μ x).isSome = true
  | [], _, _, _, h, x, hx => by rw [h.2.2] at hx; cases hx
  | .lend pre _ y :: r, here, ps, us, h, x, hx => by
    obtain ⟨par, rs, ws, pl, vs, e, t, z, rfl, rfl⟩ := h
    simp at hx
    rcases hx with rfl | hx | hx
    · rw [e]; rfl
    · exact trs_mem t x hx
    · exact Zp.mem z x hx
  | .whl pre k :: r, here, ps, us, h, x, hx => by
    obtain ⟨par, rs, ws, pl, vs, e, t, z, rfl, rfl⟩ := h
    simp at hx
    rcases hx with rfl | hx | hx
    · rw [e]; rfl
    · exact trs_mem t x hx
    · exact Zp.mem z x hx
  | .ifa pre k :: r, here, ps, us, h, x, hx => by
    obtain ⟨par, oth, rs, ws, pl, vs, e, o, t, z, rfl, rfl⟩ := h
    simp at hx
    rcases hx with rfl | rfl | hx | hx
    · rw [o]; rfl
    · rw [e]; rfl
    · exact trs_mem t x hx
    · exact Zp.mem z x hx
  | .ifb pre k b :: r, here, ps, us, h, x, hx => by
    obtain ⟨par, thn, zs, rs, ws, pl, vs, e, o, t, z, rfl, rfl⟩ := h
    simp at hx
    rcases hx with hx | rfl | hx | hx
    · exact tr_mem o x hx
    · rw [e]; rfl
    · exact trs_mem t x hx
    · exact Zp.mem z x hx
/-- the state of the building -/
structure Zst (μ : Mu) (root : Nat) (frs : List Fr) (cur : List Stp) (here : Nat) (ps : List (Tx × Nat)) (us vs : List Nat) : Prop where
  z : Zp μ root frs here ps us
  t : Tr μ (prgP cur) (.raw here) vs
  nd : (us ++ vs).Nodup
  g : Zg frs cur
section
variable {μ μ' : Mu} {root : Nat} {frs : List Fr} {cur : List Stp} {here : Nat} {ps : List (Tx × Nat)} {us vs : List Nat}
theorem Zst.fr (h : Zst μ root frs cur here ps us vs) (a : ∀ x ∈ us ++ vs, μ' x = μ x) : Zst μ' root frs cur here ps us vs :=
  ⟨h.z.fr fun x hx => a x (List.mem_append_left _ hx), h.t.fr fun x hx => a x (List.mem_append_right _ hx), h.nd, h.g⟩
theorem Zst.mem (h : Zst μ root frs cur here ps us vs) : ∀ x ∈ us ++ vs, (μ x).isSome = true := fun x hx => by
  rcases List.mem_append.mp hx with hx | hx
  · exact h.z.mem x hx
  · exact tr_mem h.t x hx
theorem Zst.cell (h : Zst μ root frs cur here ps us vs) : ∃ rs ws, μ here = some rs ∧ rs.length = cur.length ∧ vs = here :: ws := by
  obtain ⟨rs, ws, a, b, c⟩ := tr_prg h.t
  exact ⟨rs, ws, a, by rw [b.len]; simp, c⟩
theorem upd_ne {μ : Mu} {n m : Nat} {ps : List P} (h : m ≠ n) : μ.upd n ps m = μ m := if_neg h
@[simp] theorem upd_same {μ : Mu} {n : Nat} {ps : List P} : μ.upd n ps n = some ps := if_pos rfl
theorem nd_app {α : Type} {a b : List α} (h : (a ++ b).Nodup) : a.Nodup ∧ b.Nodup ∧ ∀ x ∈ a, x ∉ b := by
  obtain ⟨x, y, z⟩ := List.nodup_append.mp h
  exact ⟨x, y, fun w hw hb => z w hw w hb rfl⟩
/-- a plain step more -/
theorem Zst.put {w : List Tx} {rs : List P} (h : Zst μ root frs cur here ps us vs) (e : μ here = some rs) (hw : plOk w = true) : Zst (μ.upd here (rs ++ [stpP (.plain w)])) root frs (cur ++ [.plain w]) here ps us vs := by
  obtain ⟨rs', ws, e', t, rfl⟩ := tr_prg h.t
  rw [e] at e'
  cases e'
  obtain ⟨n1, n2, n3⟩ := nd_app h.nd
  have nh : here ∉ us := fun z => n3 here z (by simp)
  have nw : here ∉ ws := (List.nodup_cons.mp n2).1
  refine ⟨h.z.fr fun x hx => upd_ne fun z => nh (z ▸ hx), ?_, h.nd, ?_⟩
  · have := (t.fr (μ' := μ.upd here (rs ++ [stpP (.plain w)])) fun x hx => upd_ne fun z => nw (z ▸ hx)).app (Trs.one (tr_plain (ws := w)))
    unfold prgP
    rw [List.map_append]
    have e2 := tr_lst (upd_same (μ := μ)) this
    simpa using e2
  · have hd := h.g.d
    refine ⟨h.g.z, h.g.d, ?_, ?_⟩
    · simp [wfP_app, h.g.w, wfP, Stp.wf, hw]
    · simp [okP_app, h.g.k, okP, Stp.ok, hd]
theorem fresh_not (h : Zst μ root frs cur here ps us vs) {n : Nat} (e : μ n = none) : n ∉ us ++ vs := fun z => by
  have := h.mem n z
  rw [e] at this
  cases this
/-- a block begun: one list more -/
theorem Zst.open1 {f : Fr} {item : P} {word : Tx} {rs : List P} {n : Nat} (h : Zst μ root frs cur here ps us vs) (e : μ here = some rs) (en : μ n = none) (hf : f.good frs.length) (hd : frs.length < 8)
    (hz : ∀ μ' ws pl vs, μ' here = some (rs ++ [item]) → Trs μ' (cur.map stpP) rs ws → Zp μ' root frs here pl vs → Zp μ' root (f :: frs) n (pl ++ [(word, here)]) (here :: (ws ++ vs))) :
    ∃ us', Zst ((μ.upd n []).upd here (rs ++ [item])) root (f :: frs) [] n (ps ++ [(word, here)]) us' [n] ∧ ∀ x ∈ us', x ∈ us ++ vs := by
  obtain ⟨rs', ws, e', t, rfl⟩ := tr_prg h.t
  rw [e] at e'
  cases e'
  have fn := fresh_not h en
  obtain ⟨n1, n2, n3⟩ := nd_app h.nd
  have nh : here ∉ us := fun z => n3 here z (by simp)
  have nw : here ∉ ws := (List.nodup_cons.mp n2).1
  have hn : n ≠ here := fun z => by subst z; rw [e] at en; cases en
  have keep : ∀ x ∈ us ++ ws, ((μ.upd n []).upd here (rs ++ [item])) x = μ x := fun x hx => by
    rw [upd_ne, upd_ne]
    · rintro rfl
      exact fn (by simp at hx ⊢; rcases hx with hx | hx <;> simp [hx])
    · rintro rfl
      rcases List.mem_append.mp hx with hx | hx
      · exact nh hx
      · exact nw hx
  refine ⟨here :: (ws ++ us), ⟨hz _ ws ps us upd_same (t.fr fun x hx => keep x (by simp [hx])) (h.z.fr fun x hx => keep x (by simp [hx])), ?_, ?_, ?_⟩, fun x hx => by simp at hx ⊢; rcases hx with hx | hx | hx <;> simp [hx]⟩
  · have : ((μ.upd n []).upd here (rs ++ [item])) n = some [] := by rw [upd_ne hn]; exact upd_same
    exact tr_lst this .nil
  · have p : (here :: (ws ++ us) ++ [n]).Perm (n :: (us ++ here :: ws)) := by
      refine (List.perm_append_singleton n _).trans (List.Perm.cons n ?_)
      exact (List.perm_append_comm (l₁ := us) (l₂ := here :: ws)).symm
    exact p.nodup_iff.mpr (List.nodup_cons.mpr ⟨fn, h.nd⟩)
  · exact ⟨⟨hf, h.g.z⟩, by simp; omega, by simp [wfP], by simp [okP]⟩
theorem Zst.lend {x y : Tx} {rs : List P} {n : Nat} (h : Zst μ root frs cur here ps us vs) (e : μ here = some rs) (en : μ n = none) (hx : wOk x = true) (hy : wOk y = true) (hd : frs.length < 8) :
    ∃ us', Zst ((μ.upd n []).upd here (rs ++ [.tup [.str tLend, .str x, .str y, .raw n]])) root (.lend cur x y :: frs) [] n (ps ++ [(tBack, here)]) us' [n] ∧ ∀ x ∈ us', x ∈ us ++ vs :=
  h.open1 e en ⟨h.g.w, h.g.k, hx, hy⟩ hd fun μ' ws pl vs a b c => ⟨here, rs, ws, pl, vs, a, b, c, rfl, rfl⟩
theorem Zst.whl {k : Int} {rs : List P} {n : Nat} (h : Zst μ root frs cur here ps us vs) (e : μ here = some rs) (en : μ n = none) (hk : -ONE60 < k ∧ k < ONE60) (hd : frs.length < 8) :
    ∃ us', Zst ((μ.upd n []).upd here (rs ++ [.tup [.str tWhile, .int k, .raw n]])) root (.whl cur k :: frs) [] n (ps ++ [(tDone, here)]) us' [n] ∧ ∀ x ∈ us', x ∈ us ++ vs :=
  h.open1 e en ⟨h.g.w, h.g.k, hk⟩ hd fun μ' ws pl vs a b c => ⟨here, rs, ws, pl, vs, a, b, c, rfl, rfl⟩
theorem Zst.ifs {k : Int} {rs : List P} {n m : Nat} (h : Zst μ root frs cur here ps us vs) (e : μ here = some rs) (en : μ n = none) (em : μ m = none) (hnm : m ≠ n) (hk : -ONE60 < k ∧ k < ONE60) (hd : frs.length < 8) :
    ∃ us', Zst (((μ.upd n []).upd m []).upd here (rs ++ [.tup [.str tIf, .int k, .raw n, .raw m]])) root (.ifa cur k :: frs) [] n (ps ++ [(tFi, here), (tElse, m)]) us' [n] ∧ ∀ x ∈ us', x = m ∨ x ∈ us ++ vs := by
  obtain ⟨rs', ws, e', t, rfl⟩ := tr_prg h.t
  rw [e] at e'
  cases e'
  have fn := fresh_not h en
  have fm := fresh_not h em
  obtain ⟨n1, n2, n3⟩ := nd_app h.nd
  have nh : here ∉ us := fun z => n3 here z (by simp)
  have nw : here ∉ ws := (List.nodup_cons.mp n2).1
  have hn : n ≠ here := fun z => by subst z; rw [e] at en; cases en
  have hm : m ≠ here := fun z => by subst z; rw [e] at em; cases em
  generalize eM : ((μ.upd n []).upd m []).upd here (rs ++ [.tup [.str tIf, .int k, .raw n, .raw m]]) = M
  have keep : ∀ x ∈ us ++ ws, M x = μ x := fun x hx => by
    rw [← eM, upd_ne, upd_ne, upd_ne]
    · rintro rfl
      exact fn (by simp at hx ⊢; rcases hx with hx | hx <;> simp [hx])
    · rintro rfl
      exact fm (by simp at hx ⊢; rcases hx with hx | hx <;> simp [hx])
    · rintro rfl
      rcases List.mem_append.mp hx with hx | hx
      · exact nh hx
      · exact nw hx
  have Mm : M m = some [] := by rw [← eM, upd_ne hm]; exact upd_same
  have Mn : M n = some [] := by rw [← eM, upd_ne hn, upd_ne hnm.symm]; exact upd_same
  have Mh : M here = some (rs ++ [.tup [.str tIf, .int k, .raw n, .raw m]]) := by rw [← eM]; exact upd_same
  refine ⟨m :: here :: (ws ++ us), ⟨⟨here, m, rs, ws, ps, us, Mh, Mm, t.fr fun x hx => keep x (by simp [hx]), h.z.fr fun x hx => keep x (by simp [hx]), rfl, rfl⟩, tr_lst Mn .nil, ?_, ⟨⟨⟨h.g.w, h.g.k, hk⟩, h.g.z⟩, by simp; omega, by simp [wfP], by simp [okP]⟩⟩, fun x hx => by simp at hx ⊢; rcases hx with hx | hx | hx | hx <;> simp [hx]⟩
  have p : (m :: here :: (ws ++ us) ++ [n]).Perm (n :: m :: (us ++ here :: ws)) := by
    refine (List.perm_append_singleton n _).trans (List.Perm.cons n (List.Perm.cons m ?_))
    exact (List.perm_append_comm (l₁ := us) (l₂ := here :: ws)).symm
  refine p.nodup_iff.mpr (List.nodup_cons.mpr ⟨fun z => ?_, List.nodup_cons.mpr ⟨fm, h.nd⟩⟩)
  rcases List.mem_cons.mp z with z | z
  · exact hnm z.symm
  · exact fn z
/-- how many are begun: those of the pile that are no else -/
theorem Zp.count : ∀ {frs : List Fr} {here : Nat} {ps : List (Tx × Nat)} {us : List Nat}, Zp μ root frs here ps us → (ps.filter fun x => decide (x.1 ≠ tElse)).length = frs.length
  | [], _, _, _, h => by rw [h.2.1]; rfl
  | .lend pre x y :: r, here, ps, us, h => by
    obtain ⟨par, rs, ws, pl, vs, e, t, z, rfl, rfl⟩ := h
    rw [List.filter_append, List.length_append, Zp.count z]; rfl
  | .whl pre k :: r, here, ps, us, h => by
    obtain ⟨par, rs, ws, pl, vs, e, t, z, rfl, rfl⟩ := h
    rw [List.filter_append, List.length_append, Zp.count z]; rfl
  | .ifa pre k :: r, here, ps, us, h => by
    obtain ⟨par, oth, rs, ws, pl, vs, e, o, t, z, rfl, rfl⟩ := h
    rw [List.filter_append, List.length_append, Zp.count z]; rfl
  | .ifb pre k b :: r, here, ps, us, h => by
    obtain ⟨par, thn, zs, rs, ws, pl, vs, e, o, t, z, rfl, rfl⟩ := h
    rw [List.filter_append, List.length_append, Zp.count z]; rfl
theorem Zp.le : ∀ {frs : List Fr} {here : Nat} {ps : List (Tx × Nat)} {us : List Nat}, Zp μ root frs here ps us → ps.length ≤ 2 * frs.length
  | [], _, _, _, h => by rw [h.2.1]; simp
  | .lend pre x y :: r, here, ps, us, h => by
    obtain ⟨par, rs, ws, pl, vs, e, t, z, rfl, rfl⟩ := h
    have := Zp.le z
    simp; omega
  | .whl pre k :: r, here, ps, us, h => by
    obtain ⟨par, rs, ws, pl, vs, e, t, z, rfl, rfl⟩ := h
    have := Zp.le z
    simp; omega
  | .ifa pre k :: r, here, ps, us, h => by
    obtain ⟨par, oth, rs, ws, pl, vs, e, o, t, z, rfl, rfl⟩ := h
    have := Zp.le z
    simp; omega
  | .ifb pre k b :: r, here, ps, us, h => by
    obtain ⟨par, thn, zs, rs, ws, pl, vs, e, o, t, z, rfl, rfl⟩ := h
    have := Zp.le z
    simp; omega
/-- the pile's trees, whole -/
theorem Zp.deep : ∀ {frs : List Fr} {cur : List Stp} {here : Nat} {ps : List (Tx × Nat)} {us vs : List Nat}, Zp μ root frs here ps us → Tr μ (prgP cur) (.raw here) vs → Zg frs cur → ∃ (l : List (Tx × List Stp)) (ws : List Nat), Trs μ (l.map fun x => .tup [.str x.1, prgP x.2]) (ps.map entR) ws ∧ ∀ x ∈ l, htP x.2 ≤ 9
  | [], _, _, _, _, _, h, _, _ => by rw [h.2.1]; exact ⟨[], [], .nil, by simp⟩
  | .lend pre x y :: r, cur, here, ps, us, vs, h, t, g => by
    obtain ⟨par, rs, ws, pl, vs', e, t', z, rfl, rfl⟩ := h
    have tp : Tr μ (prgP (Fr.fill (.lend pre x y) cur)) (.raw par) (par :: (ws ++ ([] ++ ([] ++ ([] ++ (vs ++ [])))))) := by
      unfold prgP Fr.fill
      rw [List.map_append]
      refine tr_lst e (t'.app (Trs.one ?_))
      rw [stpP_lend]
      exact tr_tup (.cons tr_str (.cons tr_str (.cons tr_str (.cons t .nil))))
    obtain ⟨l, ws', h1, h2⟩ := Zp.deep z tp g.out
    refine ⟨l ++ [(tBack, Fr.fill (.lend pre x y) cur)], _, by rw [List.map_append, List.map_append]; exact h1.app (Trs.one (tr_tup (.cons tr_str (.one tp)))), fun q hq => ?_⟩
    rcases List.mem_append.mp hq with hq | hq
    · exact h2 q hq
    · rw [List.mem_singleton.mp hq]; exact g.out.ht
  | .whl pre k :: r, cur, here, ps, us, vs, h, t, g => by
    obtain ⟨par, rs, ws, pl, vs', e, t', z, rfl, rfl⟩ := h
    have tp : Tr μ (prgP (Fr.fill (.whl pre k) cur)) (.raw par) (par :: (ws ++ ([] ++ ([] ++ (vs ++ []))))) := by
      unfold prgP Fr.fill
      rw [List.map_append]
      refine tr_lst e (t'.app (Trs.one ?_))
      rw [stpP_whl]
      exact tr_tup (.cons tr_str (.cons tr_int (.cons t .nil)))
    obtain ⟨l, ws', h1, h2⟩ := Zp.deep z tp g.out
    refine ⟨l ++ [(tDone, Fr.fill (.whl pre k) cur)], _, by rw [List.map_append, List.map_append]; exact h1.app (Trs.one (tr_tup (.cons tr_str (.one tp)))), fun q hq => ?_⟩
    rcases List.mem_append.mp hq with hq | hq
    · exact h2 q hq
    · rw [List.mem_singleton.mp hq]; exact g.out.ht
  | .ifa pre k :: r, cur, here, ps, us, vs, h, t, g => by
    obtain ⟨par, oth, rs, ws, pl, vs', e, o, t', z, rfl, rfl⟩ := h
    have to : Tr μ (prgP []) (.raw oth) [oth] := tr_lst o .nil
    have tp : Tr μ (prgP (Fr.fill (.ifa pre k) cur)) (.raw par) (par :: (ws ++ ([] ++ ([] ++ (vs ++ ([oth] ++ [])))))) := by
      unfold prgP Fr.fill
      rw [List.map_append]
      refine tr_lst e (t'.app (Trs.one ?_))
      rw [stpP_ifs]
      exact tr_tup (.cons tr_str (.cons tr_int (.cons t (.cons to .nil))))
    obtain ⟨l, ws', h1, h2⟩ := Zp.deep z tp g.out
    refine ⟨l ++ [(tFi, Fr.fill (.ifa pre k) cur), (tElse, [])], _, by rw [List.map_append, List.map_append]; exact h1.app (.cons (tr_tup (.cons tr_str (.one tp))) (Trs.one (tr_tup (.cons tr_str (.one to))))), fun q hq => ?_⟩
    rcases List.mem_append.mp hq with hq | hq
    · exact h2 q hq
    · simp at hq
      rcases hq with rfl | rfl
      · exact g.out.ht
      · simp [htP]
  | .ifb pre k b :: r, cur, here, ps, us, vs, h, t, g => by
    obtain ⟨par, thn, zs, rs, ws, pl, vs', e, o, t', z, rfl, rfl⟩ := h
    have tp : Tr μ (prgP (Fr.fill (.ifb pre k b) cur)) (.raw par) (par :: (ws ++ ([] ++ ([] ++ (zs ++ (vs ++ [])))))) := by
      unfold prgP Fr.fill
      rw [List.map_append]
      refine tr_lst e (t'.app (Trs.one ?_))
      rw [stpP_ifs]
      exact tr_tup (.cons tr_str (.cons tr_int (.cons o (.cons t .nil))))
    obtain ⟨l, ws', h1, h2⟩ := Zp.deep z tp g.out
    refine ⟨l ++ [(tFi, Fr.fill (.ifb pre k b) cur)], _, by rw [List.map_append, List.map_append]; exact h1.app (Trs.one (tr_tup (.cons tr_str (.one tp)))), fun q hq => ?_⟩
    rcases List.mem_append.mp hq with hq | hq
    · exact h2 q hq
    · rw [List.mem_singleton.mp hq]; exact g.out.ht
/-- a block, or an if's first part, ended -/
theorem Zst.pop (h : Zst μ root frs cur here ps us vs) (hp : ps ≠ []) : ∃ ps' w n frs' cur' us' vs', ps = ps' ++ [(w, n)] ∧ Zst μ root frs' cur' n ps' us' vs' ∧ lnZ frs' ++ lnP cur' = lnZ frs ++ lnP cur ++ [w] ∧ plug frs' cur' = plug frs cur ∧ (∀ x ∈ us' ++ vs', x ∈ us ++ vs) ∧ (frs', cur') = popF frs cur := by
  obtain ⟨z, t, nd, g⟩ := h
  cases frs with
  | nil => exact (hp z.2.1).elim
  | cons f r =>
    have go := g.out
    cases f with
    | lend pre x y =>
      obtain ⟨par, rs, ws, pl, vs', e, t', z, rfl, rfl⟩ := z
      have tp : Tr μ (prgP (Fr.fill (.lend pre x y) cur)) (.raw par) (par :: (ws ++ ([] ++ ([] ++ ([] ++ (vs ++ [])))))) := by
        unfold prgP Fr.fill
        rw [List.map_append]
        refine tr_lst e (t'.app (Trs.one ?_))
        rw [stpP_lend]
        exact tr_tup (.cons tr_str (.cons tr_str (.cons tr_str (.cons t .nil))))
      have ep : (vs' ++ (par :: (ws ++ ([] ++ ([] ++ ([] ++ (vs ++ []))))))).Perm (par :: (ws ++ vs') ++ vs) := by
        simp only [List.nil_append, List.append_nil]
        have : (vs' ++ (par :: (ws ++ vs))).Perm ((par :: (ws ++ vs)) ++ vs') := List.perm_append_comm
        refine this.trans ?_
        simp only [List.cons_append, List.append_assoc]
        exact List.Perm.cons _ (List.Perm.append_left _ List.perm_append_comm)
      exact ⟨pl, tBack, par, r, _, vs', _, rfl, ⟨z, tp, ep.nodup_iff.mpr nd, go⟩, by simp [lnZ, Fr.ln, Fr.fill, lnP_app, lnP, lnS], rfl, fun x hx => ep.mem_iff.mp hx, rfl⟩
    | whl pre k =>
      obtain ⟨par, rs, ws, pl, vs', e, t', z, rfl, rfl⟩ := z
      have tp : Tr μ (prgP (Fr.fill (.whl pre k) cur)) (.raw par) (par :: (ws ++ ([] ++ ([] ++ (vs ++ []))))) := by
        unfold prgP Fr.fill
        rw [List.map_append]
        refine tr_lst e (t'.app (Trs.one ?_))
        rw [stpP_whl]
        exact tr_tup (.cons tr_str (.cons tr_int (.cons t .nil)))
      have ep : (vs' ++ (par :: (ws ++ ([] ++ ([] ++ (vs ++ [])))))).Perm (par :: (ws ++ vs') ++ vs) := by
        simp only [List.nil_append, List.append_nil]
        have : (vs' ++ (par :: (ws ++ vs))).Perm ((par :: (ws ++ vs)) ++ vs') := List.perm_append_comm
        refine this.trans ?_
        simp only [List.cons_append, List.append_assoc]
        exact List.Perm.cons _ (List.Perm.append_left _ List.perm_append_comm)
      exact ⟨pl, tDone, par, r, _, vs', _, rfl, ⟨z, tp, ep.nodup_iff.mpr nd, go⟩, by simp [lnZ, Fr.ln, Fr.fill, lnP_app, lnP, lnS], rfl, fun x hx => ep.mem_iff.mp hx, rfl⟩
    | ifa pre k =>
      obtain ⟨par, oth, rs, ws, pl, vs', e, o, t', z, rfl, rfl⟩ := z
      have to : Tr μ (prgP []) (.raw oth) [oth] := tr_lst o .nil
      have ep : ((vs ++ par :: (ws ++ vs')) ++ [oth]).Perm (oth :: par :: (ws ++ vs') ++ vs) := by
        refine (List.perm_append_singleton oth _).trans (List.Perm.cons oth ?_)
        exact List.perm_append_comm
      obtain ⟨g1, g2⟩ := g.z
      obtain ⟨g3, g4, g5⟩ := g1
      refine ⟨pl ++ [(tFi, par)], tElse, oth, .ifb pre k cur :: r, [], vs ++ par :: (ws ++ vs'), [oth], by simp, ⟨⟨par, here, vs, rs, ws, pl, vs', e, t, t', z, rfl, rfl⟩, to, ep.nodup_iff.mpr nd, ⟨⟨⟨g3, g4, g5, g.w, g.k⟩, g2⟩, g.d, by simp [wfP], by simp [okP]⟩⟩, by simp [lnZ, Fr.ln, lnP], rfl, fun x hx => ep.mem_iff.mp hx, rfl⟩
    | ifb pre k b =>
      obtain ⟨par, thn, zs, rs, ws, pl, vs', e, o, t', z, rfl, rfl⟩ := z
      have tp : Tr μ (prgP (Fr.fill (.ifb pre k b) cur)) (.raw par) (par :: (ws ++ ([] ++ ([] ++ (zs ++ (vs ++ [])))))) := by
        unfold prgP Fr.fill
        rw [List.map_append]
        refine tr_lst e (t'.app (Trs.one ?_))
        rw [stpP_ifs]
        exact tr_tup (.cons tr_str (.cons tr_int (.cons o (.cons t .nil))))
      have ep : (vs' ++ (par :: (ws ++ ([] ++ ([] ++ (zs ++ (vs ++ []))))))).Perm (zs ++ par :: (ws ++ vs') ++ vs) := by
        simp only [List.nil_append, List.append_nil]
        have a1 : (vs' ++ (par :: (ws ++ (zs ++ vs)))).Perm ((par :: (ws ++ (zs ++ vs))) ++ vs') := List.perm_append_comm
        refine a1.trans ?_
        have a2 : (zs ++ par :: (ws ++ vs') ++ vs).Perm ((par :: (ws ++ vs')) ++ (zs ++ vs)) := by
          rw [← List.append_assoc]
          exact List.Perm.append_right _ List.perm_append_comm
        refine List.Perm.trans ?_ a2.symm
        simp only [List.cons_append, List.append_assoc]
        refine List.Perm.cons _ (List.Perm.append_left _ ?_)
        rw [← List.append_assoc]
        exact List.perm_append_comm
      exact ⟨pl, tFi, par, r, _, vs', _, rfl, ⟨z, tp, ep.nodup_iff.mpr nd, go⟩, by simp [lnZ, Fr.ln, Fr.fill, lnP_app, lnP, lnS], rfl, fun x hx => ep.mem_iff.mp hx, rfl⟩
theorem Zst.done (h : Zst μ root frs cur here [] us vs) : frs = [] ∧ here = root := by
  obtain ⟨z, _, _, _⟩ := h
  cases frs with
  | nil => exact ⟨rfl, z.1⟩
  | cons f r =>
    cases f with
    | lend pre x y =>
      obtain ⟨par, rs, ws, pl, vs', e, t', z, h, _⟩ := z
      simp at h
    | whl pre k =>
      obtain ⟨par, rs, ws, pl, vs', e, t', z, h, _⟩ := z
      simp at h
    | ifa pre k =>
      obtain ⟨par, oth, rs, ws, pl, vs', e, o, t', z, h, _⟩ := z
      simp at h
    | ifb pre k b =>
      obtain ⟨par, thn, zs, rs, ws, pl, vs', e, o, t', z, h, _⟩ := z
      simp at h
end
end U
end

section
set_option maxRecDepth 100000
set_option maxHeartbeats 1000000
/-! The store's rules, for named statements. -/
namespace U
open PySem
@[simp] theorem scal_raw {n : Nat} : P.scal (.raw n) = true := rfl
@[simp] theorem vr_raw {n lv : Nat} {lk : List Nat} : vr (.raw n) lv lk = ⟨.raw n, 2, []⟩ := rfl
@[simp] theorem nrm_raw {n lv : Nat} : nrm (.raw n) lv = (.raw n, 2) := rfl
@[simp] theorem part_raw {n : Nat} {x : PV} : partv (.raw n) x = ⟨.raw n, 2, []⟩ := rfl
@[simp] theorem opv_raw {n : Nat} {lk : List Nat} : opv (.raw n) lk = ⟨.raw n, 2, []⟩ := rfl
@[simp] theorem isN_raw {n : Nat} : isNonP (.raw n) = false := rfl
section
variable {T : Tab} {F : Nat → List D → M D} {FP : Nat → List P → Option (P × Nat)} {ρ ρv : Rho} {μ : Mu} {t r a b : CSs} {s : CS} {c : CT} {x : CE} {N : Rho → Mu → Prop} {R : P → Mu → Prop}
theorem z_go (e : t = .cons s r) (k : Zn (evS T F s) ρ μ (fun ρ' μ' => Zn (evSs T F r) ρ' μ' N R) R) : Zn (evSs T F t) ρ μ N R := by subst e; exact zn_cons k
theorem z_p (hF : FSnd F FP) (hT : T.wh = whl) (e : t = .cons s r) (k : Pn (evSP FP s ρ) (fun ρ' => Zn (evSs T F r) ρ' μ N R) (fun _ _ => False) (fun _ => False) (fun _ => False)) : Zn (evSs T F t) ρ μ N R := z_go e (zn_p hF hT k)
theorem z_appv (hF : FSnd F FP) (v : View ρ μ ρv) {i n lv : Nat} {ps : List P} (e : t = .cons (.ex (.bmt .append (.var i) (.cons x .nil))) r) (ei : ρ[i]? = some (some (.raw n, lv))) (en : μ n = some ps) (hl : ps.length < LIM)
    (k : Tn (evP FP x ρv) fun v => v.p.scal = true ∧ Zn (evSs T F r) ρ (μ.upd n (ps ++ [v.p])) N R) : Zn (evSs T F t) ρ μ N R :=
  z_go e (zn_app ei en hl (ez_v hF v (Q := fun p => Zn (evSs T F r) ρ (μ.upd n (ps ++ [p])) N R) k) fun p hq _ => hq)
theorem z_app (hF : FSnd F FP) {i n lv : Nat} {ps : List P} (e : t = .cons (.ex (.bmt .append (.var i) (.cons x .nil))) r) (ei : ρ[i]? = some (some (.raw n, lv))) (en : μ n = some ps) (hl : ps.length < LIM)
    (k : Tn (evP FP x ρ) fun v => v.p.scal = true ∧ Zn (evSs T F r) ρ (μ.upd n (ps ++ [v.p])) N R) : Zn (evSs T F t) ρ μ N R := z_appv hF .refl e ei en hl k
theorem z_new {i : Nat} (e : t = .cons (.set (.nm i) (.lst .nil)) r) (hi : i < ρ.length) (k : ∀ n, μ n = none → Zn (evSs T F r) (ρ.set i (some (.raw n, 2))) (μ.upd n []) N R) : Zn (evSs T F t) ρ μ N R := z_go e (zn_new hi k)
theorem z_itev (hF : FSnd F FP) (v : View ρ μ ρv) (e : t = .cons (.ite c a b) r) (k : Tn (evPT FP c ρv) fun q => if q = true then Zn (evSs T F a) ρ μ (fun ρ' μ' => Zn (evSs T F r) ρ' μ' N R) R else Zn (evSs T F b) ρ μ (fun ρ' μ' => Zn (evSs T F r) ρ' μ' N R) R) : Zn (evSs T F t) ρ μ N R :=
  z_go e (zn_ite (cz_v hF v (Q := fun q => if q = true then Zn (evSs T F a) ρ μ (fun ρ' μ' => Zn (evSs T F r) ρ' μ' N R) R else Zn (evSs T F b) ρ μ (fun ρ' μ' => Zn (evSs T F r) ρ' μ' N R) R) k) (fun q => by rw [if_pos rfl] at q; exact q) fun q => by rw [if_neg (by decide)] at q; exact q)
theorem z_ite (hF : FSnd F FP) (e : t = .cons (.ite c a b) r) (k : Tn (evPT FP c ρ) fun q => if q = true then Zn (evSs T F a) ρ μ (fun ρ' μ' => Zn (evSs T F r) ρ' μ' N R) R else Zn (evSs T F b) ρ μ (fun ρ' μ' => Zn (evSs T F r) ρ' μ' N R) R) : Zn (evSs T F t) ρ μ N R := z_itev hF .refl e k
theorem z_ited (hF : FSnd F FP) (v : Deep ρ μ ρv) (e : t = .cons (.ite c a b) r) (k : Tn (evPT FP c ρv) fun q => if q = true then Zn (evSs T F a) ρ μ (fun ρ' μ' => Zn (evSs T F r) ρ' μ' N R) R else Zn (evSs T F b) ρ μ (fun ρ' μ' => Zn (evSs T F r) ρ' μ' N R) R) : Zn (evSs T F t) ρ μ N R :=
  z_go e (zn_ite (cz_d hF v (Q := fun q => if q = true then Zn (evSs T F a) ρ μ (fun ρ' μ' => Zn (evSs T F r) ρ' μ' N R) R else Zn (evSs T F b) ρ μ (fun ρ' μ' => Zn (evSs T F r) ρ' μ' N R) R) k) (fun q => by rw [if_pos rfl] at q; exact q) fun q => by rw [if_neg (by decide)] at q; exact q)
theorem z_itev1 (hF : FSnd F FP) (v : View ρ μ ρv) (e : t = .cons (.ite c a b) .nil) (k : Tn (evPT FP c ρv) fun q => if q = true then Zn (evSs T F a) ρ μ N R else Zn (evSs T F b) ρ μ N R) : Zn (evSs T F t) ρ μ N R :=
  z_go e (zn_ite (cz_v hF v (Q := fun q => if q = true then Zn (evSs T F a) ρ μ N R else Zn (evSs T F b) ρ μ N R) k) (fun q => by rw [if_pos rfl] at q; exact q.mono (fun _ _ z => zn_nil z) fun _ _ z => z) fun q => by rw [if_neg (by decide)] at q; exact q.mono (fun _ _ z => zn_nil z) fun _ _ z => z)
theorem z_ite1 (hF : FSnd F FP) (e : t = .cons (.ite c a b) .nil) (k : Tn (evPT FP c ρ) fun q => if q = true then Zn (evSs T F a) ρ μ N R else Zn (evSs T F b) ρ μ N R) : Zn (evSs T F t) ρ μ N R := z_itev1 hF .refl e k
theorem z_ited1 (hF : FSnd F FP) (v : Deep ρ μ ρv) (e : t = .cons (.ite c a b) .nil) (k : Tn (evPT FP c ρv) fun q => if q = true then Zn (evSs T F a) ρ μ N R else Zn (evSs T F b) ρ μ N R) : Zn (evSs T F t) ρ μ N R :=
  z_go e (zn_ite (cz_d hF v (Q := fun q => if q = true then Zn (evSs T F a) ρ μ N R else Zn (evSs T F b) ρ μ N R) k) (fun q => by rw [if_pos rfl] at q; exact q.mono (fun _ _ z => zn_nil z) fun _ _ z => z) fun q => by rw [if_neg (by decide)] at q; exact q.mono (fun _ _ z => zn_nil z) fun _ _ z => z)
theorem z_ret (hF : FSnd F FP) (e : t = .cons (.ret x) r) (k : Tn (evP FP x ρ) fun v => v.p.scal = true ∧ R v.p μ) : Zn (evSs T F t) ρ μ N R := z_go e (zn_ret (ez_p hF (Q := fun p => R p μ) k) fun p q _ => q)
/-- a slot told by an expression that looks into the store -/
theorem z_setv (hF : FSnd F FP) (v : View ρ μ ρv) {tg : Tg} (e : t = .cons (.set tg x) r) (k : Tn (evP FP x ρv) fun v => v.p.scal = true ∧ Tn (asgP tg v.p 0 ρ) fun ρ' => Zn (evSs T F r) ρ' μ N R) : Zn (evSs T F t) ρ μ N R :=
  z_go e (zn_set (Q := fun p μ' => μ' = μ ∧ Tn (asgP tg p 0 ρ) fun ρ' => Zn (evSs T F r) ρ' μ N R) (em_ez (ez_v hF v (k.mono fun v h => ⟨h.1, rfl, h.2⟩))) fun p μ' ⟨e, q⟩ _ => by subst e; exact q)
theorem z_pop {tg : Tg} {i n lv : Nat} {ps : List P} {y : P} (e : t = .cons (.set tg (.bmt .pop (.var i) .nil)) r) (ei : ρ[i]? = some (some (.raw n, lv))) (en : μ n = some (ps ++ [y])) (hy : y.scal = true) (k : Tn (asgP tg y 0 ρ) fun ρ' => Zn (evSs T F r) ρ' (μ.upd n ps) N R) : Zn (evSs T F t) ρ μ N R :=
  z_go e (zn_set (Q := fun p μ' => p = y ∧ μ' = μ.upd n ps) (em_pop ei en hy ⟨rfl, rfl⟩) fun p μ' ⟨e1, e2⟩ _ => by subst e1; subst e2; exact k)
/-- a slot told by a def that writes to the store -/
theorem z_call (hF : FSnd F FP) {tg : Tg} {f : Nat} {es : CEs} (Q : P → Mu → Prop) (e : t = .cons (.set tg (.call f es)) r) (k : Tn (evPs FP es ρ) fun v => Zf F f v.ps μ Q) (ka : ∀ p μ', Q p μ' → p.scal = true → Tn (asgP tg p 0 ρ) fun ρ' => Zn (evSs T F r) ρ' μ' N R) : Zn (evSs T F t) ρ μ N R :=
  z_go e (zn_set (em_call0 hF k) ka)
theorem z_for (hF : FSnd F FP) {tg : Tg} {w : Wk} (J : List P → Rho → Mu → Prop) (e : t = .cons (.for_ tg w b) r) (k : Tn (evPI FP w ρ) fun v => P.scals v.ps = true ∧ J v.ps (drp v.lk ρ) μ)
    (step : ∀ p ps ρ μ, J (p :: ps) ρ μ → Tn (asgP tg p 0 ρ) fun ρ' => Zn (evSs T F b) ρ' μ (J ps) R) (hn : ∀ ρ' μ', J [] ρ' μ' → Zn (evSs T F r) ρ' μ' N R) : Zn (evSs T F t) ρ μ N R := z_go e (zn_for hF J k step hn)
theorem z_whl (hT : T.wh = whl) (J : Nat → Rho → Mu → Prop) (e : t = .cons (.whl c b) r) (n : Nat) (j : J n ρ μ)
    (step : ∀ m ρ μ, J m ρ μ → Cz T F c ρ μ fun k => (k = true → Zn (evSs T F b) ρ μ (fun ρ' μ' => ∃ m', m' < m ∧ J m' ρ' μ') R) ∧ (k = false → Zn (evSs T F r) ρ μ N R)) : Zn (evSs T F t) ρ μ N R := z_go e (zn_whl hT J n j step)
theorem Zf.mono {f : Nat} {ps : List P} {Q Q' : P → Mu → Prop} (k : Zf F f ps μ Q) (h : ∀ p μ', Q p μ' → Q' p μ') : Zf F f ps μ Q' := fun hd ds us a b c => (k hd ds us a b c).mono fun d h' ⟨p, μ', x, y⟩ => ⟨p, μ', h p μ' x, y⟩
/-- the item at a place that is there -/
def atT (l : List Tx) (k : Int) : Tx := (l[k.toNat]?).getD []
theorem tn_atT {l : List Tx} {k : Int} {Q : Tx → Prop} (h0 : 0 ≤ k) (h1 : k < l.length) (q : atT l k ∈ l → Q (atT l k)) : Tn (ixD l.length k) fun j => Tn l[j]? Q := by
  refine tn_atk rfl h0 h1 fun j x hj hx => ?_
  have : atT l k = x := by
    unfold atT
    rw [show k.toNat = j by omega, hx]
    rfl
  rw [← this]
  exact q (by rw [this]; exact List.mem_of_getElem? hx)
theorem lim_lt {a : Nat} (h : a ≤ 1000) : a < LIM := by show a < 16777216; omega
/-- a pile of words and places -/
theorem trs_dat {ps : List P} {d : Nat} (h : ∀ p ∈ ps, P.dle p d) (hd : d < 58) : (P.lst ps).dat = true := dat_of (dle_lst h) (by omega)
end
theorem lnZ_le : ∀ {frs : List Fr} {cur : List Stp}, (lnZ frs ++ lnP cur).length ≤ (lnP (plug frs cur)).length
  | [], cur => by simp [lnZ, plug]
  | f :: r, cur => by
    have h := lnZ_le (frs := r) (cur := f.fill cur)
    show _ ≤ (lnP (plug r (f.fill cur))).length
    refine Nat.le_trans ?_ h
    cases f <;> simp [lnZ, Fr.ln, Fr.fill, lnP_app, lnP, lnS] <;> omega
/-- a builder: the place L has the lines so far, the place Q the pile; so many lines are left, so many lends -/
structure Bst (root L Q : Nat) (frs : List Fr) (cur : List Stp) (here : Nat) (pl : List (Tx × Nat)) (us vs : List Nat) (left lends : Int) (μ : Mu) : Prop where
  z : Zst μ root frs cur here pl us vs
  l : μ L = some ((lnZ frs ++ lnP cur).map .str)
  q : μ Q = some (pl.map entR)
  nl : L ∉ us ++ vs
  nq : Q ∉ us ++ vs
  ne : L ≠ Q
  c : (lnP (plug frs cur)).length + left ≤ 59
  c0 : 0 ≤ left
  d : ldP (plug frs cur) + lends ≤ 3
  d0 : 0 ≤ lends
section
variable {root L Q : Nat} {frs : List Fr} {cur : List Stp} {here : Nat} {pl : List (Tx × Nat)} {us vs : List Nat} {left lends : Int} {μ : Mu}
theorem Bst.cl (b : Bst root L Q frs cur here pl us vs left lends μ) : (lnZ frs ++ lnP cur).length ≤ 59 := by
  have := lnZ_le (frs := frs) (cur := cur)
  have := b.c
  have := b.c0
  omega
theorem Bst.ql (b : Bst root L Q frs cur here pl us vs left lends μ) : pl.length ≤ 16 := by
  have := b.z.z.le
  have := b.z.g.d
  omega
theorem Bst.cell (b : Bst root L Q frs cur here pl us vs left lends μ) : ∃ rs, μ here = some rs ∧ rs.length ≤ 59 ∧ here ≠ L ∧ here ≠ Q := by
  obtain ⟨rs, ws, e, hl, rfl⟩ := b.z.cell
  have h1 := b.cl
  have h2 := len_lnP (p := cur)
  rw [List.length_append] at h1
  exact ⟨rs, e, by omega, fun z => b.nl (by simp [z]), fun z => b.nq (by simp [z])⟩
/-- a plain step told, and its line -/
theorem Bst.put {rs : List P} {w : List Tx} (b : Bst root L Q frs cur here pl us vs left lends μ) (e : μ here = some rs) (hw : plOk w = true) (hl : 0 < left) :
    Bst root L Q frs (cur ++ [.plain w]) here pl us vs (left - 1) lends ((μ.upd here (rs ++ [stpP (.plain w)])).upd L ((lnZ frs ++ lnP cur).map .str ++ [.str (joinT [32] w)])) := by
  obtain ⟨rs', e', _, n1, n2⟩ := b.cell
  have z := b.z.put e hw
  have k1 := plug_ln (frs := frs) (cur := cur) (cur' := cur ++ [.plain w]) (k := 1) (by simp [lnP_app, lnP, lnS])
  have k2 := plug_ld (frs := frs) (cur := cur) (cur' := cur ++ [.plain w]) (k := 0) (by simp [ldP_app, ldP, ldS])
  have := b.c
  have := b.d
  refine ⟨z.fr fun x hx => upd_ne fun y => b.nl (y ▸ hx), ?_, ?_, b.nl, b.nq, b.ne, by omega, by omega, by omega, b.d0⟩
  · rw [upd_same, lnP_app, lnP, lnP, lnS]; simp
  · rw [upd_ne b.ne.symm, upd_ne n2.symm]; exact b.q
theorem Bst.open1 {f : Fr} {us' : List Nat} {i : Nat} {item : P} {rs : List P} {word line : Tx} {k m : Nat} (b : Bst root L Q frs cur here pl us vs left lends μ) (ei : μ i = none) (z : Zst ((μ.upd i []).upd here (rs ++ [item])) root (f :: frs) [] i (pl ++ [(word, here)]) us' [i]) (hu : ∀ x ∈ us', x ∈ us ++ vs)
    (hf : lnZ (f :: frs) = lnZ frs ++ lnP cur ++ [line]) (hc : (lnP (plug (f :: frs) [])).length = (lnP (plug frs cur)).length + k) (hd : ldP (plug (f :: frs) []) = ldP (plug frs cur) + m) (hl : (k : Int) ≤ left) (hm : (m : Int) ≤ lends) :
    Bst root L Q (f :: frs) [] i (pl ++ [(word, here)]) us' [i] (left - k) (lends - m) ((((μ.upd i []).upd here (rs ++ [item])).upd Q (pl.map entR ++ [entR (word, here)])).upd L ((lnZ frs ++ lnP cur).map .str ++ [.str line])) := by
  obtain ⟨rs', e', _, n1, n2⟩ := b.cell
  have iL : i ≠ L := fun z => by rw [z, b.l] at ei; cases ei
  have iQ : i ≠ Q := fun z => by rw [z, b.q] at ei; cases ei
  have := b.c
  have := b.d
  have nl : L ∉ us' ++ [i] := fun z => by
    rcases List.mem_append.mp z with z | z
    · exact b.nl (hu L z)
    · exact iL (List.mem_singleton.mp z).symm
  have nq : Q ∉ us' ++ [i] := fun z => by
    rcases List.mem_append.mp z with z | z
    · exact b.nq (hu Q z)
    · exact iQ (List.mem_singleton.mp z).symm
  refine ⟨z.fr fun x hx => ?_, ?_, ?_, nl, nq, b.ne, by omega, by omega, by omega, by omega⟩
  · rw [upd_ne fun (y : x = L) => nl (y ▸ hx), upd_ne fun (y : x = Q) => nq (y ▸ hx)]
  · rw [upd_same, hf]; simp [lnP]
  · rw [upd_ne b.ne.symm, upd_same]; simp
theorem Bst.lend {x y : Tx} {i : Nat} {rs : List P} (b : Bst root L Q frs cur here pl us vs left lends μ) (e : μ here = some rs) (ei : μ i = none) (hx : wOk x = true) (hy : wOk y = true) (hd : frs.length < 8) (hl : 2 ≤ left) (hm : 1 ≤ lends) :
    ∃ us', Bst root L Q (.lend cur x y :: frs) [] i (pl ++ [(tBack, here)]) us' [i] (left - 2) (lends - 1) ((((μ.upd i []).upd here (rs ++ [.tup [.str tLend, .str x, .str y, .raw i]])).upd Q (pl.map entR ++ [entR (tBack, here)])).upd L ((lnZ frs ++ lnP cur).map .str ++ [.str (tLend ++ [32] ++ x ++ [32] ++ y)])) := by
  obtain ⟨us', z, hu⟩ := b.z.lend e ei hx hy hd
  exact ⟨us', b.open1 (k := 2) (m := 1) ei z hu (by simp [lnZ, Fr.ln]) (plug_ln (frs := frs) (by simp [Fr.fill, lnP_app, lnP, lnS])) (plug_ld (frs := frs) (by simp [Fr.fill, ldP_app, ldP, ldS])) hl hm⟩
theorem Bst.whl {k : Int} {i : Nat} {rs : List P} (b : Bst root L Q frs cur here pl us vs left lends μ) (e : μ here = some rs) (ei : μ i = none) (hk : -ONE60 < k ∧ k < ONE60) (hd : frs.length < 8) (hl : 2 ≤ left) :
    ∃ us', Bst root L Q (.whl cur k :: frs) [] i (pl ++ [(tDone, here)]) us' [i] (left - 2) lends ((((μ.upd i []).upd here (rs ++ [.tup [.str tWhile, .int k, .raw i]])).upd Q (pl.map entR ++ [entR (tDone, here)])).upd L ((lnZ frs ++ lnP cur).map .str ++ [.str (tWhile ++ [32] ++ showI k)])) := by
  obtain ⟨us', z, hu⟩ := b.z.whl e ei hk hd
  have := b.open1 (k := 2) (m := 0) ei z hu (line := tWhile ++ [32] ++ showI k) (by simp [lnZ, Fr.ln]) (plug_ln (frs := frs) (by simp [Fr.fill, lnP_app, lnP, lnS])) (plug_ld (frs := frs) (by simp [Fr.fill, ldP_app, ldP, ldS])) hl b.d0
  exact ⟨us', by simpa using this⟩
theorem Bst.ifs {k : Int} {i o : Nat} {rs : List P} (b : Bst root L Q frs cur here pl us vs left lends μ) (e : μ here = some rs) (ei : μ i = none) (eo : μ o = none) (hio : o ≠ i) (hk : -ONE60 < k ∧ k < ONE60) (hd : frs.length < 8) (hl : 3 ≤ left) :
    ∃ us', Bst root L Q (.ifa cur k :: frs) [] i (pl ++ [(tFi, here), (tElse, o)]) us' [i] (left - 3) lends ((((((μ.upd i []).upd o []).upd here (rs ++ [.tup [.str tIf, .int k, .raw i, .raw o]])).upd Q (pl.map entR ++ [entR (tFi, here)])).upd Q (pl.map entR ++ [entR (tFi, here)] ++ [entR (tElse, o)])).upd L ((lnZ frs ++ lnP cur).map .str ++ [.str (tIf ++ [32] ++ showI k)])) := by
  obtain ⟨us', z, hu⟩ := b.z.ifs e ei eo hio hk hd
  obtain ⟨rs', e', _, n1, n2⟩ := b.cell
  have iL : i ≠ L := fun z => by rw [z, b.l] at ei; cases ei
  have iQ : i ≠ Q := fun z => by rw [z, b.q] at ei; cases ei
  have oL : o ≠ L := fun z => by rw [z, b.l] at eo; cases eo
  have oQ : o ≠ Q := fun z => by rw [z, b.q] at eo; cases eo
  have k1 := plug_ln (frs := frs) (cur := cur) (cur' := Fr.fill (.ifa cur k) []) (k := 3) (by simp [Fr.fill, lnP_app, lnP, lnS])
  have k2 := plug_ld (frs := frs) (cur := cur) (cur' := Fr.fill (.ifa cur k) []) (k := 0) (by simp [Fr.fill, ldP_app, ldP, ldS])
  have := b.c
  have := b.d
  have := b.d0
  have nl : L ∉ us' ++ [i] := fun z => by
    rcases List.mem_append.mp z with z | z
    · rcases hu L z with z | z
      · exact oL z.symm
      · exact b.nl z
    · exact iL (List.mem_singleton.mp z).symm
  have nq : Q ∉ us' ++ [i] := fun z => by
    rcases List.mem_append.mp z with z | z
    · rcases hu Q z with z | z
      · exact oQ z.symm
      · exact b.nq z
    · exact iQ (List.mem_singleton.mp z).symm
  refine ⟨us', z.fr fun x hx => ?_, ?_, ?_, nl, nq, b.ne, ?_, by omega, ?_, b.d0⟩
  · rw [upd_ne fun (y : x = L) => nl (y ▸ hx), upd_ne fun (y : x = Q) => nq (y ▸ hx), upd_ne fun (y : x = Q) => nq (y ▸ hx)]
  · rw [upd_same]; simp [lnZ, Fr.ln, lnP]
  · rw [upd_ne b.ne.symm, upd_same]; simp
  · show ((lnP (plug frs (Fr.fill (.ifa cur k) []))).length : Int) + _ ≤ 59
    rw [k1]; omega
  · show ((ldP (plug frs (Fr.fill (.ifa cur k) [])) : Nat) : Int) + _ ≤ 3
    rw [k2]; omega
/-- the pile's last taken, and its word told as a line -/
theorem Bst.pop (b : Bst root L Q frs cur here pl us vs left lends μ) (hp : pl ≠ []) : ∃ pl' w n frs' cur' us' vs', pl = pl' ++ [(w, n)] ∧ plug frs' cur' = plug frs cur ∧ (lnZ frs' ++ lnP cur' = lnZ frs ++ lnP cur ++ [w]) ∧ (frs', cur') = popF frs cur ∧
    Bst root L Q frs' cur' n pl' us' vs' left lends ((μ.upd Q (pl'.map entR)).upd L ((lnZ frs ++ lnP cur).map .str ++ [.str w])) := by
  obtain ⟨pl', w, n, frs', cur', us', vs', e, z, e2, e3, hu, ef⟩ := b.z.pop hp
  have nl : L ∉ us' ++ vs' := fun z => b.nl (hu L z)
  have nq : Q ∉ us' ++ vs' := fun z => b.nq (hu Q z)
  have := b.c
  have := b.d
  refine ⟨pl', w, n, frs', cur', us', vs', e, e3, e2, ef, z.fr fun x hx => ?_, ?_, ?_, nl, nq, b.ne, by rw [e3]; omega, b.c0, by rw [e3]; omega, b.d0⟩
  · rw [upd_ne fun (y : x = L) => nl (y ▸ hx), upd_ne fun (y : x = Q) => nq (y ▸ hx)]
  · rw [upd_same, e2]; simp
  · rw [upd_ne b.ne.symm, upd_same]
theorem Bst.nil_iff (b : Bst root L Q frs cur here pl us vs left lends μ) : pl = [] ↔ frs = [] := by
  constructor
  · rintro rfl
    exact b.z.done.1
  · rintro rfl
    exact b.z.z.2.1
/-- the pile, whole -/
theorem Bst.deep (b : Bst root L Q frs cur here pl us vs left lends μ) : ∃ ps ws, Tr μ (.lst ps) (.raw Q) ws ∧ (P.lst ps).dat = true ∧ ps.length = pl.length := by
  obtain ⟨l, ws, h1, h2⟩ := b.z.z.deep b.z.t b.z.g
  refine ⟨l.map fun x => .tup [.str x.1, prgP x.2], _, tr_lst b.q h1, ?_, by have := h1.len; simpa using this.symm⟩
  refine trs_dat (d := 2 * 9 + 1 + 1 + 1) (fun p hp => ?_) (by decide)
  obtain ⟨x, hx, rfl⟩ := List.mem_map.mp hp
  refine dle_tup fun q hq => ?_
  simp at hq
  rcases hq with rfl | rfl
  · exact dle_str
  · refine dle_lst fun q hq => ?_
    have h := h2 x hx
    have := dle_stps x.2 (d := 2 * (9 - htP x.2)) q hq
    have e : 2 * htP x.2 + 1 + 2 * (9 - htP x.2) = 2 * 9 + 1 := by omega
    rw [e] at this
    exact this
theorem Bst.done (b : Bst root L Q frs cur here [] us vs left lends μ) : ∃ p us, p = plug frs cur ∧ Tr μ (prgP p) (.raw root) us ∧ us.Nodup ∧ L ∉ us ∧ μ L = some ((lnP p).map .str) ∧ wfP p = true ∧ okP 0 p = true ∧ (lnP p).length ≤ 59 ∧ ldP p ≤ 3 := by
  obtain ⟨rfl, rfl⟩ := b.z.done
  obtain ⟨_, _, n2⟩ := List.nodup_append.mp b.z.nd
  refine ⟨cur, vs, rfl, b.z.t, (List.nodup_append.mp b.z.nd).2.1, fun z => b.nl (List.mem_append_right _ z), ?_, b.z.g.w, b.z.g.k, ?_, ?_⟩
  · have := b.l
    simpa [lnZ] using this
  · have := b.c
    have := b.c0
    simp only [plug] at *
    omega
  · have := b.d
    have := b.d0
    simp only [plug] at *
    omega
theorem Bst.start {P Q' : Nat} (e1 : μ P = some []) (e2 : μ L = some []) (e3 : μ Q' = some []) (n1 : L ≠ P) (n2 : Q' ≠ P) (n3 : L ≠ Q') : Bst P L Q' [] [] P [] [] [P] 59 3 μ :=
  ⟨⟨⟨rfl, rfl, rfl⟩, tr_lst e1 .nil, by simp, ⟨trivial, by simp, by simp [wfP], by simp [okP]⟩⟩, by rw [e2]; rfl, e3, by simpa using n1, by simpa using n2, n3, by simp [plug, lnP], by omega, by simp [plug, ldP], by omega⟩
end
theorem Deep.one {ρ : Rho} {μ : Mu} {i lv : Nat} {r p : P} {us : List Nat} (e : ρ[i]? = some (some (r, lv))) (t : Tr μ p r us) (hr : r.scal = true) : Deep ρ μ (ρ.set i (some (nrm p 0))) := ⟨by rw [List.length_set], fun j => by
  by_cases z : i = j
  · subst z
    have : i < ρ.length := (List.getElem?_eq_some_iff.mp e).1
    exact .inr ⟨r, lv, p, us, e, t, hr, List.getElem?_set_self this⟩
  · rw [List.getElem?_set_ne z]; exact .inl rfl⟩
section
variable {T : Tab} {F : Nat → List D → M D} {FP : Nat → List P → Option (P × Nat)} {ρ : Rho} {t r : CSs}
/-- a slot told by a new value, all its own -/
theorem ds_own {a : Nat} {x : CE} (et : t = .cons (.set (.nm a) x) r) (ha : a < ρ.length) (k : ∀ h σ ow, Inv h σ ρ ow → Rn (evE T F x σ h) fun d h2 => FrA h h2 ∧ ∃ p ws, Rp h2 p d ws ∧ ws.Nodup ∧ (∀ x ∈ ws, h.length ≤ x) ∧ Ds T F r (ρ.set a (some (p, 2)))) : Ds T F t ρ := fun h σ ow I => by
  subst et
  rw [sn_cons, sn_set]
  refine (k h σ ow I).mono fun d h2 ⟨f2, p, ws, q, nd, new, kd⟩ => ?_
  have las : σ.length = ρ.length := I.len.symm
  have ea : asg (.nm a) d σ = some (σ.set a (some d)) := by simp [asg, las, ha]
  rw [ea, rn_some]
  refine kd h2 _ (fun x => if x ∈ ws then some a else ow x) ⟨by simp [I.len], fun j p' lv ej => ?_, fun x j ex => ?_, by simp only [List.length_set]; exact I.small⟩
  · by_cases za : a = j
    · subst za
      rw [List.getElem?_set_self ha] at ej
      cases ej
      exact ⟨d, ws, by rw [List.getElem?_set_self (by rw [las]; exact ha)], q, fun _ => ⟨nd, fun x hx => if_pos hx⟩, (by intro w; cases w), (by intro w; exact (w rfl).elim)⟩
    · rw [List.getElem?_set_ne za] at ej
      obtain ⟨d', us', e1', q', l⟩ := I.rep j p' lv ej
      have same : ∀ x ∈ us', (fun x => if x ∈ ws then some a else ow x) x = ow x := fun x hx => by
        have hlt := q'.lt x hx
        show (if x ∈ ws then some a else ow x) = ow x
        rw [if_neg fun y => (by have := new x y; omega)]
      refine ⟨d', us', by rw [List.getElem?_set_ne za]; exact e1', q'.frA f2, fun a => ⟨(l.1 a).1, fun x hx => (same x hx).trans ((l.1 a).2 x hx)⟩, fun a => ?_, fun a b x hx => (same x hx).trans (l.2.2 a b x hx)⟩
      obtain ⟨n, wz, rfl, w1, w2⟩ := l.2.1 a
      exact ⟨n, wz, rfl, (same n (by simp)).trans w1, fun x hx => (same x (by simp [hx])).trans (w2 x hx)⟩
  · have ex : (if x ∈ ws then some a else ow x) = some j := ex
    split at ex
    · rename_i z; exact q.lt x z
    · exact (I.own x j ex).fr f2
/-- a def's first result, whole and one's own -/
theorem ds_first (hF : FSnd F FP) {a f : Nat} {es : CEs} (e : t = .cons (.set (.nm a) (.idx (.call f es) (.cst (.int 0)))) r) (ha : a < ρ.length)
    (k : Tn (evPs FP es ρ) fun v => Zf F f v.ps (fun _ => none) fun q μ' => ∃ p1 p2 us, Tr μ' (.tup [p1, p2]) q us ∧ us.Nodup ∧ Ds T F r (ρ.set a (some (p1, 2)))) : Ds T F t ρ := ds_own e ha fun h σ ow I => by
  obtain ⟨v, e1, k⟩ := k.h
  rw [rn_idx, rn_call]
  refine (evPs_ok hF es I e1).mono fun ds h1 ⟨f1, us1, r1, _⟩ => ?_
  refine (k h1 ds us1 r1 (fun _ _ => rfl) (fun n ps e => by cases e)).mono fun d h2 ⟨q, μ', ⟨p1, p2, us, tr, nd, kd⟩, hq, q2, S2, le2, fr2, l2⟩ => ?_
  have f2 : FrA h1 h2 := ⟨le2, fun x hx => fr2 x hx rfl⟩
  obtain ⟨ds2, rfl, q3⟩ := rp_tup.mp (tr_rp S2 tr q2)
  obtain ⟨d1, d2, vs, ws, rfl, rfl, qa, qb⟩ := two_ps q3
  refine ⟨f1.trans f2, p1, vs, qa, (List.nodup_append.mp nd).1, fun x hx => ?_, kd⟩
  have := tr_mem tr x (by simp [hx])
  refine Nat.le_trans f1.1 (Nat.le_of_not_lt fun z => ?_)
  rw [l2 x z] at this
  cases this
/-- a def's result, whole and one's own -/
theorem ds_one (hF : FSnd F FP) {a f : Nat} {es : CEs} (e : t = .cons (.set (.nm a) (.call f es)) r) (ha : a < ρ.length)
    (k : Tn (evPs FP es ρ) fun v => Zf F f v.ps (fun _ => none) fun q μ' => ∃ p us, Tr μ' p q us ∧ us.Nodup ∧ Ds T F r (ρ.set a (some (p, 2)))) : Ds T F t ρ := ds_own e ha fun h σ ow I => by
  obtain ⟨v, e1, k⟩ := k.h
  rw [rn_call]
  refine (evPs_ok hF es I e1).mono fun ds h1 ⟨f1, us1, r1, _⟩ => ?_
  refine (k h1 ds us1 r1 (fun _ _ => rfl) (fun n ps e => by cases e)).mono fun d h2 ⟨q, μ', ⟨p, us, tr, nd, kd⟩, hq, q2, S2, le2, fr2, l2⟩ => ?_
  have f2 : FrA h1 h2 := ⟨le2, fun x hx => fr2 x hx rfl⟩
  refine ⟨f1.trans f2, p, us, tr_rp S2 tr q2, nd, fun x hx => ?_, kd⟩
  have := tr_mem tr x hx
  refine Nat.le_trans f1.1 (Nat.le_of_not_lt fun z => ?_)
  rw [l2 x z] at this
  cases this
end
end U
end

section
set_option maxRecDepth 100000
set_option maxHeartbeats 0
namespace C_k21
open PySem U L2
def top (i : Nat) : Stmt := PySem.Challenge.pw_usewarden_k21_lines_of_blocks.main.body.getD i (.Pass ⟨0, 0, 0, 0⟩)
def t0 : TD := ⟨⟨("lines_of_step", none), "lines_of_step", "lines_of_step", defArgs (top 1), defBody (top 1), defScope (top 1), [], []⟩, (["step"] : List Str)⟩
def t1 : TD := ⟨⟨("lines_of", none), "lines_of", "lines_of", defArgs (top 2), defBody (top 2), defScope (top 2), [], []⟩, (["program", "lines", "step"] : List Str)⟩
def t2 : TD := ⟨⟨("_law_cell_at", none), "_law_cell_at", "_law_cell_at", defArgs (top 4), defBody (top 4), defScope (top 4), [], []⟩, (["_law_script", "_law_k"] : List Str)⟩
def t3 : TD := ⟨⟨("_law_names", none), "_law_names", "_law_names", defArgs (top 5), defBody (top 5), defScope (top 5), [], []⟩, (["_law_cell", "_law_letters", "_law_base", "_law_many", "_law_size", "_law_at", "_law_found", "_law_k", "_law_sign"] : List Str)⟩
def t4 : TD := ⟨⟨("_law_bound", none), "_law_bound", "_law_bound", defArgs (top 6), defBody (top 6), defScope (top 6), [], []⟩, (["_law_cell", "_law_way"] : List Str)⟩
def t5 : TD := ⟨⟨("_law_step", none), "_law_step", "_law_step", defArgs (top 7), defBody (top 7), defScope (top 7), [], []⟩, (["_law_cell", "_law_names_here", "_law_x", "_law_y", "_law_kind", "_law_words"] : List Str)⟩
def t6 : TD := ⟨⟨("_law_begun", none), "_law_begun", "_law_begun", defArgs (top 8), defBody (top 8), defScope (top 8), [], []⟩, (["_law_here", "_law_pile", "_law_lines", "_law_cell", "_law_names_here", "_law_x", "_law_y", "_law_inner", "_law_bound_here", "_law_others"] : List Str)⟩
def t7 : TD := ⟨⟨("_law_program", none), "_law_program", "_law_program", defArgs (top 9), defBody (top 9), defScope (top 9), [], []⟩, (["_law_cells", "_law_names_here", "_law_program_here", "_law_lines", "_law_pile", "_law_here", "_law_left", "_law_lends", "_law_cell", "_law_kind", "_law_deep", "_law_word", "_law_one"] : List Str)⟩
def t8 : TD := ⟨⟨("_law_texts", none), "_law_texts", "_law_texts", defArgs (top 10), defBody (top 10), defScope (top 10), [], []⟩, (["_law_found", "_law_due", "_law_line", "_law_other"] : List Str)⟩
def t9 : TD := ⟨⟨("law", none), "law", "law", defArgs (top 11), defBody (top 11), defScope (top 11), [], []⟩, (["_law_script", "_law_names_here", "_law_program_here", "_law_lines", "_law_again"] : List Str)⟩
def tb : List TD := ([t0, t1, t2, t3, t4, t5, t6, t7, t8, t9] : List TD)
def cs : List (Str × D) := ([] : List (Str × D))
def fr : List Str := (["int", "isinstance", "len", "list", "range", "str", "zip"] : List Str)
def i_lines_of_step : Nat := 0
def i_lines_of : Nat := 1
def i__law_cell_at : Nat := 2
def i__law_names : Nat := 3
def i__law_bound : Nat := 4
def i__law_step : Nat := 5
def i__law_begun : Nat := 6
def i__law_program : Nat := 7
def i__law_texts : Nat := 8
def i_law : Nat := 9
def c_lines_of_step_0 : CSs := .cons (.ret (.lst (.cons (.bmt .join (.cst (.str [32])) (.cons (.var 0) .nil)) .nil))) CSs.nil
def c_lines_of_step_1 : CSs := .cons (.ret (.bin .add (.bin .add (.lst (.cons (.bin .add (.cst (.str [119, 104, 105, 108, 101, 32])) (.blt .str (.cons (.idx (.var 0) (.cst (.int 1))) .nil))) .nil)) (.call i_lines_of (.cons (.idx (.var 0) (.cst (.int 2))) .nil))) (.lst (.cons (.cst (.str [100, 111, 110, 101])) .nil)))) CSs.nil
def c_lines_of_step_2 : CSs := .cons (.ite (.val (.cmp .eq (.idx (.var 0) (.cst (.int 0))) (.cst (.str [119, 104, 105, 108, 101])))) c_lines_of_step_1 CSs.nil) c_lines_of_step_0
def c_lines_of_step_3 : CSs := .cons (.ret (.bin .add (.bin .add (.bin .add (.bin .add (.lst (.cons (.bin .add (.cst (.str [105, 102, 32])) (.blt .str (.cons (.idx (.var 0) (.cst (.int 1))) .nil))) .nil)) (.call i_lines_of (.cons (.idx (.var 0) (.cst (.int 2))) .nil))) (.lst (.cons (.cst (.str [101, 108, 115, 101])) .nil))) (.call i_lines_of (.cons (.idx (.var 0) (.cst (.int 3))) .nil))) (.lst (.cons (.cst (.str [102, 105])) .nil)))) CSs.nil
def c_lines_of_step_4 : CSs := .cons (.ite (.val (.cmp .eq (.idx (.var 0) (.cst (.int 0))) (.cst (.str [105, 102])))) c_lines_of_step_3 CSs.nil) c_lines_of_step_2
def c_lines_of_step_5 : CSs := .cons (.ret (.bin .add (.bin .add (.lst (.cons (.bin .add (.bin .add (.bin .add (.cst (.str [108, 101, 110, 100, 32])) (.idx (.var 0) (.cst (.int 1)))) (.cst (.str [32]))) (.idx (.var 0) (.cst (.int 2)))) .nil)) (.call i_lines_of (.cons (.idx (.var 0) (.cst (.int 3))) .nil))) (.lst (.cons (.cst (.str [98, 97, 99, 107])) .nil)))) CSs.nil
def c_lines_of_step_6 : CSs := .cons (.ite (.val (.cmp .eq (.idx (.var 0) (.cst (.int 0))) (.cst (.str [108, 101, 110, 100])))) c_lines_of_step_5 CSs.nil) c_lines_of_step_4
def b_lines_of_step : CDef := ⟨1, 1, c_lines_of_step_6⟩
def c_lines_of_0 : CSs := .cons (.ret (.var 1)) CSs.nil
def c_lines_of_1 : CSs := .cons (.ex (.bmt .extend (.var 1) (.cons (.call i_lines_of_step (.cons (.var 2) .nil)) .nil))) CSs.nil
def c_lines_of_2 : CSs := .cons (.for_ (.nm 2) (.e (.var 0)) c_lines_of_1) c_lines_of_0
def c_lines_of_3 : CSs := .cons (.set (.nm 1) (.lst .nil)) c_lines_of_2
def b_lines_of : CDef := ⟨1, 3, c_lines_of_3⟩
def c__law_cell_at_0 : CSs := .cons (.ret (.cst (.int 0))) CSs.nil
def c__law_cell_at_1 : CSs := .cons (.ret (.idx (.var 0) (.var 1))) CSs.nil
def c__law_cell_at_2 : CSs := .cons (.ite (.val (.cmp .lt (.var 1) (.blt .len (.cons (.var 0) .nil)))) c__law_cell_at_1 CSs.nil) c__law_cell_at_0
def b__law_cell_at : CDef := ⟨2, 2, c__law_cell_at_2⟩
def c__law_names_0 : CSs := .cons (.ret (.var 6)) CSs.nil
def c__law_names_1 : CSs := .cons (.ex (.bmt .append (.var 6) (.cons (.bin .add (.bin .add (.slc (.var 2) (.cst (.non)) (.var 5)) (.var 8)) (.slc (.var 2) (.bin .add (.var 5) (.cst (.int 1))) (.var 4))) .nil))) CSs.nil
def c__law_names_2 : CSs := .cons (.set (.nm 8) (.idx (.var 1) (.bin .mod (.bin .add (.bin .fdiv (.var 0) (.cst (.int 320))) (.bin .mul (.cst (.int 5)) (.var 7))) (.cst (.int 26))))) c__law_names_1
def c__law_names_3 : CSs := .cons (.for_ (.nm 7) (.rng1 (.var 3)) c__law_names_2) c__law_names_0
def c__law_names_4 : CSs := .cons (.set (.nm 6) (.lst .nil)) c__law_names_3
def c__law_names_5 : CSs := .cons (.set (.nm 5) (.bin .mod (.bin .fdiv (.var 0) (.cst (.int 40))) (.var 4))) c__law_names_4
def c__law_names_6 : CSs := .cons (.set (.nm 4) (.bin .add (.cst (.int 1)) (.bin .mod (.bin .fdiv (.var 0) (.cst (.int 5))) (.cst (.int 8))))) c__law_names_5
def c__law_names_7 : CSs := .cons (.ret (.slc (.lst (.cons (.slc (.var 2) (.cst (.non)) (.cst (.int 3))) (.cons (.slc (.var 2) (.cst (.non)) (.cst (.int 8))) (.cons (.slc (.var 2) (.cst (.non)) (.cst (.int 2))) (.cons (.slc (.var 2) (.cst (.non)) (.cst (.int 1))) .nil))))) (.cst (.non)) (.var 3))) CSs.nil
def c__law_names_8 : CSs := .cons (.ite (.val (.cmp .eq (.bin .mod (.var 0) (.cst (.int 5))) (.cst (.int 2)))) c__law_names_7 CSs.nil) c__law_names_6
def c__law_names_9 : CSs := .cons (.ret (.slc (.lst (.cons (.cst (.str [105, 102])) (.cons (.cst (.str [108, 101, 110, 100])) (.cons (.cst (.str [102, 105])) (.cons (.cst (.str [100, 111, 110, 101])) .nil))))) (.cst (.non)) (.var 3))) CSs.nil
def c__law_names_10 : CSs := .cons (.ite (.val (.cmp .eq (.bin .mod (.var 0) (.cst (.int 5))) (.cst (.int 1)))) c__law_names_9 CSs.nil) c__law_names_8
def c__law_names_11 : CSs := .cons (.set (.nm 3) (.bin .add (.cst (.int 1)) (.bin .mod (.bin .fdiv (.var 0) (.cst (.int 7))) (.cst (.int 4))))) c__law_names_10
def c__law_names_12 : CSs := .cons (.set (.nm 2) (.bmt .join (.cst (.str [])) (.cons (.comp [7] (.idx (.var 1) (.bin .mod (.bin .add (.bin .fdiv (.var 0) (.bin .add (.var 7) (.cst (.int 1)))) (.bin .mul (.bin .mul (.var 7) (.var 7)) (.var 0))) (.cst (.int 26)))) (.nm 7) (.rng1 (.cst (.int 8))) none) .nil))) c__law_names_11
def c__law_names_13 : CSs := .cons (.set (.nm 1) (.cst (.str LET))) c__law_names_12
def b__law_names : CDef := ⟨1, 9, c__law_names_13⟩
def c__law_bound_0 : CSs := .cons (.ret (.bin .sub (.bin .sub (.bin .pow (.cst (.int 10)) (.cst (.int 60))) (.cst (.int 1))) (.bin .mod (.var 0) (.cst (.int 3))))) CSs.nil
def c__law_bound_1 : CSs := .cons (.ret (.bin .sub (.cst (.int 0)) (.bin .mod (.var 0) (.bin .pow (.cst (.int 10)) (.cst (.int 60)))))) CSs.nil
def c__law_bound_2 : CSs := .cons (.ite (.val (.cmp .eq (.var 1) (.cst (.int 2)))) c__law_bound_1 CSs.nil) c__law_bound_0
def c__law_bound_3 : CSs := .cons (.ret (.bin .mod (.var 0) (.bin .pow (.cst (.int 10)) (.cst (.int 60))))) CSs.nil
def c__law_bound_4 : CSs := .cons (.ite (.val (.cmp .eq (.var 1) (.cst (.int 1)))) c__law_bound_3 CSs.nil) c__law_bound_2
def c__law_bound_5 : CSs := .cons (.ret (.bin .sub (.bin .mod (.bin .fdiv (.var 0) (.cst (.int 13))) (.cst (.int 7))) (.cst (.int 3)))) CSs.nil
def c__law_bound_6 : CSs := .cons (.ite (.val (.cmp .eq (.var 1) (.cst (.int 0)))) c__law_bound_5 CSs.nil) c__law_bound_4
def c__law_bound_7 : CSs := .cons (.set (.nm 1) (.bin .mod (.bin .mod (.bin .mul (.var 0) (.cst (.int 16807))) (.cst (.int 65537))) (.cst (.int 4)))) c__law_bound_6
def b__law_bound : CDef := ⟨1, 2, c__law_bound_7⟩
def c__law_step_0 : CSs := .cons (.ret (.tup (.cons (.cst (.str [100, 111])) (.cons (.idx (.var 5) (.bin .mod (.bin .mod (.bin .mul (.var 0) (.cst (.int 40692))) (.cst (.int 4001))) (.blt .len (.cons (.var 5) .nil)))) (.cons (.var 2) .nil))))) CSs.nil
def c__law_step_1 : CSs := .cons (.set (.nm 5) (.bin .add (.var 1) (.lst (.cons (.cst (.str [111, 112, 101, 110])) (.cons (.cst (.str [108, 101, 110, 100])) (.cons (.cst (.str [98, 97, 99, 107])) (.cons (.cst (.str [101, 110, 100])) (.cons (.cst (.str [114, 101, 97, 100])) (.cons (.cst (.str [100, 111, 110, 101])) .nil))))))))) c__law_step_0
def c__law_step_2 : CSs := .cons (.ret (.tup (.cons (.cst (.str [116, 105, 101])) (.cons (.var 2) (.cons (.var 3) .nil))))) CSs.nil
def c__law_step_3 : CSs := .cons (.ite (.val (.cmp .eq (.var 4) (.cst (.int 7)))) c__law_step_2 CSs.nil) c__law_step_1
def c__law_step_4 : CSs := .cons (.ret (.tup (.cons (.cst (.str [100, 114, 111, 112])) (.cons (.var 2) .nil)))) CSs.nil
def c__law_step_5 : CSs := .cons (.ite (.val (.cmp .eq (.var 4) (.cst (.int 6)))) c__law_step_4 CSs.nil) c__law_step_3
def c__law_step_6 : CSs := .cons (.ret (.tup (.cons (.cst (.str [99, 111, 112, 121])) (.cons (.var 2) (.cons (.var 3) .nil))))) CSs.nil
def c__law_step_7 : CSs := .cons (.ite (.val (.cmp .eq (.var 4) (.cst (.int 5)))) c__law_step_6 CSs.nil) c__law_step_5
def c__law_step_8 : CSs := .cons (.ret (.tup (.cons (.cst (.str [111, 112, 101, 110])) (.cons (.var 2) .nil)))) CSs.nil
def c__law_step_9 : CSs := .cons (.ite (.val (.cmp .lt (.var 4) (.cst (.int 2)))) c__law_step_8 CSs.nil) c__law_step_7
def c__law_step_10 : CSs := .cons (.set (.nm 4) (.bin .mod (.var 0) (.cst (.int 13)))) c__law_step_9
def c__law_step_11 : CSs := .cons (.set (.nm 3) (.idx (.var 1) (.bin .mod (.bin .mod (.bin .mul (.var 0) (.cst (.int 69621))) (.cst (.int 2003))) (.blt .len (.cons (.var 1) .nil))))) c__law_step_10
def c__law_step_12 : CSs := .cons (.set (.nm 2) (.idx (.var 1) (.bin .mod (.bin .mod (.bin .mul (.var 0) (.cst (.int 48271))) (.cst (.int 1009))) (.blt .len (.cons (.var 1) .nil))))) c__law_step_11
def b__law_step : CDef := ⟨2, 6, c__law_step_12⟩
def c__law_begun_0 : CSs := .cons (.ret (.var 7)) CSs.nil
def c__law_begun_1 : CSs := .cons (.ex (.bmt .append (.var 2) (.cons (.bin .add (.cst (.str [105, 102, 32])) (.blt .str (.cons (.var 8) .nil))) .nil))) c__law_begun_0
def c__law_begun_2 : CSs := .cons (.ex (.bmt .append (.var 1) (.cons (.tup (.cons (.cst (.str [101, 108, 115, 101])) (.cons (.var 9) .nil))) .nil))) c__law_begun_1
def c__law_begun_3 : CSs := .cons (.ex (.bmt .append (.var 1) (.cons (.tup (.cons (.cst (.str [102, 105])) (.cons (.var 0) .nil))) .nil))) c__law_begun_2
def c__law_begun_4 : CSs := .cons (.ex (.bmt .append (.var 0) (.cons (.tup (.cons (.cst (.str [105, 102])) (.cons (.var 8) (.cons (.var 7) (.cons (.var 9) .nil))))) .nil))) c__law_begun_3
def c__law_begun_5 : CSs := .cons (.set (.nm 9) (.lst .nil)) c__law_begun_4
def c__law_begun_6 : CSs := .cons (.ret (.var 7)) CSs.nil
def c__law_begun_7 : CSs := .cons (.ex (.bmt .append (.var 2) (.cons (.bin .add (.cst (.str [119, 104, 105, 108, 101, 32])) (.blt .str (.cons (.var 8) .nil))) .nil))) c__law_begun_6
def c__law_begun_8 : CSs := .cons (.ex (.bmt .append (.var 1) (.cons (.tup (.cons (.cst (.str [100, 111, 110, 101])) (.cons (.var 0) .nil))) .nil))) c__law_begun_7
def c__law_begun_9 : CSs := .cons (.ex (.bmt .append (.var 0) (.cons (.tup (.cons (.cst (.str [119, 104, 105, 108, 101])) (.cons (.var 8) (.cons (.var 7) .nil)))) .nil))) c__law_begun_8
def c__law_begun_10 : CSs := .cons (.ite (.val (.cmp .eq (.bin .mod (.var 3) (.cst (.int 13))) (.cst (.int 10)))) c__law_begun_9 CSs.nil) c__law_begun_5
def c__law_begun_11 : CSs := .cons (.set (.nm 8) (.call i__law_bound (.cons (.var 3) .nil))) c__law_begun_10
def c__law_begun_12 : CSs := .cons (.ret (.var 7)) CSs.nil
def c__law_begun_13 : CSs := .cons (.ex (.bmt .append (.var 2) (.cons (.bin .add (.bin .add (.bin .add (.cst (.str [108, 101, 110, 100, 32])) (.var 5)) (.cst (.str [32]))) (.var 6)) .nil))) c__law_begun_12
def c__law_begun_14 : CSs := .cons (.ex (.bmt .append (.var 1) (.cons (.tup (.cons (.cst (.str [98, 97, 99, 107])) (.cons (.var 0) .nil))) .nil))) c__law_begun_13
def c__law_begun_15 : CSs := .cons (.ex (.bmt .append (.var 0) (.cons (.tup (.cons (.cst (.str [108, 101, 110, 100])) (.cons (.var 5) (.cons (.var 6) (.cons (.var 7) .nil))))) .nil))) c__law_begun_14
def c__law_begun_16 : CSs := .cons (.ite (.val (.cmp .eq (.bin .mod (.var 3) (.cst (.int 13))) (.cst (.int 8)))) c__law_begun_15 CSs.nil) c__law_begun_11
def c__law_begun_17 : CSs := .cons (.set (.nm 7) (.lst .nil)) c__law_begun_16
def c__law_begun_18 : CSs := .cons (.set (.nm 6) (.idx (.var 4) (.bin .mod (.bin .mod (.bin .mul (.var 3) (.cst (.int 69621))) (.cst (.int 2003))) (.blt .len (.cons (.var 4) .nil))))) c__law_begun_17
def c__law_begun_19 : CSs := .cons (.set (.nm 5) (.idx (.var 4) (.bin .mod (.bin .mod (.bin .mul (.var 3) (.cst (.int 48271))) (.cst (.int 1009))) (.blt .len (.cons (.var 4) .nil))))) c__law_begun_18
def b__law_begun : CDef := ⟨5, 10, c__law_begun_19⟩
def c__law_program_0 : CSs := .cons (.ret (.tup (.cons (.var 2) (.cons (.var 3) .nil)))) CSs.nil
def c__law_program_1 : CSs := .cons (.ex (.bmt .append (.var 3) (.cons (.var 11) .nil))) CSs.nil
def c__law_program_2 : CSs := .cons (.set (.tp [(.nm 11), (.nm 5)]) (.bmt .pop (.var 4) .nil)) c__law_program_1
def c__law_program_3 : CSs := .cons (.whl (.val (.cmp .ne (.var 4) (.lst .nil))) c__law_program_2) c__law_program_0
def c__law_program_4 : CSs := .cons (.ex (.bmt .append (.var 3) (.cons (.var 11) .nil))) CSs.nil
def c__law_program_5 : CSs := .cons (.set (.tp [(.nm 11), (.nm 5)]) (.bmt .pop (.var 4) .nil)) c__law_program_4
def c__law_program_6 : CSs := .cons (.set (.nm 5) (.call i__law_begun (.cons (.var 5) (.cons (.var 4) (.cons (.var 3) (.cons (.var 8) (.cons (.var 1) .nil))))))) CSs.nil
def c__law_program_7 : CSs := .cons (.set (.nm 7) (.bin .sub (.var 7) (.blt .int (.cons (.cmp .eq (.var 9) (.cst (.int 8))) .nil)))) c__law_program_6
def c__law_program_8 : CSs := .cons (.set (.nm 6) (.bin .add (.bin .sub (.var 6) (.cst (.int 3))) (.blt .int (.cons (.cmp .ne (.var 9) (.cst (.int 9))) .nil)))) c__law_program_7
def c__law_program_9 : CSs := .cons (.ex (.bmt .append (.var 3) (.cons (.bmt .join (.cst (.str [32])) (.cons (.idx (.var 5) (.neg (.cst (.int 1)))) .nil)) .nil))) CSs.nil
def c__law_program_10 : CSs := .cons (.ex (.bmt .append (.var 5) (.cons (.call i__law_step (.cons (.var 8) (.cons (.var 1) .nil))) .nil))) c__law_program_9
def c__law_program_11 : CSs := .cons (.set (.nm 6) (.bin .sub (.var 6) (.cst (.int 1)))) c__law_program_10
def c__law_program_12 : CSs := .cons (.ite (.and (.val (.cmp .lt (.var 9) (.cst (.int 8)))) (.val (.cmp .gt (.var 6) (.cst (.int 0))))) c__law_program_11 CSs.nil) CSs.nil
def c__law_program_13 : CSs := .cons (.ite (.and (.val (.chn .le .le (.cst (.int 8)) (.var 9) (.cst (.int 10)))) (.and (.val (.cmp .gt (.var 6) (.cst (.int 2)))) (.and (.val (.cmp .lt (.var 10) (.cst (.int 8)))) (.or (.val (.cmp .ne (.var 9) (.cst (.int 8)))) (.val (.cmp .gt (.var 7) (.cst (.int 0)))))))) c__law_program_8 c__law_program_12) CSs.nil
def c__law_program_14 : CSs := .cons (.ite (.and (.val (.cmp .gt (.var 9) (.cst (.int 10)))) (.val (.cmp .ne (.var 4) (.lst .nil)))) c__law_program_5 c__law_program_13) CSs.nil
def c__law_program_15 : CSs := .cons (.set (.nm 10) (.blt .len (.cons (.comp [12] (.var 12) (.nm 12) (.e (.var 4)) (some (.val (.cmp .ne (.idx (.var 12) (.cst (.int 0))) (.cst (.str [101, 108, 115, 101])))))) .nil))) c__law_program_14
def c__law_program_16 : CSs := .cons (.set (.nm 9) (.bin .mod (.var 8) (.cst (.int 13)))) c__law_program_15
def c__law_program_17 : CSs := .cons (.for_ (.nm 8) (.e (.var 0)) c__law_program_16) c__law_program_3
def c__law_program_18 : CSs := .cons (.set (.nm 7) (.cst (.int 3))) c__law_program_17
def c__law_program_19 : CSs := .cons (.set (.nm 6) (.cst (.int 59))) c__law_program_18
def c__law_program_20 : CSs := .cons (.set (.nm 5) (.var 2)) c__law_program_19
def c__law_program_21 : CSs := .cons (.set (.nm 4) (.lst .nil)) c__law_program_20
def c__law_program_22 : CSs := .cons (.set (.nm 3) (.lst .nil)) c__law_program_21
def c__law_program_23 : CSs := .cons (.set (.nm 2) (.lst .nil)) c__law_program_22
def b__law_program : CDef := ⟨2, 13, c__law_program_23⟩
def c__law_texts_0 : CSs := .cons (.ret (.cst (.bl true))) CSs.nil
def c__law_texts_1 : CSs := .cons (.ret (.cst (.bl false))) CSs.nil
def c__law_texts_2 : CSs := .cons (.ite (.or (.not (.val (.blt (.isi .str) (.cons (.var 2) .nil)))) (.val (.cmp .ne (.var 2) (.var 3)))) c__law_texts_1 CSs.nil) CSs.nil
def c__law_texts_3 : CSs := .cons (.for_ (.tp [(.nm 2), (.nm 3)]) (.zip (.var 0) (.var 1)) c__law_texts_2) c__law_texts_0
def c__law_texts_4 : CSs := .cons (.ret (.cst (.bl false))) CSs.nil
def c__law_texts_5 : CSs := .cons (.ite (.or (.not (.val (.blt (.isi .list) (.cons (.var 0) .nil)))) (.val (.cmp .ne (.blt .len (.cons (.var 0) .nil)) (.blt .len (.cons (.var 1) .nil))))) c__law_texts_4 CSs.nil) c__law_texts_3
def b__law_texts : CDef := ⟨2, 4, c__law_texts_5⟩
def c_law_0 : CSs := .cons (.ret (.call i__law_texts (.cons (.call i_lines_of (.cons (.var 2) .nil)) (.cons (.bin .add (.var 3) (.lst (.cons (.bin .add (.cst (.str [100, 114, 111, 112, 32])) (.idx (.var 1) (.cst (.int 0)))) .nil))) .nil)))) CSs.nil
def c_law_1 : CSs := .cons (.ex (.bmt .append (.var 2) (.cons (.tup (.cons (.cst (.str [100, 114, 111, 112])) (.cons (.idx (.var 1) (.cst (.int 0))) .nil))) .nil))) c_law_0
def c_law_2 : CSs := .cons (.ret (.cst (.bl false))) CSs.nil
def c_law_3 : CSs := .cons (.ite (.or (.not (.val (.call i__law_texts (.cons (.call i_lines_of (.cons (.var 2) .nil)) (.cons (.var 3) .nil))))) (.val (.cmp .ne (.var 2) (.var 4)))) c_law_2 CSs.nil) c_law_1
def c_law_4 : CSs := .cons (.set (.nm 4) (.idx (.call i__law_program (.cons (.slc (.var 0) (.cst (.int 1)) (.cst (.int 201))) (.cons (.var 1) .nil))) (.cst (.int 0)))) c_law_3
def c_law_5 : CSs := .cons (.set (.tp [(.nm 2), (.nm 3)]) (.call i__law_program (.cons (.slc (.var 0) (.cst (.int 1)) (.cst (.int 201))) (.cons (.var 1) .nil)))) c_law_4
def c_law_6 : CSs := .cons (.set (.nm 1) (.call i__law_names (.cons (.call i__law_cell_at (.cons (.var 0) (.cons (.cst (.int 0)) .nil))) .nil))) c_law_5
def b_law : CDef := ⟨1, 5, c_law_6⟩
def bs : List CDef := ([b_lines_of_step, b_lines_of, b__law_cell_at, b__law_names, b__law_bound, b__law_step, b__law_begun, b__law_program, b__law_texts, b_law] : List CDef)
noncomputable def T : Tab := tabOf bs
def fn (f : Nat) : Option CDef := bs[f]?
theorem fn_lines_of_step : fn i_lines_of_step = some b_lines_of_step := rfl
theorem fn_lines_of : fn i_lines_of = some b_lines_of := rfl
theorem fn__law_cell_at : fn i__law_cell_at = some b__law_cell_at := rfl
theorem fn__law_names : fn i__law_names = some b__law_names := rfl
theorem fn__law_bound : fn i__law_bound = some b__law_bound := rfl
theorem fn__law_step : fn i__law_step = some b__law_step := rfl
theorem fn__law_begun : fn i__law_begun = some b__law_begun := rfl
theorem fn__law_program : fn i__law_program = some b__law_program := rfl
theorem fn__law_texts : fn i__law_texts = some b__law_texts := rfl
theorem fn_law : fn i_law = some b_law := rfl
def Plain : Prop := ∀ ns : List Int, ns.length ≤ 63 → Ds T (callD T 199) b_law.body (some (.scr ns, 0) :: List.replicate (b_law.sl - 1) none)
end C_k21
end

section
set_option maxRecDepth 100000
set_option maxHeartbeats 1000000
namespace C_k21
open PySem U
theorem s_cell {n : Nat} (hn : 1 ≤ n) (ns : List Int) (k : Nat) : Tn (callP fn n i__law_cell_at [.scr ns, .int k]) fun r => r = (.int (cellAt ns k), 2) := by
  obtain ⟨n, rfl, hn⟩ := succ_of hn
  refine callP_succ fn__law_cell_at rfl ?_
  unfold b__law_cell_at cellAt
  (refine pn_go rfl ?_; simp)
  split
  · rename_i h
    (refine pn_go rfl ?_; simp)
    simp [ix_nat h, h]
  · rename_i h
    (refine pn_go rfl ?_; simp)
    simp [List.getElem?_eq_none (Nat.le_of_not_lt h)]

theorem s_names {n : Nat} (hn : 1 ≤ n) (c : Int) : Tn (callP fn n i__law_names [.int c]) ((Hid (fun r => ∃ nms : List Tx, r = (.lst (nms.map .str), 2) ∧ 1 ≤ nms.length ∧ nms.length ≤ 4 ∧ (∀ w ∈ nms, wOk w = true) ) .mk)) := by
  obtain ⟨n, rfl, hn⟩ := succ_of hn
  refine callP_succ fn__law_names rfl ?_
  unfold b__law_names
  (refine pn_go rfl ?_; simp)
  refine pn_go rfl ?_
  simp
  refine ⟨by decide, ?_⟩
  refine compP_rng (enc := P.str) (fun _ t => ∃ ch ∈ LET, t = [ch]) (fun k hk => ?_) fun us lk hul hu => ?_
  · simp
    have hkk : (k : Int) * k = ((k * k : Nat) : Int) := by simp
    have hkk2 := Nat.mul_le_mul (show k ≤ 7 by omega) (show k ≤ 7 by omega)
    refine ⟨div_ok (by omega), mul_nat (by omega), mul_l (by omega), ?_⟩
    refine tn_at let_len (by omega) (by omega) fun ch hch => ?_
    exact ⟨_, _, rfl, ch, hch, rfl⟩
  have hu2 := all_get (Pr := fun t => ∃ ch ∈ LET, t = [ch]) hu
  obtain ⟨base, eb, hb⟩ := sing_of hu2
  have hbl : base.length = 8 := by rw [← hul, eb]; simp
  have hj : joinT [] us = base := by rw [eb]; exact joinT_sing
  have hs : sumLen us = 8 := by rw [eb, sumLen_sing, hbl]
  simp
  rw [hs, hj]
  refine ⟨by omega, by omega, ?_⟩
  (refine pn_go rfl ?_; simp)
  (repeat refine And.intro (by first | omega | with_reducible exact div_ok (by omega) | with_reducible exact mul_l (by omega) | with_reducible exact mul_r (by omega) | with_reducible exact mul_nat (by omega) | with_reducible exact log_le (by omega) | (simp [in62] <;> omega)) ?_)
  obtain ⟨m, em⟩ := nat_of (i := 1 + c / 7 % 4) (by omega)
  rw [em]
  have cm : ∀ ts : List Tx, cut (ts.map P.str) none (some (m : Int)) = (ts.take m).map P.str := fun ts => by
    unfold cut sIx
    dsimp only
    rw [if_pos (by omega), List.map_take]
    simp
  have four : ∀ a b c d : Tx, wOk a = true → wOk b = true → wOk c = true → wOk d = true → (Hid (fun r : P × Nat => ∃ nms : List Tx, r = (P.lst (nms.map P.str), 2) ∧ 1 ≤ nms.length ∧ nms.length ≤ 4 ∧ (∀ w ∈ nms, wOk w = true)) .mk) (P.lst (cut [P.str a, P.str b, P.str c, P.str d] none (some (m : Int))), 2) := fun a b c' d ha hb hc hd => by
    refine ⟨[a, b, c', d].take m, ?_, by simp; omega, by simp; omega, fun w hw => ?_⟩
    · rw [← cm]; rfl
    · have := List.mem_of_mem_take hw
      simp at this
      rcases this with rfl | rfl | rfl | rfl <;> assumption
  have sc : ∀ a b c d : Tx, P.scals (cut [P.str a, P.str b, P.str c, P.str d] none (some (m : Int))) = true := fun a b c' d => by
    have := cm [a, b, c', d]
    simp only [List.map_cons, List.map_nil] at this
    rw [this]
    exact scals_strs _
  (refine pn_go rfl ?_; simp)
  split
  · (refine pn_go rfl ?_; simp)
    rw [opv_lst (sc _ _ _ _)]
    exact four _ _ _ _ (by decide) (by decide) (by decide) (by decide)
  (refine pn_go rfl ?_; simp)
  split
  · have ct : ∀ k : Nat, k ≤ 8 → 1 ≤ k → wOk (cut base none (some (k : Int))) = true := fun k hk hk1 => by
      have : cut base none (some (k : Int)) = base.take k := by
        unfold cut sIx
        dsimp only
        rw [if_pos (by omega)]
        simp
      rw [this]
      refine wOk_iff.mpr ⟨by simp; omega, by simp; omega, fun ch hch => hb ch (List.mem_of_mem_take hch)⟩
    (refine pn_go rfl ?_; simp)
    refine ⟨by omega, ?_⟩
    rw [opv_lst (sc _ _ _ _)]
    exact four _ _ _ _ (ct 3 (by omega) (by omega)) (ct 8 (by omega) (by omega)) (ct 2 (by omega) (by omega)) (ct 1 (by omega) (by omega))
  clear four sc cm
  (refine pn_go rfl ?_; simp)
  (repeat refine And.intro (by first | omega | with_reducible exact div_ok (by omega) | with_reducible exact mul_l (by omega) | with_reducible exact mul_r (by omega) | with_reducible exact mul_nat (by omega) | with_reducible exact log_le (by omega) | (simp [in62] <;> omega)) ?_)
  obtain ⟨z, ez⟩ := nat_of (i := 1 + c / 5 % 8) (by omega)
  rw [ez]
  (refine pn_go rfl ?_; simp)
  refine ⟨div_ok (by omega), by omega, ?_⟩
  obtain ⟨a, ea⟩ := nat_of (i := c / 40 % (z : Int)) (Int.emod_nonneg _ (by omega))
  have ha := Int.emod_lt_of_pos (c / 40) (b := (z : Int)) (by omega)
  rw [ea] at ha ⊢
  have hz8 : z ≤ 8 := by omega
  have ca : cut base none (some (a : Int)) = base.take a := by rw [cut_to (by omega)]; congr 1
  obtain ⟨rest, er⟩ : ∃ rest, cut base (some ((a : Int) + 1)) (some (z : Int)) = rest := ⟨_, rfl⟩
  have hr1 : rest.length ≤ 7 - a := by
    rw [← er]
    unfold cut sIx
    dsimp only
    rw [if_pos (by omega), if_pos (by omega), List.length_take, List.length_drop, hbl]
    omega
  have hr2 : ∀ ch ∈ rest, ch ∈ LET := fun ch h => hb ch (by rw [← er] at h; exact cut_mem h)
  have hta : (base.take a).length = a := by simp; omega
  (refine pn_go rfl ?_; simp)
  (refine pn_go rfl ?_; simp)
  refine ⟨by simp [in62]; omega, ?_⟩
  refine forP_inv (fun i => (Hid (fun ρ => ∃ o6 o7, ∃ ts : List Tx, ts.length = i ∧ (∀ w ∈ ts, wOk w = true) ∧ ρ = [some (.int c, 2), some (.str LET, 2), some (.str base, 2), some (.int m, 2), some (.int z, 2), some (.int a, 2), some (.lst (ts.map .str), 2), o6, o7] ) .mk)) ⟨_, _, [], rfl, by simp, rfl⟩ ?_ ?_
  · rintro i p ρ hp ⟨o6, o7, ts, htl, hts, rfl⟩
    obtain ⟨hi, rfl⟩ := rngP_get hp
    simp
    (refine pn_go rfl ?_; simp)
    refine ⟨div_ok (by omega), mul_l (by omega), ?_⟩
    refine tn_atk let_len (by omega) (by omega) fun jj ch hjj hch => ?_
    (refine pn_go rfl ?_; simp [tn_mut])
    rw [ca, er]
    refine ⟨by omega, by omega, by omega, by omega, by omega, _, _, ts ++ [base.take a ++ ch :: rest], by simp; omega, fun w hw => ?_, by rw [List.map_append]; rfl⟩
    rcases List.mem_append.mp hw with hw | hw
    · exact hts w hw
    · rw [List.mem_singleton.mp hw]
      refine wOk_iff.mpr ⟨by simp; omega, by simp; omega, fun ch' hch' => ?_⟩
      rcases List.mem_append.mp hch' with h | h
      · exact hb ch' (List.mem_of_mem_take h)
      · rcases List.mem_cons.mp h with rfl | h
        · exact List.mem_of_getElem? hch
        · exact hr2 ch' h
  · rintro ρ ⟨o6, o7, ts, htl, hts, rfl⟩
    (refine pn_go rfl ?_; simp)
    simp at htl
    exact ⟨ts, rfl, by omega, by omega, hts⟩

end C_k21
end

section
set_option maxRecDepth 100000
set_option maxHeartbeats 1000000
namespace C_k21
open PySem U
def bndV (c : Int) : Int := if c * 16807 % 65537 % 4 = 0 then c / 13 % 7 - 3 else if c * 16807 % 65537 % 4 = 1 then c % ONE60 else if c * 16807 % 65537 % 4 = 2 then 0 - c % ONE60 else ONE60 - 1 - c % 3
theorem s_bound {n : Nat} (hn : 1 ≤ n) (c : Int) : Tn (callP fn n i__law_bound [.int c]) ((Hid (fun r => r = (.int (bndV c), 2) ∧ -ONE60 < bndV c ∧ bndV c < ONE60 ) .mk)) := by
  obtain ⟨n, rfl, hn⟩ := succ_of hn
  refine callP_succ fn__law_bound rfl ?_
  unfold b__law_bound
  have hp : powOk 10 60 = true := by decide +kernel
  have e1 : (10 : Int) ^ (60 : Int).toNat = 1000000000000000000000000000000000000000000000000000000000000 := by decide +kernel
  have hO : ONE60 = 1000000000000000000000000000000000000000000000000000000000000 := rfl
  unfold bndV
  rw [hO]
  (refine pn_go rfl ?_; simp)
  (repeat refine And.intro (by first | omega | with_reducible exact div_ok (by omega) | with_reducible exact mul_l (by omega) | with_reducible exact mul_r (by omega) | with_reducible exact mul_nat (by omega) | with_reducible exact log_le (by omega) | (simp [in62] <;> omega)) ?_)
  (refine pn_go rfl ?_; simp)
  split
  · (refine pn_go rfl ?_; simp)
    (repeat refine And.intro (by first | omega | with_reducible exact div_ok (by omega) | with_reducible exact mul_l (by omega) | with_reducible exact mul_r (by omega) | with_reducible exact mul_nat (by omega) | with_reducible exact log_le (by omega) | (simp [in62] <;> omega)) ?_)
    refine ⟨by simp [*], ?_, ?_⟩ <;> (repeat' split) <;> omega
  (refine pn_go rfl ?_; simp)
  split
  · (refine pn_go rfl ?_; simp [hp, e1])
    refine ⟨by simp [*], ?_, ?_⟩ <;> (repeat' split) <;> omega
  (refine pn_go rfl ?_; simp)
  split
  · (refine pn_go rfl ?_; simp [hp, e1])
    refine ⟨by simp [*], ?_, ?_⟩ <;> (repeat' split) <;> omega
  (refine pn_go rfl ?_; simp [hp, e1])
  refine ⟨by simp [*], ?_, ?_⟩ <;> (repeat' split) <;> omega

abbrev lawTail : List Tx := [tOpen, tLend, tBack, [101, 110, 100], [114, 101, 97, 100], tDone]
def stpW (nms : List Tx) (c : Int) : List Tx :=
  let x := atT nms (c * 48271 % 1009 % nms.length)
  let y := atT nms (c * 69621 % 2003 % nms.length)
  if c % 13 < 2 then [tOpen, x] else if c % 13 = 5 then [tCopy, x, y] else if c % 13 = 6 then [tDrop, x] else if c % 13 = 7 then [tTie, x, y]
  else [tDo, atT (nms ++ lawTail) (c * 40692 % 4001 % (nms ++ lawTail).length), x]
theorem s_step {n : Nat} (hn : 1 ≤ n) (c : Int) (nms : List Tx) (h1 : 1 ≤ nms.length) (h4 : nms.length ≤ 4) (hw : ∀ w ∈ nms, wOk w = true) : Tn (callP fn n i__law_step [.int c, .lst (nms.map .str)]) ((Hid (fun r => plOk (stpW nms c) = true ∧ r = (stpP (.plain (stpW nms c)), 2) ) .mk)) := by
  obtain ⟨n, rfl, hn⟩ := succ_of hn
  refine callP_succ fn__law_step rfl ?_
  unfold b__law_step
  (refine pn_go rfl ?_; simp)
  (repeat refine And.intro (by first | omega | with_reducible exact div_ok (by omega) | with_reducible exact mul_l (by omega) | with_reducible exact mul_r (by omega) | with_reducible exact mul_nat (by omega) | with_reducible exact log_le (by omega) | (simp [in62] <;> omega)) ?_)
  refine tn_atT (Int.emod_nonneg _ (by omega)) (Int.emod_lt_of_pos _ (by omega)) fun hx => ?_
  (refine pn_go rfl ?_; simp)
  (repeat refine And.intro (by first | omega | with_reducible exact div_ok (by omega) | with_reducible exact mul_l (by omega) | with_reducible exact mul_r (by omega) | with_reducible exact mul_nat (by omega) | with_reducible exact log_le (by omega) | (simp [in62] <;> omega)) ?_)
  refine tn_atT (Int.emod_nonneg _ (by omega)) (Int.emod_lt_of_pos _ (by omega)) fun hy => ?_
  have wx := hw _ hx
  have wy := hw _ hy
  unfold stpW
  generalize atT nms (c * 48271 % 1009 % nms.length) = x at *
  generalize atT nms (c * 69621 % 2003 % nms.length) = y at *
  dsimp only
  (refine pn_go rfl ?_; simp)
  (refine pn_go rfl ?_; simp)
  split
  · (refine pn_go rfl ?_; simp)
    exact ⟨by simp [plOk, *], by simp [stpP_plain, *]⟩
  (refine pn_go rfl ?_; simp)
  split
  · (refine pn_go rfl ?_; simp)
    exact ⟨by simp [plOk, *], by simp [stpP_plain, *]⟩
  (refine pn_go rfl ?_; simp)
  split
  · (refine pn_go rfl ?_; simp)
    exact ⟨by simp [plOk, *], by simp [stpP_plain, *]⟩
  (refine pn_go rfl ?_; simp)
  split
  · (refine pn_go rfl ?_; simp)
    exact ⟨by simp [plOk, *], by simp [stpP_plain, *]⟩
  obtain ⟨ws, ews⟩ : ∃ ws, ws = nms ++ lawTail := ⟨_, rfl⟩
  have em : nms.map P.str ++ [P.str tOpen, P.str tLend, P.str tBack, P.str [101, 110, 100], P.str [114, 101, 97, 100], P.str tDone] = ws.map P.str := by rw [ews]; simp
  have hwl : ws.length = nms.length + 6 := by rw [ews]; simp
  have hww : ∀ w ∈ ws, wOk w = true := fun w h => by
    rw [ews] at h
    simp at h
    rcases h with h | rfl | rfl | rfl | rfl | rfl | rfl
    · exact hw w h
    all_goals decide
  (refine pn_go rfl ?_; simp)
  refine ⟨by omega, ?_⟩
  rw [em]
  (refine pn_go rfl ?_; simp)
  (repeat refine And.intro (by first | omega | with_reducible exact div_ok (by omega) | with_reducible exact mul_l (by omega) | with_reducible exact mul_r (by omega) | with_reducible exact mul_nat (by omega) | with_reducible exact log_le (by omega) | (simp [in62] <;> omega)) ?_)
  refine tn_atT (Int.emod_nonneg _ (by omega)) (Int.emod_lt_of_pos _ (by omega)) fun hwm => ?_
  have ww := hww _ hwm
  rw [ews] at ww hwl ⊢
  rw [hwl] at ww ⊢
  rw [Int.natCast_add] at ww ⊢
  have ww : wOk (atT (nms ++ lawTail) (c * 40692 % 4001 % ((nms.length : Int) + 6))) = true := ww
  exact ⟨by simp [plOk, *], by simp [stpP_plain, *]⟩

end C_k21
end

section
set_option maxRecDepth 100000
set_option maxHeartbeats 1000000
namespace C_k21
open PySem U
theorem e_str (a b : Tx) : cmpP .eq (.str a) (.str b) = some (decide (a = b)) := by rw [cmp_eq rfl rfl, eqv_str]
def LnOk (n : Nat) (b : List Stp) : Prop := Tn (callP fn n i_lines_of [prgP b]) fun r => r = (.lst ((lnP b).map .str), 2)
theorem s_ln_plain {n : Nat} (ws : List Tx) (hw : plOk ws = true) : Tn (callP fn (n + 1) i_lines_of_step [stpP (.plain ws)]) fun r => r = (.lst ((lnS (.plain ws)).map .str), 2) := by
  refine callP_succ fn_lines_of_step rfl ?_
  unfold b_lines_of_step
  obtain ⟨h1, h2, h3⟩ := plOk_words hw
  have b1 := sumT_le (s := [32]) (ts := ws) (b := 8) (n := 3) (fun t ht => (wOk_iff.mp (h1 t ht)).2.1) h3
  cases ws with
  | nil => cases hw
  | cons a r =>
    have hh := (plOk_cons.mp hw).1
    have na : a ≠ tLend ∧ a ≠ tIf ∧ a ≠ tWhile := by
      simp at hh
      rcases hh with ⟨rfl, _⟩ | ⟨rfl, _⟩ | ⟨rfl, _⟩ | ⟨rfl, _⟩ | ⟨rfl, _⟩ <;> decide
    rw [stpP_plain]
    (refine pn_go rfl ?_; simp [e_str, na.1])
    (refine pn_go rfl ?_; simp [e_str, na.2.1])
    (refine pn_go rfl ?_; simp [e_str, na.2.2])
    have j := @join_tup [32] (a :: r)
    simp at j b1
    (refine pn_go rfl ?_; simp [j, lnS])
    omega
theorem s_ln_lend {n : Nat} (x y : Tx) (b : List Stp) (hx : wOk x = true) (hy : wOk y = true) (hl : (lnP b).length ≤ 1000) (hb : LnOk n b) : Tn (callP fn (n + 1) i_lines_of_step [stpP (.lend x y b)]) fun r => r = (.lst ((lnS (.lend x y b)).map .str), 2) := by
  refine callP_succ fn_lines_of_step rfl ?_
  unfold b_lines_of_step
  obtain ⟨_, x2, x3⟩ := wOk_iff.mp hx
  obtain ⟨_, y2, y3⟩ := wOk_iff.mp hy
  (refine pn_go rfl ?_; simp [e_str])
  (refine pn_go rfl ?_; simp)
  refine ⟨by omega, by omega, by omega, hb.mono fun r e => ?_⟩
  subst e
  simp
  exact ⟨by omega, by omega, by simp [lnS]⟩
theorem s_ln_ifs {n : Nat} (k : Int) (a b : List Stp) (hk : -BND ≤ k ∧ k ≤ BND) (hl : (lnP a).length + (lnP b).length ≤ 1000) (ha : LnOk n a) (hb : LnOk n b) : Tn (callP fn (n + 1) i_lines_of_step [stpP (.ifs k a b)]) fun r => r = (.lst ((lnS (.ifs k a b)).map .str), 2) := by
  refine callP_succ fn_lines_of_step rfl ?_
  unfold b_lines_of_step
  have h1 := (showI_len hk).1
  have h2 := bnd_log hk
  (refine pn_go rfl ?_; simp [e_str])
  (refine pn_go rfl ?_; simp [e_str])
  (refine pn_go rfl ?_; simp)
  refine ⟨h2, by omega, ha.mono fun r e => ?_⟩
  subst e
  simp
  refine ⟨by omega, by omega, hb.mono fun r e => ?_⟩
  subst e
  simp
  exact ⟨by omega, by omega, by simp [lnS]⟩
theorem s_ln_whl {n : Nat} (k : Int) (b : List Stp) (hk : -BND ≤ k ∧ k ≤ BND) (hl : (lnP b).length ≤ 1000) (hb : LnOk n b) : Tn (callP fn (n + 1) i_lines_of_step [stpP (.whl k b)]) fun r => r = (.lst ((lnS (.whl k b)).map .str), 2) := by
  refine callP_succ fn_lines_of_step rfl ?_
  unfold b_lines_of_step
  have h1 := (showI_len hk).1
  have h2 := bnd_log hk
  (refine pn_go rfl ?_; simp [e_str])
  (refine pn_go rfl ?_; simp [e_str])
  (refine pn_go rfl ?_; simp [e_str])
  (refine pn_go rfl ?_; simp)
  refine ⟨h2, by omega, hb.mono fun r e => ?_⟩
  subst e
  simp
  exact ⟨by omega, by omega, by simp [lnS]⟩
theorem s_lnP_of {n : Nat} (p : List Stp) (hl : (lnP p).length ≤ 1000) (hs : ∀ s ∈ p, Tn (callP fn n i_lines_of_step [stpP s]) fun r => r = (.lst ((lnS s).map .str), 2)) : LnOk (n + 1) p := by
  refine callP_succ fn_lines_of rfl ?_
  unfold b_lines_of
  (refine pn_go rfl ?_; simp)
  (refine pn_go rfl ?_; simp)
  refine forP_inv (fun i => (Hid (fun ρ => ∃ o, ∃ tt : List Tx, tt = lnP (p.take i) ∧ ρ = [some (prgP p, 0), some (.lst (tt.map .str), 2), o] ) .mk)) ⟨_, [], by simp [lnP], rfl⟩ ?_ ?_
  · rintro i q ρ hq ⟨o, tt, ett, rfl⟩
    rw [List.getElem?_map] at hq
    obtain ⟨s, hs', rfl⟩ := Option.map_eq_some_iff.mp hq
    obtain ⟨hi, e⟩ := List.getElem?_eq_some_iff.mp hs'
    have e2 : lnP (p.take (i + 1)) = lnP (p.take i) ++ lnS s := by
      rw [List.take_succ_eq_append_getElem hi, lnP_app, e, lnP, lnP, List.append_nil]
    have e3 : (lnP (p.take (i + 1))).length ≤ (lnP p).length := by
      conv => rhs; rw [← List.take_append_drop (i + 1) p, lnP_app]
      simp
    rw [e2] at e3
    simp at e3
    simp
    (refine pn_go rfl ?_; simp [tn_mut])
    refine (hs s (List.mem_of_getElem? hs')).mono fun r e => ?_
    subst e
    have htl : tt.length = (lnP (p.take i)).length := by rw [ett]
    simp
    have ea : ((lnS s).all fun _ => true) = true := List.all_eq_true.mpr (by simp)
    rw [ea]
    exact ⟨by omega, _, tt ++ lnS s, by rw [e2, ett], by rw [List.map_append]; rfl⟩
  · rintro ρ ⟨o, tt, ett, rfl⟩
    simp at ett
    subst ett
    (refine pn_go rfl ?_; simp)
mutual
theorem s_lnS : ∀ (s : Stp) {n : Nat}, 2 * s.ht + 1 ≤ n → s.wf = true → (lnS s).length ≤ 1000 → Tn (callP fn n i_lines_of_step [stpP s]) fun r => r = (.lst ((lnS s).map .str), 2)
  | .plain ws, n, hn, hw, hl => by
    obtain ⟨n, rfl, _⟩ := succ_of (show 1 ≤ n by omega)
    rw [Stp.wf] at hw
    exact s_ln_plain ws hw
  | .lend x y b, n, hn, hw, hl => by
    obtain ⟨n, rfl, _⟩ := succ_of (show 1 ≤ n by omega)
    rw [Stp.wf, Bool.and_eq_true, Bool.and_eq_true] at hw
    rw [Stp.ht] at hn
    rw [lnS] at hl
    simp at hl
    exact s_ln_lend x y b hw.1.1 hw.1.2 (by omega) (s_lnP b (by omega) hw.2 (by omega))
  | .ifs k a b, n, hn, hw, hl => by
    obtain ⟨n, rfl, _⟩ := succ_of (show 1 ≤ n by omega)
    rw [Stp.wf, Bool.and_eq_true, Bool.and_eq_true, decide_eq_true_eq] at hw
    rw [Stp.ht] at hn
    have h1 := Nat.le_max_left (htP a) (htP b)
    have h2 := Nat.le_max_right (htP a) (htP b)
    rw [lnS] at hl
    simp at hl
    exact s_ln_ifs k a b hw.1.1 (by omega) (s_lnP a (by omega) hw.1.2 (by omega)) (s_lnP b (by omega) hw.2 (by omega))
  | .whl k b, n, hn, hw, hl => by
    obtain ⟨n, rfl, _⟩ := succ_of (show 1 ≤ n by omega)
    rw [Stp.wf, Bool.and_eq_true, decide_eq_true_eq] at hw
    rw [Stp.ht] at hn
    rw [lnS] at hl
    simp at hl
    exact s_ln_whl k b hw.1 (by omega) (s_lnP b (by omega) hw.2 (by omega))
theorem s_lnP : ∀ (p : List Stp) {n : Nat}, 2 * htP p + 2 ≤ n → wfP p = true → (lnP p).length ≤ 1000 → LnOk n p
  | p, n, hn, hw, hl => by
    obtain ⟨n, rfl, _⟩ := succ_of (show 1 ≤ n by omega)
    exact s_lnP_of p hl (s_lnAll p (by omega) hw hl)
theorem s_lnAll : ∀ (p : List Stp) {n : Nat}, 2 * htP p + 1 ≤ n → wfP p = true → (lnP p).length ≤ 1000 → ∀ s ∈ p, Tn (callP fn n i_lines_of_step [stpP s]) fun r => r = (.lst ((lnS s).map .str), 2)
  | [], n, hn, hw, hl, s, hs => by cases hs
  | t :: r, n, hn, hw, hl, s, hs => by
    rw [wfP, Bool.and_eq_true] at hw
    rw [htP] at hn
    have h1 := Nat.le_max_left t.ht (htP r)
    have h2 := Nat.le_max_right t.ht (htP r)
    rw [lnP, List.length_append] at hl
    rcases List.mem_cons.mp hs with e | hs
    · rw [e]; exact s_lnS t (by omega) hw.1 (by omega)
    · exact s_lnAll r (by omega) hw.2 (by omega) s hs
end

end C_k21
end

section
set_option maxRecDepth 100000
set_option maxHeartbeats 1000000
namespace C_k21
open PySem U
theorem hF (n : Nat) : FSnd (callD T n) (callP fn n) := fsnd_of (bs := bs) (by decide +kernel) n
theorem hT : T.wh = whl := rfl
abbrev xV (nms : List Tx) (c : Int) : Tx := atT nms (c * 48271 % 1009 % nms.length)
abbrev yV (nms : List Tx) (c : Int) : Tx := atT nms (c * 69621 % 2003 % nms.length)
def Begun (nms : List Tx) (c : Int) (h p l : Nat) (hs ps ls : List P) (μ : Mu) (r : P) (μ' : Mu) : Prop := ∃ inner, μ inner = none ∧ r = .raw inner ∧
      ((c % 13 = 8 ∧ ∃ x y, x = xV nms c ∧ y = yV nms c ∧ wOk x = true ∧ wOk y = true ∧ μ' = ((((μ.upd inner []).upd h (hs ++ [.tup [.str tLend, .str x, .str y, .raw inner]])).upd p (ps ++ [entR (tBack, h)])).upd l (ls ++ [.str (tLend ++ [32] ++ x ++ [32] ++ y)]))) ∨
       (c % 13 = 10 ∧ ∃ k, k = bndV c ∧ (-ONE60 < k ∧ k < ONE60) ∧ μ' = ((((μ.upd inner []).upd h (hs ++ [.tup [.str tWhile, .int k, .raw inner]])).upd p (ps ++ [entR (tDone, h)])).upd l (ls ++ [.str (tWhile ++ [32] ++ showI k)]))) ∨
       (c % 13 ≠ 8 ∧ c % 13 ≠ 10 ∧ ∃ k others, k = bndV c ∧ (-ONE60 < k ∧ k < ONE60) ∧ μ others = none ∧ others ≠ inner ∧ μ' = ((((((μ.upd inner []).upd others []).upd h (hs ++ [.tup [.str tIf, .int k, .raw inner, .raw others]])).upd p (ps ++ [entR (tFi, h)])).upd p (ps ++ [entR (tFi, h)] ++ [entR (tElse, others)])).upd l (ls ++ [.str (tIf ++ [32] ++ showI k)]))))
theorem z_begun {n : Nat} (hn : 2 ≤ n) (c : Int) (nms : List Tx) (h1 : 1 ≤ nms.length) (h4 : nms.length ≤ 4) (hw : ∀ w ∈ nms, wOk w = true) (μ : Mu) (h p l : Nat) (hs ps ls : List P)
    (eh : μ h = some hs) (ep : μ p = some ps) (el : μ l = some ls) (nhp : h ≠ p) (nhl : h ≠ l) (npl : p ≠ l) (lh : hs.length ≤ 1000) (lp : ps.length ≤ 900) (ll : ls.length ≤ 1000) :
    Zf (callD T n) i__law_begun [.raw h, .raw p, .raw l, .int c, .lst (nms.map .str)] μ (Begun nms c h p l hs ps ls μ) := by
  obtain ⟨n, rfl, hn⟩ := succ_of (show 1 ≤ n by omega)
  refine zf_of (n := n) (f := i__law_begun) (d := b__law_begun) fn__law_begun rfl (by decide) (by decide) ?_
  unfold b__law_begun
  refine z_p (hF n) hT rfl ?_
  simp
  (repeat refine And.intro (by first | omega | with_reducible exact div_ok (by omega) | with_reducible exact mul_l (by omega) | with_reducible exact mul_r (by omega) | with_reducible exact mul_nat (by omega) | with_reducible exact log_le (by omega) | (simp [in62] <;> omega)) ?_)
  refine tn_atT (Int.emod_nonneg _ (by omega)) (Int.emod_lt_of_pos _ (by omega)) fun hx => ?_
  obtain ⟨x, ex⟩ : ∃ x, x = xV nms c := ⟨_, rfl⟩
  rw [show atT nms (c * 48271 % 1009 % nms.length) = x from ex.symm] at hx ⊢
  refine z_p (hF n) hT rfl ?_
  simp
  (repeat refine And.intro (by first | omega | with_reducible exact div_ok (by omega) | with_reducible exact mul_l (by omega) | with_reducible exact mul_r (by omega) | with_reducible exact mul_nat (by omega) | with_reducible exact log_le (by omega) | (simp [in62] <;> omega)) ?_)
  refine tn_atT (Int.emod_nonneg _ (by omega)) (Int.emod_lt_of_pos _ (by omega)) fun hy => ?_
  obtain ⟨y, ey⟩ : ∃ y, y = yV nms c := ⟨_, rfl⟩
  rw [show atT nms (c * 69621 % 2003 % nms.length) = y from ey.symm] at hy ⊢
  have wx := hw _ hx
  have wy := hw _ hy
  obtain ⟨_, x2, _⟩ := wOk_iff.mp wx
  obtain ⟨_, y2, _⟩ := wOk_iff.mp wy
  refine z_new rfl (by simp) fun i ei => ?_
  have nih : i ≠ h := fun z => by rw [z, eh] at ei; cases ei
  have nip : i ≠ p := fun z => by rw [z, ep] at ei; cases ei
  have nil' : i ≠ l := fun z => by rw [z, el] at ei; cases ei
  simp
  refine z_ite (hF n) rfl ?_
  simp
  split
  · rename_i hc
    refine z_app (hF n) rfl rfl (by rw [upd_ne nih.symm]; exact eh) (lim_lt lh) ?_
    simp
    refine z_app (hF n) rfl rfl (by rw [upd_ne nhp.symm, upd_ne nip.symm]; exact ep) (lim_lt (by omega)) ?_
    simp
    refine z_app (hF n) rfl rfl (by rw [upd_ne npl.symm, upd_ne nhl.symm, upd_ne nil'.symm]; exact el) (lim_lt ll) ?_
    simp
    refine ⟨by omega, by omega, by omega, ?_⟩
    refine z_ret (hF n) rfl ?_
    simp
    exact ⟨i, ei, rfl, .inl ⟨hc, x, y, ex, ey, wx, wy, by simp⟩⟩
  rename_i hc8
  refine zn_nil ?_
  refine z_p (hF n) hT rfl ?_
  simp
  refine (s_bound (by omega) c).mono fun r ⟨e, k1, k2⟩ => ?_
  subst e
  obtain ⟨k, ek⟩ : ∃ k, k = bndV c := ⟨_, rfl⟩
  rw [← ek] at k1 k2 ⊢
  have hb := one60_bnd ⟨k1, k2⟩
  have hk1 := (showI_len hb).1
  have hk2 := bnd_log hb
  simp
  refine z_ite (hF n) rfl ?_
  simp
  split
  · rename_i hc
    refine z_app (hF n) rfl rfl (by rw [upd_ne nih.symm]; exact eh) (lim_lt lh) ?_
    simp
    refine z_app (hF n) rfl rfl (by rw [upd_ne nhp.symm, upd_ne nip.symm]; exact ep) (lim_lt (by omega)) ?_
    simp
    refine z_app (hF n) rfl rfl (by rw [upd_ne npl.symm, upd_ne nhl.symm, upd_ne nil'.symm]; exact el) (lim_lt ll) ?_
    simp
    refine ⟨hk2, by omega, ?_⟩
    refine z_ret (hF n) rfl ?_
    simp
    exact ⟨i, ei, rfl, .inr (.inl ⟨hc, k, ek, ⟨k1, k2⟩, by simp⟩)⟩
  rename_i hc10
  refine zn_nil ?_
  refine z_new rfl (by simp) fun o eo => ?_
  have noi : o ≠ i := fun z => by rw [z] at eo; simp at eo
  have eo' : μ o = none := by rw [upd_ne noi] at eo; exact eo
  have noh : o ≠ h := fun z => by rw [z, eh] at eo'; cases eo'
  have nop : o ≠ p := fun z => by rw [z, ep] at eo'; cases eo'
  have nol : o ≠ l := fun z => by rw [z, el] at eo'; cases eo'
  simp
  refine z_app (hF n) rfl rfl (by rw [upd_ne noh.symm, upd_ne nih.symm]; exact eh) (lim_lt lh) ?_
  simp
  refine z_app (hF n) rfl rfl (by rw [upd_ne nhp.symm, upd_ne nop.symm, upd_ne nip.symm]; exact ep) (lim_lt (by omega)) ?_
  simp
  refine z_app (hF n) rfl rfl upd_same (lim_lt (by simp; omega)) ?_
  simp
  refine z_app (hF n) rfl rfl (by rw [upd_ne npl.symm, upd_ne npl.symm, upd_ne nhl.symm, upd_ne nol.symm, upd_ne nil'.symm]; exact el) (lim_lt ll) ?_
  simp
  refine ⟨hk2, by omega, ?_⟩
  refine z_ret (hF n) rfl ?_
  simp
  exact ⟨i, ei, rfl, .inr (.inr ⟨hc8, hc10, k, o, ek, ⟨k1, k2⟩, eo', noi, by simp⟩)⟩

end C_k21
end

section
set_option maxRecDepth 100000
set_option maxHeartbeats 1000000
namespace C_k21
open PySem U
structure ZS where
  frs : List Fr
  cur : List Stp
  left : Int
  lends : Int
def stepZ (nms : List Tx) (s : ZS) (c : Int) : ZS :=
  if 10 < c % 13 ∧ s.frs ≠ [] then ⟨(popF s.frs s.cur).1, (popF s.frs s.cur).2, s.left, s.lends⟩
  else if 8 ≤ c % 13 ∧ c % 13 ≤ 10 ∧ 2 < s.left ∧ s.frs.length < 8 ∧ (c % 13 ≠ 8 ∨ 0 < s.lends) then
    if c % 13 = 8 then ⟨.lend s.cur (xV nms c) (yV nms c) :: s.frs, [], s.left - 2, s.lends - 1⟩
    else if c % 13 = 10 then ⟨.whl s.cur (bndV c) :: s.frs, [], s.left - 2, s.lends⟩
    else ⟨.ifa s.cur (bndV c) :: s.frs, [], s.left - 3, s.lends⟩
  else if c % 13 < 8 ∧ 0 < s.left then ⟨s.frs, s.cur ++ [.plain (stpW nms c)], s.left - 1, s.lends⟩
  else s
def endZ (nms : List Tx) (cs : List Int) : ZS := cs.foldl (stepZ nms) ⟨[], [], 59, 3⟩
def prgZ (nms : List Tx) (cs : List Int) : List Stp := plug (endZ nms cs).frs (endZ nms cs).cur
structure Jst (root L Q : Nat) (cells : List Int) (nms : List Tx) (qs : List P) (ρ : Rho) (μ : Mu) : Prop where
  b : ∃ rest : List Int, ∃ frs cur here pl us vs left lends o8 o9 o10 o11 o12, qs = rest.map P.int ∧ rest.foldl (stepZ nms) ⟨frs, cur, left, lends⟩ = endZ nms cells ∧ Bst root L Q frs cur here pl us vs left lends μ ∧ ρ = [some (.lst (cells.map .int), 0), some (.lst (nms.map .str), 0), some (.raw root, 2), some (.raw L, 2), some (.raw Q, 2), some (.raw here, 2), some (.int left, 2), some (.int lends, 2), o8, o9, o10, o11, o12]
structure Wst (root L Q : Nat) (cells : List Int) (nms : List Tx) (m : Nat) (ρ : Rho) (μ : Mu) : Prop where
  b : ∃ frs cur here pl us vs left lends o8 o9 o10 o11 o12, pl.length = m ∧ plug frs cur = prgZ nms cells ∧ Bst root L Q frs cur here pl us vs left lends μ ∧ ρ = [some (.lst (cells.map .int), 0), some (.lst (nms.map .str), 0), some (.raw root, 2), some (.raw L, 2), some (.raw Q, 2), some (.raw here, 2), some (.int left, 2), some (.int lends, 2), o8, o9, o10, o11, o12]
theorem jst_of {root L Q : Nat} {cells : List Int} {nms : List Tx} {qs : List P} {μ M : Mu} {frs : List Fr} {cur : List Stp} {here : Nat} {pl : List (Tx × Nat)} {us vs : List Nat} {left lends left' lends' : Int} {o8 o9 o10 o11 o12 : Option (P × Nat)} {rest : List Int} (hq : qs = rest.map .int) (hz : rest.foldl (stepZ nms) ⟨frs, cur, left', lends'⟩ = endZ nms cells) (b : Bst root L Q frs cur here pl us vs left' lends' M) (eM : M = μ) (e1 : left = left') (e2 : lends = lends') :
    Jst root L Q cells nms qs [some (.lst (cells.map .int), 0), some (.lst (nms.map .str), 0), some (.raw root, 2), some (.raw L, 2), some (.raw Q, 2), some (.raw here, 2), some (.int left, 2), some (.int lends, 2), o8, o9, o10, o11, o12] μ := by
  subst eM e1 e2
  exact ⟨_, _, _, _, _, _, _, _, _, _, _, _, _, _, hq, hz, b, rfl⟩
/-- what is built: the program and its lines -/
def BuiltR (nms : List Tx) (cells : List Int) (r : P) (μ : Mu) : Prop := ∃ p us, p = prgZ nms cells ∧ Tr μ (.tup [prgP p, .lst ((lnP p).map .str)]) r us ∧ us.Nodup ∧ wfP p = true ∧ okP 0 p = true ∧ (lnP p).length ≤ 59 ∧ ldP p ≤ 3
theorem z_program {n : Nat} (hn : 4 ≤ n) (cells : List Int) (nms : List Tx) (h1 : 1 ≤ nms.length) (h4 : nms.length ≤ 4) (hw : ∀ w ∈ nms, wOk w = true) (μ : Mu) :
    Zf (callD T n) i__law_program [.lst (cells.map .int), .lst (nms.map .str)] μ (BuiltR nms cells) := by
  obtain ⟨n, rfl, hn⟩ := succ_of (show 1 ≤ n by omega)
  refine zf_of (n := n) (f := i__law_program) (d := b__law_program) fn__law_program rfl (by decide) (by decide) ?_
  unfold b__law_program
  simp
  refine z_new rfl (by simp) fun root er => ?_
  simp
  refine z_new rfl (by simp) fun L eL => ?_
  have nL : L ≠ root := fun z => by rw [z] at eL; simp at eL
  simp
  refine z_new rfl (by simp) fun Q eQ => ?_
  have nQ : Q ≠ L := fun z => by rw [z] at eQ; simp at eQ
  have nQ2 : Q ≠ root := fun z => by rw [z, upd_ne nL.symm] at eQ; simp at eQ
  simp
  have b0 : Bst root L Q [] [] root [] [] [root] 59 3 (((μ.upd root []).upd L []).upd Q []) := .start (by rw [upd_ne nQ2.symm, upd_ne nL.symm]; simp) (by rw [upd_ne nQ.symm]; simp) (by simp) nL nQ2 nQ.symm
  refine z_p (hF n) hT rfl ?_
  simp
  refine z_p (hF n) hT rfl ?_
  simp
  refine z_p (hF n) hT rfl ?_
  simp
  generalize ((μ.upd root []).upd L []).upd Q [] = μ0 at b0
  refine z_for (hF n) (Jst root L Q cells nms) rfl ?_ ?_ ?_
  · simp
    exact jst_of (rest := cells) rfl rfl b0 rfl rfl rfl
  · rintro p qs ρ μ ⟨rest, frs, cur, here, pl, us, vs, left, lends, o8, o9, o10, o11, o12, hq, hz, b, rfl⟩
    cases rest with
    | nil => cases hq
    | cons c rest =>
    cases hq
    rw [List.foldl_cons] at hz
    have bl := b.cl
    have bq := b.ql
    obtain ⟨rs, eh, hrs, hL, hQ⟩ := b.cell
    simp
    refine z_p (hF n) hT rfl ?_
    simp
    refine z_setv (hF n) (View.one .refl (i := 4) rfl b.q) rfl ?_
    simp
    refine compP_filter (enc := entR) (fun x => decide (x.1 ≠ tElse)) pl (fun x _ => ?_) fun lk => ?_
    · simp [e_str]
      split
      · rename_i h
        exact ⟨.inr ⟨by simp [h], rfl⟩⟩
      · rename_i h
        exact ⟨.inl ⟨by simp [h], _, rfl⟩⟩
    have hfl : (pl.filter fun x => decide (x.1 ≠ tElse)).length = frs.length := b.z.z.count
    simp at hfl
    simp [hfl]
    have hfd := b.z.g.d
    refine ⟨by omega, ?_⟩
    obtain ⟨ts, ws, td, dt, tl⟩ := b.deep
    have e3 : cmpP .ne (.lst ts) (.lst []) = some (!ts.isEmpty) := ne_nil dt
    have same : stepZ nms ⟨frs, cur, left, lends⟩ c = ⟨frs, cur, left, lends⟩ → Jst root L Q cells nms (rest.map .int) [some (P.lst (List.map P.int cells), 0), some (P.lst (List.map P.str nms), 0), some (P.raw root, 2), some (P.raw L, 2), some (P.raw Q, 2), some (P.raw here, 2), some (P.int left, 2), some (P.int lends, 2), some (P.int c, 2), some (P.int (c % 13), 2), some (P.int frs.length, 2), o11, o12] μ := fun e => jst_of rfl (by rw [← e]; exact hz) b rfl rfl rfl
    have last : ¬ (10 < c % 13 ∧ frs ≠ []) → ¬ (8 ≤ c % 13 ∧ c % 13 ≤ 10 ∧ 2 < left ∧ frs.length < 8 ∧ (c % 13 ≠ 8 ∨ 0 < lends)) → Zn (evSs T (callD T n) c__law_program_12) [some (P.lst (List.map P.int cells), 0), some (P.lst (List.map P.str nms), 0), some (P.raw root, 2), some (P.raw L, 2), some (P.raw Q, 2), some (P.raw here, 2), some (P.int left, 2), some (P.int lends, 2), some (P.int c, 2), some (P.int (c % 13), 2), some (P.int frs.length, 2), o11, o12] μ (Jst root L Q cells nms (rest.map .int)) fun p μ' => p.scal = true ∧ BuiltR nms cells p μ' := by
      intro n1 n2
      refine z_ite1 (hF n) rfl ?_
      simp
      split
      · split
        · rename_i hl
          refine z_p (hF n) hT rfl ?_
          simp
          refine z_app (hF n) rfl rfl eh (lim_lt (by omega)) ?_
          simp
          refine (s_step (by omega) c nms h1 h4 hw).mono fun r ⟨hpl, e⟩ => ?_
          subst e
          have hzz : stepZ nms ⟨frs, cur, left, lends⟩ c = ⟨frs, cur ++ [.plain (stpW nms c)], left - 1, lends⟩ := by
            unfold stepZ
            rw [if_neg n1, if_neg n2, if_pos ⟨by omega, hl⟩]
          generalize stpW nms c = w at *
          have sc : P.scal (stpP (.plain w)) = true := by rw [stpP_plain]; simp
          simp [sc]
          refine z_appv (hF n) (View.one .refl (i := 5) rfl upd_same) rfl rfl (by rw [upd_ne hL.symm]; exact b.l) (lim_lt (by simp at bl ⊢; omega)) ?_
          obtain ⟨q1, q2, q3⟩ := plOk_words hpl
          have b1 := sumT_le (s := [32]) (ts := w) (b := 8) (n := 3) (fun t ht => (wOk_iff.mp (q1 t ht)).2.1) q3
          have el : ixD (rs.length + 1) (-1) = some rs.length := by
            unfold ixD
            rw [if_neg (by omega), if_pos (by omega)]
            congr 1
            omega
          have j := @join_tup [32] w
          simp at j b1
          simp [el, stpP_plain, j]
          refine ⟨by omega, zn_nil ?_⟩
          have b' := b.put eh hpl hl
          rw [stpP_plain] at b'
          exact jst_of rfl (by rw [← hz, hzz]) b' (by simp) rfl rfl
        · refine zn_nil (same ?_)
          unfold stepZ
          rw [if_neg n1, if_neg n2, if_neg (by dsimp only; omega)]
      · refine zn_nil (same ?_)
        unfold stepZ
        rw [if_neg n1, if_neg n2, if_neg (by omega)]
    have more : ¬ (10 < c % 13 ∧ frs ≠ []) → Zn (evSs T (callD T n) c__law_program_13) [some (P.lst (List.map P.int cells), 0), some (P.lst (List.map P.str nms), 0), some (P.raw root, 2), some (P.raw L, 2), some (P.raw Q, 2), some (P.raw here, 2), some (P.int left, 2), some (P.int lends, 2), some (P.int c, 2), some (P.int (c % 13), 2), some (P.int frs.length, 2), o11, o12] μ (Jst root L Q cells nms (rest.map .int)) fun p μ' => p.scal = true ∧ BuiltR nms cells p μ' := by
      intro n1
      refine z_ite1 (hF n) rfl ?_
      have go : 8 ≤ c % 13 → c % 13 ≤ 10 → 2 < left → frs.length < 8 → (c % 13 ≠ 8 ∨ 0 < lends) → Zn (evSs T (callD T n) c__law_program_8) [some (P.lst (List.map P.int cells), 0), some (P.lst (List.map P.str nms), 0), some (P.raw root, 2), some (P.raw L, 2), some (P.raw Q, 2), some (P.raw here, 2), some (P.int left, 2), some (P.int lends, 2), some (P.int c, 2), some (P.int (c % 13), 2), some (P.int frs.length, 2), o11, o12] μ (Jst root L Q cells nms (rest.map .int)) fun p μ' => p.scal = true ∧ BuiltR nms cells p μ' := by
        intro k1 k2 k3 k4 k5
        have hstep : stepZ nms ⟨frs, cur, left, lends⟩ c = if c % 13 = 8 then (⟨.lend cur (xV nms c) (yV nms c) :: frs, [], left - 2, lends - 1⟩ : ZS) else if c % 13 = 10 then ⟨.whl cur (bndV c) :: frs, [], left - 2, lends⟩ else ⟨.ifa cur (bndV c) :: frs, [], left - 3, lends⟩ := by
          unfold stepZ
          rw [if_neg n1, if_pos ⟨k1, k2, k3, k4, k5⟩]
        refine z_p (hF n) hT rfl ?_
        simp
        refine z_p (hF n) hT rfl ?_
        simp
        refine z_call (hF n) (Begun nms c here Q L rs (pl.map entR) ((lnZ frs ++ lnP cur).map .str) μ) rfl ?_ ?_
        · simp
          have z := z_begun (n := n) (by omega) c nms h1 h4 hw μ here Q L rs _ _ eh b.q b.l hQ hL b.ne.symm (by omega) (by simp; omega) (by simp at bl ⊢; omega)
          rw [List.map_append] at z
          exact z
        · rintro p μ' ⟨i, ei, rfl, hk⟩ _
          simp
          refine zn_nil ?_
          rcases hk with ⟨e8, x, y, ex, ey, wx, wy, rfl⟩ | ⟨e10, k, ek, hk, rfl⟩ | ⟨ne8, ne10, k, o, ek, hk, eo, hoi, rfl⟩
          · have hzz := hstep.trans (if_pos e8)
            rw [← ex, ← ey] at hzz
            obtain ⟨us', b'⟩ := b.lend eh ei wx wy k4 (by omega) (by omega)
            exact jst_of rfl (by rw [← hz, hzz]) b' (by simp) (by simp [e8]; omega) (by simp [e8])
          · have hzz := hstep.trans ((if_neg (by omega)).trans (if_pos e10))
            rw [← ek] at hzz
            obtain ⟨us', b'⟩ := b.whl eh ei hk k4 (by omega)
            exact jst_of rfl (by rw [← hz, hzz]) b' (by simp) (by simp [e10]; omega) (by simp [e10])
          · have hzz := hstep.trans ((if_neg ne8).trans (if_neg ne10))
            rw [← ek] at hzz
            obtain ⟨us', b'⟩ := b.ifs eh ei eo hoi hk k4 (by omega)
            have e9 : c % 13 = 9 := by omega
            exact jst_of rfl (by rw [← hz, hzz]) b' (by simp) (by simp [e9]) (by simp [e9])
      simp
      repeat' split
      all_goals first | exact go (by omega) (by omega) (by omega) (by omega) (by omega) | exact last n1 (by omega)
    refine z_ited1 (hF n) (Deep.one (i := 4) rfl td rfl) rfl ?_
    simp [e3]
    split
    · split
      · rename_i hk hts
        exact more fun z => z.2 (b.nil_iff.mp (List.eq_nil_of_length_eq_zero (by rw [← tl, hts]; rfl)))
      · rename_i hk hts
        have hpl : pl ≠ [] := fun z => hts (List.eq_nil_of_length_eq_zero (by rw [tl, z]; rfl))
        obtain ⟨pl', w, m, frs', cur', us', vs', e, e2, e4, ef, b'⟩ := b.pop hpl
        have hzz : stepZ nms ⟨frs, cur, left, lends⟩ c = ⟨frs', cur', left, lends⟩ := by
          unfold stepZ
          rw [if_pos ⟨hk, fun z => hpl (b.nil_iff.mpr z)⟩, ← ef]
        refine z_pop rfl rfl (by rw [b.q, e, List.map_append]; rfl) (by simp) ?_
        simp
        refine z_app (hF n) rfl rfl (by rw [upd_ne b.ne]; exact b.l) (lim_lt (by simp at bl ⊢; omega)) ?_
        simp
        refine zn_nil ?_
        exact jst_of rfl (by rw [← hz, hzz]) b' (by simp) rfl rfl
    · exact more fun z => by omega
  · rintro ρ μ ⟨rest, frs, cur, here, pl, us, vs, left, lends, o8, o9, o10, o11, o12, hq, hz, b, rfl⟩
    have hr : rest = [] := by simpa using hq.symm
    subst hr
    have hz0 : plug frs cur = prgZ nms cells := by
      unfold prgZ
      rw [← hz]
      rfl
    refine z_whl hT (Wst root L Q cells nms) rfl pl.length ⟨_, _, _, _, _, _, _, _, _, _, _, _, _, rfl, hz0, b, rfl⟩ ?_
    rintro m ρ μ ⟨frs, cur, here, pl, us, vs, left, lends, o8, o9, o10, o11, o12, hm, hpz, b, rfl⟩
    obtain ⟨ts, ws, td, dt, tl⟩ := b.deep
    have e3 : cmpP .ne (.lst ts) (.lst []) = some (!ts.isEmpty) := ne_nil dt
    have bl := b.cl
    refine cz_d (hF n) (Deep.one (i := 4) rfl td rfl) ?_
    simp [e3]
    constructor
    · intro hts
      have hpl : pl ≠ [] := fun z => hts (List.eq_nil_of_length_eq_zero (by rw [tl, z]; rfl))
      obtain ⟨pl', w, m', frs', cur', us', vs', e, e2, e4, ef, b'⟩ := b.pop hpl
      refine z_pop rfl rfl (by rw [b.q, e, List.map_append]; rfl) (by simp) ?_
      simp
      refine z_app (hF n) rfl rfl (by rw [upd_ne b.ne]; exact b.l) (lim_lt (by simp at bl ⊢; omega)) ?_
      simp
      refine zn_nil ?_
      rw [List.map_append, List.append_assoc] at b'
      exact ⟨pl'.length, by rw [← hm, e]; simp, ⟨_, _, _, _, _, _, _, _, _, _, _, _, _, rfl, e2.trans hpz, b', rfl⟩⟩
    · intro hts
      have hpl : pl = [] := List.eq_nil_of_length_eq_zero (by rw [← tl, hts]; rfl)
      subst hpl
      obtain ⟨p, us', ep, t1, t2, t3, t4, t5, t6, t7, t8⟩ := b.done
      refine z_ret (hF n) rfl ?_
      simp
      refine ⟨p, us' ++ ([L] ++ []), ep.trans hpz, tr_tup (.cons t1 (.cons (tr_lst t4 trs_strs) .nil)), ?_, t5, t6, t7, t8⟩
      have : (us' ++ ([L] ++ [])).Perm (L :: us') := by simpa using List.perm_append_singleton L us'
      exact this.nodup_iff.mpr (List.nodup_cons.mpr ⟨t3, t2⟩)

end C_k21
end

section
set_option maxRecDepth 100000
set_option maxHeartbeats 1000000
namespace C_k21
open PySem U
theorem zip_map {α : Type} {f g : α → P} : ∀ {l : List α}, zipP (l.map f) (l.map g) = l.map fun x => .tup [f x, g x]
  | [] => rfl
  | x :: l => by simp [zipP, @zip_map α f g l]
theorem s_texts {n : Nat} (hn : 1 ≤ n) (ts : List Tx) : Tn (callP fn n i__law_texts [.lst (ts.map .str), .lst (ts.map .str)]) fun r => r = (.bl true, 2) := by
  obtain ⟨n, rfl, hn⟩ := succ_of hn
  refine callP_succ fn__law_texts rfl ?_
  unfold b__law_texts
  (refine pn_go rfl ?_; simp)
  refine pn_go rfl ?_
  simp
  rw [zip_map]
  refine forP_inv (fun i => (Hid (fun ρ => ∃ o2 o3, ρ = [some (.lst (ts.map .str), 0), some (.lst (ts.map .str), 0), o2, o3] ) .mk)) ⟨_, _, rfl⟩ ?_ ?_
  · rintro i q ρ hq ⟨o2, o3, rfl⟩
    rw [List.getElem?_map] at hq
    obtain ⟨w, hw, rfl⟩ := Option.map_eq_some_iff.mp hq
    simp
    (refine pn_go rfl ?_; simp)
    exact ⟨_, _, rfl⟩
  · rintro ρ ⟨o2, o3, rfl⟩
    (refine pn_go rfl ?_; simp)

theorem plain : Plain := by
  intro ns hns
  show Ds T (callD T 199) c_law_6 [some (.scr ns, 0), none, none, none, none]
  refine ds_go (hF 199) hT rfl ?_
  simp
  refine (s_cell (by omega) ns 0).mono fun r e => ?_
  subst e
  simp
  refine (s_names (by omega) _).mono fun r ⟨nms, e, h1, h4, hw⟩ => ?_
  subst e
  simp
  have zp := z_program (n := 199) (by omega) (cut ns (some 1) (some 201)) nms h1 h4 hw (fun _ => none)
  refine ds_two (hF 199) rfl (by decide) (by simp) (by simp) ?_
  simp
  refine zp.mono fun q μ' ⟨p, us, ep, tr, nd, wf, ok, ln, ld⟩ => ?_
  refine ⟨_, _, us, tr, nd, ?_⟩
  refine ds_first (hF 199) rfl (by simp) ?_
  simp
  refine zp.mono fun q μ' ⟨p', us', ep', tr', nd', _, _, _, _⟩ => ?_
  refine ⟨_, _, us', tr', nd', ?_⟩
  rw [ep', ← ep]
  have ht := okP_ht p (d := 0) (by omega) ok
  refine ds_pn (hF 199) hT ?_
  have h0 : 0 < nms.length := by omega
  obtain ⟨w, hw0⟩ : ∃ w, nms[0]? = some w := ⟨_, List.getElem?_eq_getElem h0⟩
  have ww := hw w (List.mem_of_getElem? hw0)
  obtain ⟨_, w2, _⟩ := wOk_iff.mp ww
  refine pn_go rfl ?_
  simp
  refine (s_lnP p (n := 199) (by omega) wf (by omega)).mono fun r e => ?_
  subst e
  simp
  refine (s_texts (by omega) (lnP p)).mono fun r e => ?_
  subst e
  simp
  rw [ne_self (dat_prg (by omega))]
  simp
  rw [show prgP p = .lst (p.map stpP) from rfl]
  have x0 : ixD nms.length 0 = some 0 := by unfold ixD; rw [if_pos (by omega), if_pos (by omega)]; rfl
  have hpl := @len_lnP p
  (refine pn_go rfl ?_; simp [tn_mut, x0, hw0])
  refine ⟨by omega, ?_⟩
  have em : p.map stpP ++ [P.tup [P.str [100, 114, 111, 112], P.str w]] = (p ++ [Stp.plain [tDrop, w]]).map stpP := by simp [stpP_plain]
  rw [em]
  have el : lnP (p ++ [Stp.plain [tDrop, w]]) = lnP p ++ [tDrop ++ [32] ++ w] := by simp [lnP_app, lnP, lnS, joinT]
  have hs := s_lnP (p ++ [Stp.plain [tDrop, w]]) (n := 199) (by simp [htP_app, htP, Stp.ht]; omega) (by simp [wfP_app, wfP, wf, Stp.wf, plOk, ww]) (by rw [el]; simp; omega)
  have hs : Tn (callP fn 199 i_lines_of [P.lst ((p ++ [Stp.plain [tDrop, w]]).map stpP)]) _ := hs
  rw [List.map_append] at hs
  simp only [List.map_cons, List.map_nil] at hs
  refine pn_go rfl ?_
  simp
  refine hs.mono fun r e => ?_
  subst e
  simp [x0, hw0]
  refine ⟨by omega, by omega, ?_⟩
  have e2 := s_texts (n := 199) (by omega) (lnP (p ++ [Stp.plain [tDrop, w]]))
  rw [el] at e2 ⊢
  simp at e2 ⊢
  exact e2.mono fun r h => by rw [h]
end C_k21
end

section
set_option maxRecDepth 100000
set_option maxHeartbeats 0
namespace C_k21
open PySem U L2
theorem bs_ok : tb.map (trDef (nmOf tb cs fr)) = bs.map some := by kernel_rfl
abbrev R : PySem.W.OpenRow := PySem.W.OpenLaw.row PySem.Challenge.rw_usewarden_k21_lines_of_blocks
abbrev hk : PySem.W.Hook := hookU 4 (ftOf cs fr) tb
def ob (s : PySem.W.SharedT) : AlU := obsUG 4 (ftOf cs fr) tb (HandSHeadRun.getT s)
theorem ob_eq (s : PySem.W.SharedT) : ob s = hk.obs s.abs := obsUG_eq (HandSHeadRun.getT_eq s)
def loose : List PySem.Str := (["lines_of_step", "lines_of", "_law_cell_at", "_law_names", "_law_bound", "_law_step", "_law_begun", "_law_program", "_law_texts"] : List PySem.Str)
theorem run (w : World) : HandSHeadRun.RunEq R (PySem.W.view R.prog [11]) hk ob 2000 loose w := by
  intro os
  kernel_rfl
end C_k21
open PySem PySem.W PySem.Calls PyProof.Rows
theorem C_k21.holds_of (hp : C_k21.Plain) : PySem.Challenge.rw_usewarden_k21_lines_of_blocks.Holds := by
  w_on; o_law
  refine HandSHeadRun.head_any (r := OpenLaw.row PySem.Challenge.rw_usewarden_k21_lines_of_blocks) (q := view (OpenLaw.row PySem.Challenge.rw_usewarden_k21_lines_of_blocks).prog [11]) (H := C_k21.hk) (ob := C_k21.ob) (M := 2000) (loose := C_k21.loose) (d := HandSHeadRun.topDef (OpenLaw.row PySem.Challenge.rw_usewarden_k21_lines_of_blocks).prog 11) (kwd := []) C_k21.ob_eq
    (by kernel_rfl) (fun s => by kernel_rfl) C_k21.run (by kernel_rfl) (by kernel_rfl) (by kernel_rfl) (by rfl) (by first | assumption | decide +kernel) (by decide +kernel) ⟨rfl, rfl, rfl, rfl, rfl, by decide +kernel⟩ ?hw ?hc
  case hw => w_witness2
  case hc => exact U.law_end (l := PySem.Challenge.rw_usewarden_k21_lines_of_blocks) (tb := C_k21.tb) (cs := C_k21.cs) (fr := C_k21.fr) (bs := C_k21.bs) (rn := 4) (x := "_law_script") (f := 9) (e := C_k21.t9) rfl (by kernel_rfl) C_k21.bs_ok rfl (by kernel_rfl) (by kernel_rfl) fun ns hl => U.law_mix (d := C_k21.b_law) (by decide +kernel) rfl rfl (hp ns hl)
end
theorem PySem.Challenge.cw_usewarden_k21_lines_of_blocks_holds : PySem.Challenge.rw_usewarden_k21_lines_of_blocks.Holds := by
  exact C_k21.holds_of C_k21.plain
