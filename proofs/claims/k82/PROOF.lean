import PyProof.Rows.All
import Wide.All
import OpenK.AllK
import Wide.FinOn
import HandS.ForMost
import HandS.ForExc
import HandS.IsInst
import HandS.Wide
import HandS.FStr
import HandS.CallSlots
import KE.SortData
import KE.DatumIndex
import PySem.Str
import PySem.PyData
import HandS.TupLe
import HandS.Small
import PyProof.ListStr
import PyProof.StrLawsTight
import PyProof.StrLawsChain
import HandS.Flow
import HandS.Comp
import HandS.Iter
import HandS.Defaults
import HandS.Exc
import HandS.ExcOwn
import HandS.Ends
import HandS.HeadEnd
import HandS.Head0
import HandS.Head1
import HandS.Head2
import HandS.HeadHook1
import HandS.HeadHook2
import PySem.Challenge.RW_wornstones_k82_wears_rows_and_books_writ
/-! text MPA -/
section
set_option linter.all false
/-! MP, part A: values, cells, syntax, evaluator. Plain Lean. -/
namespace MP
open PySem

/-! ### values -/
/-- a text: its signs -/
abbrev Tx := List Char
def toS (x : Tx) : Str := ⟨(x.map Char.toNat).toArray⟩
abbrev Key := Sum Int Tx
/-- a dict's key: an int or a text, or a tuple of such -/
abbrev DK := Sum Key (List Key)
/-- data by value; ref n: the shared cell n; fn f: the def number f -/
inductive D where
  | non | bl (b : Bool) | int (i : Int) | str (x : Tx) | tup (xs : List D) | lst (xs : List D) | dic (ks : List DK) (vs : List D) | ref (n : Nat) | fn (f : Nat) | rep (x : D) | klst (xs : List D)
  deriving Repr, Inhabited
mutual
def D.eqb : D → D → Bool
  | .non, .non => true
  | .bl a, .bl b => a == b
  | .int a, .int b => decide (a = b)
  | .str a, .str b => decide (a = b)
  | .tup a, .tup b => D.eqbs a b
  | .lst a, .lst b => D.eqbs a b
  | .dic k a, .dic l b => decide (k = l) && D.eqbs a b
  | .ref a, .ref b => a == b
  | .fn a, .fn b => a == b
  | .rep a, .rep b => D.eqb a b
  | .klst a, .klst b => D.eqbs a b
  | _, _ => false
def D.eqbs : List D → List D → Bool
  | [], [] => true
  | a :: r, b :: s => D.eqb a b && D.eqbs r s
  | _, _ => false
end
mutual
theorem D.eqb_iff : ∀ a b : D, D.eqb a b = true ↔ a = b := fun a b => by
  cases a <;> cases b <;> simp [D.eqb]
  · exact D.eqbs_iff _ _
  · exact D.eqbs_iff _ _
  · exact fun _ => D.eqbs_iff _ _
  · exact D.eqb_iff _ _
  · exact D.eqbs_iff _ _
theorem D.eqbs_iff : ∀ a b : List D, D.eqbs a b = true ↔ a = b := fun a b => by
  match a, b with
  | [], [] => simp [D.eqbs]
  | [], _ :: _ => simp [D.eqbs]
  | _ :: _, [] => simp [D.eqbs]
  | x :: r, y :: s => simp [D.eqbs, D.eqb_iff x y, D.eqbs_iff r s]
end
instance : DecidableEq D := fun a b => decidable_of_iff _ (D.eqb_iff a b)

/-- a value at hand: data, or a cell of the frame's own -/
inductive W where
  | d (x : D) | loc (n : Nat)
  deriving Repr, Inhabited, DecidableEq
/-- a cell of the frame's own; z: nothing writes it any more -/
inductive LC where
  | lst (z : Bool) (xs : List W) | dic (z : Bool) (kvs : List (DK × W))
  deriving Repr, Inhabited, DecidableEq
/-- a shared cell: a list, an instance of the class c with its fields by number -/
inductive SC where
  | lst (xs : List D) | ins (c : Nat) (fs : List (Nat × D))
  deriving Repr, Inhabited, DecidableEq
structure Stt where
  L : List LC
  S : List SC
  deriving Repr, Inhabited
/-- an exception: its class by number, its one datum -/
structure XD where
  cls : Nat
  arg : Option D
  deriving Repr, Inhabited, DecidableEq
inductive R (α : Type) where
  | ok (a : α) (t : Stt) | exc (x : XD) (t : Stt) | stk
  deriving Repr, Inhabited
def R.bind {α β : Type} (r : R α) (f : α → Stt → R β) : R β := match r with
  | .ok a t => f a t
  | .exc x t => .exc x t
  | .stk => .stk
abbrev M (α : Type) := Stt → R α
@[simp] theorem R.bind_ok {α β : Type} (a : α) (t : Stt) (f : α → Stt → R β) : (R.ok a t).bind f = f a t := rfl
@[simp] theorem R.bind_exc {α β : Type} (x : XD) (t : Stt) (f : α → Stt → R β) : (R.exc x t : R α).bind f = .exc x t := rfl
@[simp] theorem R.bind_stk {α β : Type} (f : α → Stt → R β) : (R.stk : R α).bind f = .stk := rfl
/-- what a def gives -/
inductive RF where
  | ok (d : D) (S : List SC) | exc (x : XD) (S : List SC) | stk
  deriving Repr, Inhabited
abbrev Fns := Nat → List D → List SC → RF

/-! ### small functions -/
def LIM : Nat := 1000000
/-- data out of a value: a cell of the frame's own whose items are data is read and locked -/
def dOf? : W → Option D
  | .d x => some x
  | .loc _ => none
def dsOf? : List W → Option (List D)
  | [] => some []
  | w :: r => match dOf? w, dsOf? r with
    | some x, some xs => some (x :: xs)
    | _, _ => none
def toD (w : W) : M D := fun t => match w with
  | .d x => .ok x t
  | .loc i => match t.L[i]? with
    | some (.lst _ ws) => match dsOf? ws with
      | some ds => .ok (.lst ds) { t with L := t.L.set i (.lst true ws) }
      | none => .stk
    | some (.dic _ kvs) => match dsOf? (kvs.map (·.2)) with
      | some ds => .ok (.dic (kvs.map (·.1)) ds) { t with L := t.L.set i (.dic true kvs) }
      | none => .stk
    | none => .stk
def toDs : List W → M (List D)
  | [], t => .ok [] t
  | w :: r, t => (toD w t).bind fun x t => (toDs r t).bind fun xs t => .ok (x :: xs) t
/-- at a return: read to the bottom -/
def deepF : Nat → List LC → W → Option D
  | _, _, .d x => some x
  | 0, _, .loc _ => none
  | n + 1, L, .loc i => match L[i]? with
    | some (.lst _ ws) => (go n L ws).map D.lst
    | some (.dic _ kvs) => (go n L (kvs.map (·.2))).map (D.dic (kvs.map (·.1)))
    | none => none
where go (n : Nat) (L : List LC) : List W → Option (List D)
  | [] => some []
  | w :: r => match deepF n L w, go n L r with
    | some x, some xs => some (x :: xs)
    | _, _ => none

/-- where a new list or dict is to lie: by value, as a cell of the frame's own, as a shared cell -/
inductive Own where
  | val | loc | shr
  deriving Repr, Inhabited, DecidableEq
def mkLst (o : Own) (ws : List W) : M W := fun t => match o with
  | .val => (toDs ws t).bind fun ds t => .ok (.d (.lst ds)) t
  | .loc => .ok (.loc t.L.length) { t with L := t.L ++ [.lst false ws] }
  | .shr => (toDs ws t).bind fun ds t => .ok (.d (.ref t.S.length)) { t with S := t.S ++ [.lst ds] }
/-- the items of a list, a tuple, wherever it lies -/
def items? (t : Stt) : W → Option (List W)
  | .d (.lst xs) => some (xs.map .d)
  | .d (.tup xs) => some (xs.map .d)
  | .d (.klst xs) => some (xs.map .d)
  | .d (.ref n) => match t.S[n]? with
    | some (.lst xs) => some (xs.map .d)
    | _ => none
  | .loc i => match t.L[i]? with
    | some (.lst _ ws) => some ws
    | _ => none
  | _ => none
def lstOnly? (t : Stt) : W → Option (List W)
  | .d (.tup _) => none
  | w => items? t w
/-- Python's index -/
def idx (n : Nat) (i : Int) : Option Nat := if 0 ≤ i then (if i < n then some i.toNat else none) else if 0 ≤ i + n then some (i + n).toNat else none
def extOnly? (t : Stt) : W → Option (List W)
  | .d (.klst _) => none
  | w => lstOnly? t w
def nth {α : Type} (xs : List α) (i : Int) : Option α := match idx xs.length i with
  | some k => xs[k]?
  | none => none

/-- truth -/
def truth (w : W) : M Bool := fun t => match w with
  | .d .non => .ok false t
  | .d (.bl b) => .ok b t
  | .d (.int i) => .ok (i != 0) t
  | .d (.str x) => if x.length ≤ LIM then .ok (x.length != 0) t else .stk
  | w => match items? t w with
    | some xs => .ok (!xs.isEmpty) t
    | none => .stk

/-! ### operators -/
inductive Bop where
  | add | sub | mul | fdiv | mod | pow
  deriving Repr, Inhabited, DecidableEq
def bopI (op : Bop) (a b : Int) : Option Int := match op with
  | .add => some (a + b)
  | .sub => some (a - b)
  | .mul => if a.natAbs.log2 + b.natAbs.log2 < 1000000 then some (a * b) else none
  | .fdiv => if 0 < b ∧ b.natAbs.log2 < 9000 then some (a / b) else none
  | .mod => if 0 < b then some (a % b) else none
  | .pow => if 0 ≤ b ∧ b ≤ 100 ∧ a.natAbs.log2 < 1000 then some (a ^ b.toNat) else none
def bop (op : Bop) (x y : W) : M W := fun t => match x, y with
  | .d (.int a), .d (.int b) => match bopI op a b with
    | some c => .ok (.d (.int c)) t
    | none => .stk
  | .d (.str a), .d (.str b) => match op with
    | .add => if a.length + b.length ≤ LIM then .ok (.d (.str (a ++ b))) t else .stk
    | _ => .stk
  | _, _ => .stk

/- data without lists' places: for == and repr -/
mutual
def D.pd? : D → Option PyData
  | .non => some .none
  | .bl b => some (.bool b)
  | .int i => some (.int i)
  | .str x => some (.str (toS x))
  | .tup xs => match D.pds? xs with
    | some ys => some (.tuple ys)
    | none => none
  | .lst xs => match D.pds? xs with
    | some ys => some (.list ys)
    | none => none
  | _ => none
def D.pds? : List D → Option (List PyData)
  | [] => some []
  | x :: r => match D.pd? x, D.pds? r with
    | some y, some ys => some (y :: ys)
    | _, _ => none
end
/- how deep data lies -/
mutual
def D.dp : D → Nat
  | .tup xs => D.dps xs + 1
  | .lst xs => D.dps xs + 1
  | _ => 0
def D.dps : List D → Nat
  | [] => 0
  | x :: r => max (D.dp x) (D.dps r)
end
/- how long repr may come to -/
mutual
def D.wt : D → Nat
  | .str x => 10 * x.length + 2
  | .int i => i.natAbs.log2 + 3
  | .tup xs => D.wts xs + 3
  | .lst xs => D.wts xs + 3
  | _ => 8
def D.wts : List D → Nat
  | [] => 0
  | x :: r => D.wt x + 2 + D.wts r
end
/- every int in it can be shown -/
mutual
def D.shw : D → Bool
  | .int i => decide (i.natAbs.log2 < 1920)
  | .tup xs => D.shws xs
  | .lst xs => D.shws xs
  | _ => true
def D.shws : List D → Bool
  | [] => true
  | x :: r => D.shw x && D.shws r
end
/- == of data: two ints, two texts, two bools, None and these; tuples and lists item by item. A bool beside an int: not told -/
mutual
def eqD : Nat → D → D → Option Bool
  | _, .non, .non => some true
  | _, .bl a, .bl b => some (a == b)
  | _, .int a, .int b => some (decide (a = b))
  | _, .str a, .str b => some (decide (a = b))
  | n + 1, .tup a, .tup b => eqDs n a b
  | n + 1, .lst a, .lst b => eqDs n a b
  | _, .non, .int _ => some false | _, .int _, .non => some false
  | _, .non, .str _ => some false | _, .str _, .non => some false
  | _, .int _, .str _ => some false | _, .str _, .int _ => some false
  | _, .bl _, .non => some false | _, .non, .bl _ => some false
  | _, .bl _, .str _ => some false | _, .str _, .bl _ => some false
  | _, _, _ => none
def eqDs : Nat → List D → List D → Option Bool
  | _, [], [] => some true
  | n, [], b :: s => match D.pds? (b :: s) with
    | some _ => if D.dps (b :: s) ≤ n then some false else none
    | none => none
  | n, a :: r, [] => match D.pds? (a :: r) with
    | some _ => if D.dps (a :: r) ≤ n then some false else none
    | none => none
  | n, a :: r, b :: s => match eqD n a b, eqDs n r s with
    | some p, some q => some (p && q)
    | _, _ => none
end
inductive Cop where
  | eq | ne | lt | le | gt | ge | isN | notN | isin | notin
  deriving Repr, Inhabited, DecidableEq
/- order of data: ints, texts, tuples and lists item by item; data of unlike kinds: not asked -/
mutual
def ltD : D → D → Bool
  | .int a, .int b => decide (a < b)
  | .str a, .str b => decide (a < b)
  | .tup a, .tup b => ltDs a b
  | .lst a, .lst b => ltDs a b
  | _, _ => false
def ltDs : List D → List D → Bool
  | [], [] => false
  | [], _ :: _ => true
  | _ :: _, [] => false
  | a :: r, b :: s => if a = b then ltDs r s else ltD a b
end
def leD (a b : D) : Bool := !ltD b a
/- alike: of one kind at every place that both have -/
mutual
def alikeD : D → D → Bool
  | .int _, .int _ => true
  | .str _, .str _ => true
  | .tup a, .tup b => alikeDs a b
  | .lst a, .lst b => alikeDs a b
  | _, _ => false
def alikeDs : List D → List D → Bool
  | a :: r, b :: s => alikeD a b && alikeDs r s
  | _, _ => true
end
def flatD : D → Bool
  | .int _ => true
  | .str _ => true
  | _ => false
def allAlike (ds : List D) : Bool := ds.all fun a => ds.all fun b => alikeD a b
def neTup : D → Bool
  | .tup [] => false
  | _ => true
def cmpD (op : Cop) (x y : D) : Option Bool := match op with
  | .eq => match x, y with
    | .rep a, .rep b => if a = b then some true else none
    | _, _ => eqD 8 x y
  | .ne => match x, y with
    | .rep a, .rep b => if a = b then some false else none
    | _, _ => (eqD 8 x y).map (!·)
  | .lt => match x, y with
    | .int a, .int b => some (decide (a < b))
    | .str a, .str b => some (decide (a < b))
    | .tup a, .tup b => if (a.all flatD && b.all flatD && alikeDs a b) = true then some (ltDs a b) else none
    | _, _ => none
  | .le => match x, y with
    | .int a, .int b => some (decide (a ≤ b))
    | .str a, .str b => some (!decide (b < a))
    | .tup a, .tup b => if (a.all flatD && b.all flatD && alikeDs a b) = true then some (!ltDs b a) else none
    | _, _ => none
  | .gt => match x, y with
    | .int a, .int b => some (decide (b < a))
    | .str a, .str b => some (decide (b < a))
    | _, _ => none
  | .ge => match x, y with
    | .int a, .int b => some (decide (b ≤ a))
    | .str a, .str b => some (!decide (a < b))
    | _, _ => none
  | .isN => match y with
    | .non => some (decide (x = .non))
    | _ => none
  | .notN => match y with
    | .non => some (!decide (x = .non))
    | _ => none
  | .isin => match x, y with
    | .str [c], .str b => some (decide (c ∈ b))
    | _, _ => none
  | .notin => match x, y with
    | .str [c], .str b => some (!decide (c ∈ b))
    | _, _ => none
/-- a comparison of values; a list of the frame's own is read as it stands -/
def peek (t : Stt) : W → Option D
  | .d x => some x
  | .loc i => match t.L[i]? with
    | some (.lst _ ws) => (dsOf? ws).map D.lst
    | _ => none
def cop (op : Cop) (x y : W) : M Bool := fun t => match peek t x, peek t y with
  | some a, some b => match cmpD op a b with
    | some k => .ok k t
    | none => .stk
  | _, _ => .stk

/-! ### built-in functions and methods, by values -/
inductive Ty where
  | int | str | tup | lst | bool
  deriving Repr, Inhabited, DecidableEq
def isTy (ty : Ty) : D → Option Bool
  | .non => some false
  | .int _ => some (ty == .int)
  | .bl _ => some (ty == .bool || ty == .int)
  | .str _ => some (ty == .str)
  | .tup _ => some (ty == .tup)
  | .lst _ => some (ty == .lst)
  | _ => none
inductive Bi where
  | len | isi (ty : Ty) | str | int | list (o : Own) | tuple | all | sorted (o : Own) | max2 | min2 | repr | bool
  deriving Repr, Inhabited, DecidableEq
def boolsOf? : List W → Option (List Bool)
  | [] => some []
  | .d (.bl b) :: r => (boolsOf? r).map (b :: ·)
  | _ :: _ => none
/-- int(s) of one or two digits -/
def digit? (c : Char) : Option Nat := if 48 ≤ c.toNat ∧ c.toNat ≤ 57 then some (c.toNat - 48) else none
def intOf? (x : Tx) : Option Int := match x with
  | [a] => (digit? a).map fun n => (n : Int)
  | [a, b] => match digit? a, digit? b with
    | some m, some n => some ((10 * m + n : Nat) : Int)
    | _, _ => none
  | _ => none
def signsOf (x : Tx) : List D := x.map fun c => .str [c]
def bi (b : Bi) (ws : List W) : M W := fun t => match b, ws with
  | .len, [.d (.str x)] => if x.length ≤ LIM then .ok (.d (.int x.length)) t else .stk
  | .len, [.d (.dic ks vs)] => .ok (.d (.int vs.length)) t
  | .len, [w] => match items? t w with
    | some xs => .ok (.d (.int xs.length)) t
    | none => .stk
  | .isi ty, [.d x] => match isTy ty x with
    | some k => .ok (.d (.bl k)) t
    | none => .stk
  | .str, [.d (.int i)] => if i.natAbs.log2 < 1920 then .ok (.d (.str (toString i).toList)) t else .stk
  | .int, [.d (.int i)] => .ok (.d (.int i)) t
  | .int, [.d (.bl k)] => .ok (.d (.int (if k then 1 else 0))) t
  | .int, [.d (.str x)] => match intOf? x with
    | some n => .ok (.d (.int n)) t
    | none => .stk
  | .list o, [.d (.str x)] => if x.length ≤ LIM then mkLst o ((signsOf x).map .d) t else .stk
  | .list o, [w] => match items? t w with
    | some xs => mkLst o xs t
    | none => .stk
  | .tuple, [w] => match items? t w with
    | some xs => (toDs xs t).bind fun ds t => .ok (.d (.tup ds)) t
    | none => .stk
  | .all, [w] => match lstOnly? t w with
    | some xs => match boolsOf? xs with
      | some bs => .ok (.d (.bl (bs.all id))) t
      | none => .stk
    | none => .stk
  | .sorted o, [w] => match lstOnly? t w with
    | some xs => match dsOf? xs with
      | some ds => if allAlike ds && ds.all neTup && decide (ds.length ≤ LIM) && ds.all (fun d => decide (d.dp ≤ 8)) then mkLst o ((ds.mergeSort leD).map .d) t else .stk
      | none => .stk
    | none => .stk
  | .max2, [.d (.int a), .d (.int b)] => .ok (.d (.int (if b > a then b else a))) t
  | .min2, [.d (.int a), .d (.int b)] => .ok (.d (.int (if b < a then b else a))) t
  | .repr, [.d x] => match x.pd? with
    | some p => if x.wt ≤ LIM ∧ x.dp ≤ 8 ∧ x.shw = true then .ok (.d (.rep x)) t else .stk
    | none => .stk
  | .bool, [.d (.int i)] => .ok (.d (.bl (i != 0))) t
  | .bool, [.d (.bl k)] => .ok (.d (.bl k)) t
  | .bool, [w] => match lstOnly? t w with
    | some xs => .ok (.d (.bl (!xs.isEmpty))) t
    | none => .stk
  | _, _ => .stk

inductive Bm where
  | append | extend | pop | popAt | join | split
  deriving Repr, Inhabited, DecidableEq
def strsOf? : List W → Option (List Tx)
  | [] => some []
  | .d (.str x) :: r => (strsOf? r).map (x :: ·)
  | _ :: _ => none
/-- texts joined -/
def joinL (sep : Tx) : List Tx → Tx
  | [] => []
  | [x] => x
  | x :: r => x ++ sep ++ joinL sep r
/-- a text split at each sign c -/
def splitL (c : Char) : Tx → Tx → List Tx
  | cur, [] => [cur]
  | cur, x :: r => if x = c then cur :: splitL c [] r else splitL c (cur ++ [x]) r
/-- the list that a method writes: of the frame's own, or shared -/
def writeL (w : W) (f : List W → Option (List W × W)) : M W := fun t => match w with
  | .loc i => match t.L[i]? with
    | some (.lst false xs) => match f xs with
      | some (ys, r) => if ys.length < LIM then .ok r { t with L := t.L.set i (.lst false ys) } else .stk
      | none => .stk
    | _ => .stk
  | .d (.ref n) => match t.S[n]? with
    | some (.lst xs) => match f (xs.map .d) with
      | some (ys, r) => match dsOf? ys with
        | some zs => if zs.length < LIM then .ok r { t with S := t.S.set n (.lst zs) } else .stk
        | none => .stk
      | none => .stk
    | _ => .stk
  | _ => .stk
def bm (m : Bm) (o : W) (ws : List W) : M W := fun t => match m, ws with
  | .append, [x] => writeL o (fun xs => some (xs ++ [x], .d .non)) t
  | .extend, [x] => match extOnly? t x with
    | some ys => writeL o (fun xs => some (xs ++ ys, .d .non)) t
    | none => .stk
  | .pop, [] => writeL o (fun xs => xs.getLast?.map fun y => (xs.dropLast, y)) t
  | .popAt, [.d (.int i)] => writeL o (fun xs => match idx xs.length i with
      | some k => xs[k]?.map fun y => (xs.eraseIdx k, y)
      | none => none) t
  | .join, [x] => match o, items? t x with
    | .d (.str sep), some xs => match strsOf? xs with
      | some ss => if (ss.map (·.length)).sum + ss.length * sep.length ≤ LIM then .ok (.d (.str (joinL sep ss))) t else .stk
      | none => .stk
    | _, _ => .stk
  | .split, [.d (.str [c])] => match o with
    | .d (.str x) => if x.length + 2 ≤ LIM then .ok (.d (.lst ((splitL c [] x).map .str))) t else .stk
    | _ => .stk
  | _, _ => .stk
/-- what a method is asked of -/
def bmTy (t : Stt) (m : Bm) (x : W) : Bool := match m with
  | .join => (match x with | .d (.str _) => true | _ => false)
  | .split => (match x with | .d (.str _) => true | _ => false)
  | _ => match x with
    | .loc i => (match t.L[i]? with | some (.lst _ _) => true | _ => false)
    | .d (.ref n) => (match t.S[n]? with | some (.lst _) => true | _ => false)
    | _ => false
/-- o[i] -/
def subs (o i : W) : M W := fun t => match o, i with
  | .d (.str x), .d (.int k) => if x.length ≤ LIM then match nth x k with
      | some c => .ok (.d (.str [c])) t
      | none => .stk
    else .stk
  | o, .d (.int k) => match items? t o with
    | some xs => match nth xs k with
      | some w => .ok w t
      | none => .stk
    | none => .stk
  | _, _ => .stk
/-- o[i] = v -/
def subsSet (o i v : W) : M Unit := fun t => match i with
  | .d (.int k) => (writeL o (fun xs => match idx xs.length k with
      | some j => some (xs.set j v, .d .non)
      | none => none) t).bind fun _ t => .ok () t
  | _ => .stk

/-! ### syntax: names by slots, defs, classes, fields by numbers -/
/-- a target -/
inductive Pat where
  | name (i : Nat) | tup (is : List Nat)
  deriving Repr, Inhabited, DecidableEq
mutual
inductive E where
  | var (i : Nat)
  | con (d : D)
  | bin (op : Bop) (a b : E)
  | cmp (op : Cop) (a b : E)
  | chain (op op' : Cop) (a b c : E)
  | and (a b : E) | or (a b : E) | not (a : E) | neg (a : E)
  | ite (c a b : E)
  | tup (es : Es) | lst (o : Own) (es : Es)
  | ix (a i : E)
  | call (f : Nat) (es : Es) (dfl : List D)
  | callk (f : Nat) (es ks : Es)
  | callv (i : Nat) (fs : List Nat) (es : Es)
  | meth (c f : Nat) (o : E) (es : Es) (dfl : List D)
  | make (c f : Nat) (es : Es) (dfl : List D)
  | fld (o : E) (x : Nat)
  | bi (b : Bi) (es : Es)
  | bm (m : Bm) (o : E) (es : Es)
  | comp (o : Own) (own : List Nat) (p : Pat) (it : It) (ifs : Es) (elt : E)
  | fstr (es : Es)
inductive Es where
  | nil | cons (e : E) (es : Es)
/-- what is walked -/
inductive It where
  | seq (e : E) | str (e : E) | range1 (e : E) | range2 (a b : E)
end
inductive S where
  | set (p : Pat) (e : E)
  | par (i j : Nat) (a b : E)
  | setf (o : E) (x : Nat) (e : E)
  | seti (o i e : E)
  | ex (e : E)
  | ret (e : E) | retN
  | ife (c : E) (a b : List S)
  | whl (c : E) (b : List S)
  | fr (p : Pat) (it : It) (b : List S)
  | rai (c : Nat) (es : Es)
  | pas | brk | cnt | nev
  deriving Inhabited

/-! ### the evaluator -/
abbrev Sg := List (Option W)
def putP (p : Pat) (w : W) (σ : Sg) : M Sg := fun t => match p with
  | .name i => .ok (σ.set i (some w)) t
  | .tup is => match w with
    | .d (.tup xs) => if xs.length = is.length then .ok ((is.zip xs).foldl (fun σ q => σ.set q.1 (some (.d q.2))) σ) t else .stk
    | _ => .stk
/-- what is walked, as it stands at the start -/
inductive Src where
  | fix (xs : List W) | loc (i : Nat) (xs : List W) | shr (n : Nat) (xs : List D)
def Src.items : Src → List W
  | .fix xs => xs
  | .loc _ xs => xs
  | .shr _ xs => xs.map .d
/-- it stands as at the start -/
def Src.still (t : Stt) : Src → Bool
  | .fix _ => true
  | .loc i xs => match t.L[i]? with
    | some (.lst _ ys) => decide (ys = xs)
    | _ => false
  | .shr n xs => match t.S[n]? with
    | some (.lst ys) => decide (ys = xs)
    | _ => false
def srcOf (t : Stt) : W → Option Src
  | .d (.lst xs) => some (.fix (xs.map .d))
  | .d (.tup xs) => some (.fix (xs.map .d))
  | .d (.klst xs) => some (.fix (xs.map .d))
  | .d (.ref n) => match t.S[n]? with
    | some (.lst xs) => some (.shr n xs)
    | _ => none
  | .loc i => match t.L[i]? with
    | some (.lst _ ws) => some (.loc i ws)
    | _ => none
  | _ => none
def rngItems (lo : Int) (n : Nat) : List W := (List.range n).map fun (k : Nat) => W.d (.int (lo + (k : Int)))
def wipeS (σ : Sg) : List Nat → Sg
  | [] => σ
  | v :: vs => (wipeS σ vs).set v none
/-- nothing may be raised -/
def noX {α : Type} (r : R α) : R α := match r with
  | .exc _ _ => .stk
  | r => r
@[simp] theorem noX_ok {α : Type} (a : α) (t : Stt) : noX (R.ok a t) = .ok a t := rfl
@[simp] theorem noX_stk {α : Type} : noX (R.stk : R α) = .stk := rfl
@[simp] theorem noX_exc {α : Type} (x : XD) (t : Stt) : noX (R.exc x t : R α) = .stk := rfl
def compL (src : Src) (body : W → M (Option W)) : List W → List W → M (List W)
  | [], acc, t => if src.still t then .ok acc t else .stk
  | x :: r, acc, t => if src.still t && decide (acc.length < LIM) then (body x t).bind fun o t => compL src body r (match o with | some y => acc ++ [y] | none => acc) t else .stk
/-- the fields of an instance -/
def fldOf (t : Stt) (w : W) (x : Nat) : Option D := match w with
  | .d (.ref n) => match t.S[n]? with
    | some (.ins _ fs) => fs.lookup x
    | _ => none
  | _ => none
def putFl (x : Nat) (v : D) : List (Nat × D) → List (Nat × D)
  | [] => [(x, v)]
  | (y, w) :: r => if y = x then (x, v) :: r else (y, w) :: putFl x v r
def fin (t : Stt) (r : RF) : R W := match r with
  | .ok d S => .ok (.d d) { t with S := S }
  | .exc x S => .exc x { t with S := S }
  | .stk => .stk
def fmtOf (w : W) : Option Tx := match w with
  | .d (.str x) => if x.length ≤ LIM then some x else none
  | .d (.int i) => if i.natAbs.log2 < 1920 then some (toString i).toList else none
  | _ => none
def fmtM (w : W) : M Tx := fun t => match fmtOf w with
  | some x => .ok x t
  | none => .stk
section
variable (Φ : Fns)
mutual
def evE : E → Sg → M W
  | .var i, σ, t => match σ[i]? with
    | some (some w) => .ok w t
    | _ => .stk
  | .con d, _, t => .ok (.d d) t
  | .bin op a b, σ, t => (evE a σ t).bind fun x t => (evE b σ t).bind fun y t => bop op x y t
  | .cmp op a b, σ, t => (evE a σ t).bind fun x t => (evE b σ t).bind fun y t => (cop op x y t).bind fun k t => .ok (.d (.bl k)) t
  | .chain op op' a b c, σ, t => (evE a σ t).bind fun x t => (evE b σ t).bind fun y t => (cop op x y t).bind fun k t =>
      if k = true then (evE c σ t).bind fun z t => (cop op' y z t).bind fun k t => .ok (.d (.bl k)) t else .ok (.d (.bl false)) t
  | .and a b, σ, t => (evE a σ t).bind fun x t => (truth x t).bind fun k t => if k = true then evE b σ t else .ok x t
  | .or a b, σ, t => (evE a σ t).bind fun x t => (truth x t).bind fun k t => if k = true then .ok x t else evE b σ t
  | .not a, σ, t => (evE a σ t).bind fun x t => (truth x t).bind fun k t => .ok (.d (.bl !k)) t
  | .neg a, σ, t => (evE a σ t).bind fun x t => match x with
    | .d (.int i) => .ok (.d (.int (-i))) t
    | _ => .stk
  | .ite c a b, σ, t => (evE c σ t).bind fun x t => (truth x t).bind fun k t => if k = true then evE a σ t else evE b σ t
  | .tup es, σ, t => (evEs es σ t).bind fun ws t => (toDs ws t).bind fun ds t => .ok (.d (.tup ds)) t
  | .lst o es, σ, t => (evEs es σ t).bind fun ws t => mkLst o ws t
  | .ix a i, σ, t => (evE a σ t).bind fun x t => (evE i σ t).bind fun y t => subs x y t
  | .call f es dfl, σ, t => (evEs es σ t).bind fun ws t => (toDs ws t).bind fun ds t => fin t (Φ f (ds ++ dfl) t.S)
  | .callk f es ks, σ, t => (evEs es σ t).bind fun ws t => (evEs ks σ t).bind fun us t => (toDs (ws ++ us) t).bind fun ds t => fin t (Φ f ds t.S)
  | .callv i fs es, σ, t => match σ[i]? with
    | some (some (.d (.fn f))) => if f ∈ fs then (evEs es σ t).bind fun ws t => (toDs ws t).bind fun ds t => fin t (Φ f ds t.S) else .stk
    | _ => .stk
  | .meth c f o es dfl, σ, t => (evE o σ t).bind fun x t => match x with
    | .d (.ref n) => match t.S[n]? with
      | some (.ins c' _) => if c' = c then (evEs es σ t).bind fun ws t => (toDs ws t).bind fun ds t => fin t (Φ f (.ref n :: (ds ++ dfl)) t.S) else .stk
      | _ => .stk
    | _ => .stk
  | .make c f es dfl, σ, t => (evEs es σ t).bind fun ws t => (toDs ws t).bind fun ds t =>
      match Φ f (.ref t.S.length :: (ds ++ dfl)) (t.S ++ [.ins c []]) with
      | .ok .non S => .ok (.d (.ref t.S.length)) { t with S := S }
      | .ok _ _ => .stk
      | .exc x S => .exc x { t with S := S }
      | .stk => .stk
  | .fld o x, σ, t => (evE o σ t).bind fun w t => match fldOf t w x with
    | some d => .ok (.d d) t
    | none => .stk
  | .bi b es, σ, t => (evEs es σ t).bind fun ws t => bi b ws t
  | .bm m o es, σ, t => (evE o σ t).bind fun x t => if bmTy t m x = true then (evEs es σ t).bind fun ws t => bm m x ws t else .stk
  | .comp o own p it ifs elt, σ, t => (evIt it σ t).bind fun src t =>
      (compL src (fun x t => noX ((putP p x (wipeS σ own) t).bind fun σ t => (evIfs ifs σ t).bind fun k t => if k = true then (evE elt σ t).bind fun y t => .ok (some y) t else .ok none t)) src.items [] t).bind fun ws t => mkLst o ws t
  | .fstr es, σ, t => evFs es [] σ t
/-- the parts of an f-string -/
def evFs : Es → Tx → Sg → M W
  | .nil, acc, _, t => .ok (.d (.str acc)) t
  | .cons e es, acc, σ, t => (evE e σ t).bind fun w t => (fmtM w t).bind fun x t => if acc.length + x.length ≤ LIM then evFs es (acc ++ x) σ t else .stk
def evEs : Es → Sg → M (List W)
  | .nil, _, t => .ok [] t
  | .cons e es, σ, t => (evE e σ t).bind fun x t => (evEs es σ t).bind fun xs t => .ok (x :: xs) t
def evIfs : Es → Sg → M Bool
  | .nil, _, t => .ok true t
  | .cons e es, σ, t => (evE e σ t).bind fun x t => (truth x t).bind fun k t => if k = true then evIfs es σ t else .ok false t
def evIt : It → Sg → M Src
  | .seq e, σ, t => (evE e σ t).bind fun w t => match srcOf t w with
    | some s => .ok s t
    | none => .stk
  | .str e, σ, t => (evE e σ t).bind fun w t => match w with
    | .d (.str x) => if x.length ≤ LIM then .ok (.fix ((signsOf x).map .d)) t else .stk
    | _ => .stk
  | .range1 e, σ, t => (evE e σ t).bind fun w t => match w with
    | .d (.int n) => if n < 1000000000 ∧ -1000000000 < n then .ok (.fix (rngItems 0 n.toNat)) t else .stk
    | _ => .stk
  | .range2 a b, σ, t => (evE a σ t).bind fun v t => (evE b σ t).bind fun w t => match v, w with
    | .d (.int m), .d (.int n) => if n < 1000000000 ∧ -1000000000 < n ∧ m < 1000000000 ∧ -1000000000 < m then .ok (.fix (rngItems m (n - m).toNat)) t else .stk
    | _, _ => .stk
end

/-- how a statement ends -/
inductive RS where
  | next (σ : Sg) (t : Stt) | brk (σ : Sg) (t : Stt) | cnt (σ : Sg) (t : Stt) | ret (w : W) (t : Stt) | exc (x : XD) (σ : Sg) (t : Stt) | stk
  deriving Repr, Inhabited
def RS.seq (r : RS) (f : Sg → Stt → RS) : RS := match r with
  | .next σ t => f σ t
  | r => r
def R.stm {α : Type} (r : R α) (σ : Sg) (f : α → Stt → RS) : RS := match r with
  | .ok a t => f a t
  | .exc x t => .exc x σ t
  | .stk => .stk
@[simp] theorem R.stm_ok {α : Type} (a : α) (t : Stt) (σ : Sg) (f : α → Stt → RS) : (R.ok a t).stm σ f = f a t := rfl
@[simp] theorem R.stm_exc {α : Type} (x : XD) (t : Stt) (σ : Sg) (f : α → Stt → RS) : (R.exc x t : R α).stm σ f = .exc x σ t := rfl
@[simp] theorem R.stm_stk {α : Type} (σ : Sg) (f : α → Stt → RS) : (R.stk : R α).stm σ f = .stk := rfl
@[simp] theorem RS.seq_next (σ : Sg) (t : Stt) (f : Sg → Stt → RS) : (RS.next σ t).seq f = f σ t := rfl
@[simp] theorem RS.seq_brk (σ : Sg) (t : Stt) (f : Sg → Stt → RS) : (RS.brk σ t).seq f = .brk σ t := rfl
@[simp] theorem RS.seq_cnt (σ : Sg) (t : Stt) (f : Sg → Stt → RS) : (RS.cnt σ t).seq f = .cnt σ t := rfl
@[simp] theorem RS.seq_ret (w : W) (t : Stt) (f : Sg → Stt → RS) : (RS.ret w t).seq f = .ret w t := rfl
@[simp] theorem RS.seq_exc (x : XD) (σ : Sg) (t : Stt) (f : Sg → Stt → RS) : (RS.exc x σ t).seq f = .exc x σ t := rfl
@[simp] theorem RS.seq_stk (f : Sg → Stt → RS) : RS.stk.seq f = .stk := rfl
/-- a loop over what is walked -/
def forL (src : Src) (p : Pat) (body : Sg → Stt → RS) : List W → Sg → Stt → RS
  | [], σ, t => if src.still t then .next σ t else .stk
  | x :: r, σ, t => if src.still t then (putP p x σ t).stm σ fun σ t => match body σ t with
    | .next σ t => forL src p body r σ t
    | .cnt σ t => forL src p body r σ t
    | .brk σ t => .next σ t
    | o => o
    else .stk
/-- a while, at most so many turns -/
def whlL (test : Sg → M Bool) (body : Sg → Stt → RS) : Nat → Sg → Stt → RS
  | 0, _, _ => .stk
  | n + 1, σ, t => (test σ t).stm σ fun k t => if k = true then match body σ t with
    | .next σ t => whlL test body n σ t
    | .cnt σ t => whlL test body n σ t
    | .brk σ t => .next σ t
    | o => o
    else .next σ t
def FUEL : Nat := 1000000
def tst (c : E) (σ : Sg) : M Bool := fun t => (evE Φ c σ t).bind fun x t => truth x t
mutual
def evS : S → Sg → Stt → RS
  | .set p e, σ, t => (evE Φ e σ t).stm σ fun w t => (putP p w σ t).stm σ fun σ t => .next σ t
  | .par i j a b, σ, t => (evE Φ a σ t).stm σ fun v t => (evE Φ b σ t).stm σ fun w t => .next ((σ.set i (some v)).set j (some w)) t
  | .setf o x e, σ, t => (evE Φ e σ t).stm σ fun v t => (toD v t).stm σ fun v t => (evE Φ o σ t).stm σ fun w t => match w with
    | .d (.ref n) => match t.S[n]? with
      | some (.ins c fs) => if fs.length < 900 then .next σ { t with S := t.S.set n (.ins c (putFl x v fs)) } else .stk
      | _ => .stk
    | _ => .stk
  | .seti o i e, σ, t => (evE Φ e σ t).stm σ fun v t => (evE Φ o σ t).stm σ fun w t => (evE Φ i σ t).stm σ fun k t => (subsSet w k v t).stm σ fun _ t => .next σ t
  | .ex e, σ, t => (evE Φ e σ t).stm σ fun _ t => .next σ t
  | .ret e, σ, t => (evE Φ e σ t).stm σ fun w t => .ret w t
  | .retN, _, t => .ret (.d .non) t
  | .ife c a b, σ, t => (tst Φ c σ t).stm σ fun k t => if k = true then evSs a σ t else evSs b σ t
  | .whl c b, σ, t => whlL (tst Φ c) (evSs b) FUEL σ t
  | .fr p it b, σ, t => (evIt Φ it σ t).stm σ fun src t => forL src p (evSs b) src.items σ t
  | .rai c es, σ, t => (evEs Φ es σ t).stm σ fun ws t => (toDs ws t).stm σ fun ds t => .exc ⟨c, ds.head?⟩ σ t
  | .pas, σ, t => .next σ t
  | .brk, σ, t => .brk σ t
  | .cnt, σ, t => .cnt σ t
  | .nev, _, _ => .stk
def evSs : List S → Sg → Stt → RS
  | [], σ, t => .next σ t
  | s :: r, σ, t => (evS s σ t).seq fun σ t => evSs r σ t
end
end
/-- a def: how many parameters, how many slots, its body -/
structure Fn where
  np : Nat
  ns : Nat
  body : List S
  deriving Inhabited
def DEEP : Nat := 4
def endF (r : RS) : RF := match r with
  | .ret w t => match deepF DEEP t.L w with
    | some d => .ok d t.S
    | none => .stk
  | .next _ t => .ok .non t.S
  | .exc x _ t => .exc x t.S
  | _ => .stk
def run (Φ : Fns) (f : Fn) (ds : List D) (S : List SC) : RF :=
  if ds.length = f.np then endF (evSs Φ f.body (ds.map (fun d => some (.d d)) ++ List.replicate (f.ns - f.np) none) ⟨[], S⟩) else .stk
/-- the tower: defs that call each other at most n deep -/
def tower (tab : Nat → Option Fn) : Nat → Fns
  | 0 => fun _ _ _ => .stk
  | n + 1 => fun f ds S => match tab f with
    | some fn => run (tower tab n) fn ds S
    | none => .stk
end MP
end

/-! text MPB -/
section
set_option Elab.async false
set_option linter.all false
set_option maxRecDepth 100000
set_option maxHeartbeats 4000000
/-! MP, part B: what stands for what. -/
namespace MP
open PySem L2

/-! ### texts -/
theorem toS_len (x : Tx) : (toS x).length = x.length := by simp [toS, Str.length]
theorem toS_list (x : Tx) : (toS x).cps.toList = x.map Char.toNat := by simp [toS]
theorem toS_ext {x y : Str} (h : x.cps.toList = y.cps.toList) : x = y := by
  cases x; cases y
  simp at h
  rw [h]
theorem toNat_inj : ∀ {a b : Char}, a.toNat = b.toNat → a = b := fun {a b} h => Char.ext (UInt32.toNat_inj.mp h)
theorem map_inj : ∀ {x y : List Char}, x.map Char.toNat = y.map Char.toNat → x = y
  | [], [], _ => rfl
  | [], _ :: _, h => by simp at h
  | _ :: _, [], h => by simp at h
  | a :: x, b :: y, h => by
    simp at h
    rw [toNat_inj h.1, map_inj h.2]
theorem toS_inj {x y : Tx} (h : toS x = toS y) : x = y := map_inj (by rw [← toS_list, ← toS_list, h])
theorem toS_append (x y : Tx) : toS x ++ toS y = toS (x ++ y) := by
  apply toS_ext
  show ((toS x).cps ++ (toS y).cps).toList = _
  simp [toS]
theorem toS_one (c : Char) : toS [c] = ⟨#[c.toNat]⟩ := rfl
theorem toS_ofString (s : String) : Str.ofString s = toS s.toList := Str.ofString_eq_toList s
theorem toS_mem {c : Char} {x : Tx} : c.toNat ∈ (toS x).cps.toList ↔ c ∈ x := by
  rw [toS_list, List.mem_map]
  exact ⟨fun ⟨d, h, e⟩ => toNat_inj e ▸ h, fun h => ⟨c, h, rfl⟩⟩
theorem map_lt : ∀ {x y : List Char}, x.map Char.toNat < y.map Char.toNat ↔ x < y
  | [], [] => by simp
  | [], _ :: _ => by simp
  | _ :: _, [] => by simp
  | a :: x, b :: y => by
    simp only [List.map_cons, List.cons_lt_cons_iff]
    rw [map_lt (x := x) (y := y)]
    constructor
    · rintro (h | ⟨h, k⟩)
      · exact .inl h
      · exact .inr ⟨toNat_inj h, k⟩
    · rintro (h | ⟨h, k⟩)
      · exact .inl h
      · exact .inr ⟨by rw [h], k⟩
theorem toS_lt {x y : Tx} : (toS x).cps.toList < (toS y).cps.toList ↔ x < y := by rw [toS_list, toS_list, map_lt]
theorem toS_le {x y : Tx} : (toS x).cps.toList ≤ (toS y).cps.toList ↔ x ≤ y := by
  rw [← List.not_lt, ← List.not_lt, toS_lt]
theorem toS_dec {x y : Tx} : decide (toS x = toS y) = decide (x = y) := by
  by_cases h : x = y
  · rw [h]; simp
  · rw [decide_eq_false h, decide_eq_false fun q => h (toS_inj q)]
theorem char_lt (c : Char) : c.toNat < 0x110000 := by
  have h := c.valid
  simp only [UInt32.isValidChar, Nat.isValidChar] at h
  show c.val.toNat < _
  omega
theorem toS_lim (x : Tx) : ∀ c ∈ (toS x).cps.toList, c < 0x110000 := fun c h => by
  rw [toS_list] at h
  obtain ⟨d, _, rfl⟩ := List.mem_map.mp h
  exact char_lt d

/-- what the head tells: the written part, where classes and defs stand, fields' names -/
structure Gv where
  K : PySem.W.Frag
  cadr : Nat → Addr
  fname : Nat → Str
  fadr : Nat → Addr
  finj : ∀ i j, fname i = fname j → i = j
/-- where the cells stand: shared ones, the frame's own; what is not written any more -/
structure Cf where
  ρ : List Addr
  l : List Addr
  Z : Addr → Prop

section
variable (g : Gv)
/-- a list that was never ours to write -/
def FrzL (Z : Addr → Prop) (H : Hp) (a : Addr) (vs : List V) : Prop := (Rd H a (.lst vs) ∧ Z a) ∨ SqL g.K (fun _ => none) a vs
/-- a list that is not written any more -/
def ZL (Z : Addr → Prop) (H : Hp) (a : Addr) (vs : List V) : Prop := H a = some (.lst vs) ∧ Z a
mutual
def RelD (ρ : List Addr) (Z : Addr → Prop) (H : Hp) : D → V → Prop
  | .non, v => v = .non
  | .bl b, v => v = .bl b
  | .int i, v => v = .int i
  | .str x, v => v = .str (toS x)
  | .tup xs, v => ∃ a vs, v = .ref a ∧ SqT g.K H a vs ∧ RelDs ρ Z H xs vs
  | .lst xs, v => ∃ a vs, v = .ref a ∧ ZL Z H a vs ∧ RelDs ρ Z H xs vs
  | .dic _ _, _ => False
  | .ref n, v => ∃ a, v = .ref a ∧ ρ[n]? = some a
  | .fn f, v => v = .ref (g.fadr f)
  | .rep x, v => ∃ p, x.pd? = some p ∧ v = .str p.shown
  | .klst xs, v => ∃ a vs, v = .ref a ∧ FrzL g Z H a vs ∧ RelDs ρ Z H xs vs
def RelDs (ρ : List Addr) (Z : Addr → Prop) (H : Hp) : List D → List V → Prop
  | [], vs => vs = []
  | x :: r, vs => ∃ v vr, vs = v :: vr ∧ RelD ρ Z H x v ∧ RelDs ρ Z H r vr
end
end

/-- what a datum leans on stays -/
structure Mon (ρ : List Addr) (Z : Addr → Prop) (H : Hp) (ρ' : List Addr) (Z' : Addr → Prop) (H' : Hp) : Prop where
  ρ : ∀ (n : Nat) (a : Addr), ρ[n]? = some a → ρ'[n]? = some a
  z : ∀ a, Z a → Z' a
  zk : ∀ a, Z a → H' a = H a
  tp : ∀ a vs, Rd H a (.tup vs) → Rd H' a (.tup vs)
section
variable {g : Gv} {ρ ρ' : List Addr} {Z Z' : Addr → Prop} {H H' : Hp}
theorem FrzL.mon (m : Mon ρ Z H ρ' Z' H') {a : Addr} {vs : List V} (h : FrzL g Z H a vs) : FrzL g Z' H' a vs := by
  rcases h with ⟨h, z⟩ | h
  · refine .inl ⟨?_, m.z a z⟩
    have e := m.zk a z
    rcases h with h | ⟨o, h⟩
    · exact .inl (e.trans h)
    · exact .inr ⟨o, e.trans h⟩
  · exact .inr h
theorem FrzL.sq {a : Addr} {vs : List V} (h : FrzL g Z H a vs) : SqL g.K H a vs := by
  rcases h with ⟨h, z⟩ | (h | h)
  · exact .inl h
  · rcases h with h | ⟨o, h⟩ <;> cases h
  · exact .inr h
theorem ZL.mon (m : Mon ρ Z H ρ' Z' H') {a : Addr} {vs : List V} (h : ZL Z H a vs) : ZL Z' H' a vs := ⟨(m.zk a h.2).trans h.1, m.z a h.2⟩
theorem SqT.mon {a : Addr} {vs : List V} (m : Mon ρ Z H ρ' Z' H') (h : SqT g.K H a vs) : SqT g.K H' a vs := by
  rcases h with h | h
  · exact .inl (m.tp a vs h)
  · exact .inr h
mutual
theorem RelD.mon (m : Mon ρ Z H ρ' Z' H') : ∀ {d : D} {v : V}, RelD g ρ Z H d v → RelD g ρ' Z' H' d v
  | .non, _, h => h
  | .bl _, _, h => h
  | .int _, _, h => h
  | .str _, _, h => h
  | .tup xs, v, h => by
    simp only [RelD] at h ⊢
    obtain ⟨a, vs, e, h1, h2⟩ := h
    exact ⟨a, vs, e, SqT.mon m h1, RelDs.mon m h2⟩
  | .lst xs, v, h => by
    simp only [RelD] at h ⊢
    obtain ⟨a, vs, e, h1, h2⟩ := h
    exact ⟨a, vs, e, ZL.mon m h1, RelDs.mon m h2⟩
  | .dic _ _, _, h => h
  | .ref n, v, h => by
    simp only [RelD] at h ⊢
    obtain ⟨a, e, h⟩ := h
    exact ⟨a, e, m.ρ n a h⟩
  | .fn _, _, h => h
  | .rep _, _, h => h
  | .klst xs, v, h => by
    simp only [RelD] at h ⊢
    obtain ⟨a, vs, e, h1, h2⟩ := h
    exact ⟨a, vs, e, FrzL.mon m h1, RelDs.mon m h2⟩
theorem RelDs.mon (m : Mon ρ Z H ρ' Z' H') : ∀ {ds : List D} {vs : List V}, RelDs g ρ Z H ds vs → RelDs g ρ' Z' H' ds vs
  | [], _, h => h
  | _ :: _, _, h => by
    simp only [RelDs] at h ⊢
    obtain ⟨v, vr, e, h1, h2⟩ := h
    exact ⟨v, vr, e, RelD.mon m h1, RelDs.mon m h2⟩
end
theorem RelDs.length : ∀ {ds : List D} {vs : List V}, RelDs g ρ Z H ds vs → vs.length = ds.length
  | [], _, h => by simp only [RelDs] at h; subst h; rfl
  | _ :: _, _, h => by
    simp only [RelDs] at h
    obtain ⟨v, vr, e, h1, h2⟩ := h
    subst e
    simp [RelDs.length h2]
theorem RelDs.get : ∀ {ds : List D} {vs : List V} {i : Nat} {d : D}, RelDs g ρ Z H ds vs → ds[i]? = some d → ∃ v, vs[i]? = some v ∧ RelD g ρ Z H d v
  | [], _, _, _, _, e => by simp at e
  | _ :: _, _, i, d, h, e => by
    simp only [RelDs] at h
    obtain ⟨v, vr, e1, h1, h2⟩ := h
    subst e1
    cases i with
    | zero => simp at e; subst e; exact ⟨v, rfl, h1⟩
    | succ i => simpa using RelDs.get (i := i) h2 (by simpa using e)
theorem RelDs.append : ∀ {ds es : List D} {vs us : List V}, RelDs g ρ Z H ds vs → RelDs g ρ Z H es us → RelDs g ρ Z H (ds ++ es) (vs ++ us)
  | [], _, _, _, h, k => by simp only [RelDs] at h; subst h; exact k
  | _ :: _, _, _, _, h, k => by
    simp only [RelDs] at h
    obtain ⟨v, vr, e, h1, h2⟩ := h
    subst e
    simp only [List.cons_append, RelDs]
    exact ⟨v, _, rfl, h1, RelDs.append h2 k⟩
theorem RelDs.cons {d : D} {ds : List D} {v : V} {vs : List V} (h : RelD g ρ Z H d v) (k : RelDs g ρ Z H ds vs) : RelDs g ρ Z H (d :: ds) (v :: vs) := by
  simp only [RelDs]
  exact ⟨v, vs, rfl, h, k⟩
theorem RelD.ref_iff {n : Nat} {v : V} : RelD g ρ Z H (.ref n) v ↔ ∃ a, v = .ref a ∧ ρ[n]? = some a := by simp only [RelD]
theorem RelD.tup_iff {xs : List D} {v : V} : RelD g ρ Z H (.tup xs) v ↔ ∃ a vs, v = .ref a ∧ SqT g.K H a vs ∧ RelDs g ρ Z H xs vs := by simp only [RelD]
theorem RelD.lst_iff {xs : List D} {v : V} : RelD g ρ Z H (.lst xs) v ↔ ∃ a vs, v = .ref a ∧ ZL Z H a vs ∧ RelDs g ρ Z H xs vs := by simp only [RelD]
theorem RelD.klst_iff {xs : List D} {v : V} : RelD g ρ Z H (.klst xs) v ↔ ∃ a vs, v = .ref a ∧ FrzL g Z H a vs ∧ RelDs g ρ Z H xs vs := by simp only [RelD]
theorem RelD.int_iff {i : Int} {v : V} : RelD g ρ Z H (.int i) v ↔ v = .int i := by simp only [RelD]
theorem RelD.str_iff {x : Tx} {v : V} : RelD g ρ Z H (.str x) v ↔ v = .str (toS x) := by simp only [RelD]
theorem RelD.bl_iff {b : Bool} {v : V} : RelD g ρ Z H (.bl b) v ↔ v = .bl b := by simp only [RelD]
theorem RelD.non_iff {v : V} : RelD g ρ Z H .non v ↔ v = .non := by simp only [RelD]
theorem RelD.fn_iff {f : Nat} {v : V} : RelD g ρ Z H (.fn f) v ↔ v = .ref (g.fadr f) := by simp only [RelD]
theorem RelDs.nil : RelDs g ρ Z H [] [] := by simp only [RelDs]
theorem RelDs.one {d : D} {v : V} (h : RelD g ρ Z H d v) : RelDs g ρ Z H [d] [v] := .cons h .nil
end

/-- a value at hand -/
def WRel (g : Gv) (c : Cf) (H : Hp) : W → V → Prop
  | .d x, v => RelD g c.ρ c.Z H x v
  | .loc i, v => ∃ a, c.l[i]? = some a ∧ v = .ref a
def WRels (g : Gv) (c : Cf) (H : Hp) : List W → List V → Prop
  | [], vs => vs = []
  | w :: r, vs => ∃ v vr, vs = v :: vr ∧ WRel g c H w v ∧ WRels g c H r vr
def LCRel (g : Gv) (c : Cf) (H : Hp) : LC → Addr → Prop
  | .lst z ws, a => ∃ vs, H a = some (.lst vs) ∧ WRels g c H ws vs ∧ (z = true → c.Z a) ∧ (z = false → ¬ c.Z a)
  | .dic _ _, _ => False
def FRel (g : Gv) (c : Cf) (H : Hp) : List (Nat × D) → List (Str × V) → Prop
  | [], fvs => fvs = []
  | (x, d) :: r, fvs => ∃ v fr, fvs = (g.fname x, v) :: fr ∧ RelD g c.ρ c.Z H d v ∧ FRel g c H r fr
def SCRel (g : Gv) (c : Cf) (H : Hp) : SC → Addr → Prop
  | .lst xs, a => ∃ vs, H a = some (.lst vs) ∧ RelDs g c.ρ c.Z H xs vs
  | .ins C fs, a => ∃ dx fvs, H a = some (.ins (g.cadr C) dx fvs) ∧ FRel g c H fs fvs
structure Good (g : Gv) (c : Cf) (t : Stt) (H : Hp) : Prop where
  lρ : c.ρ.length = t.S.length
  ll : c.l.length = t.L.length
  nd : (c.ρ ++ c.l).Nodup
  sc : ∀ (i : Nat) s a, t.S[i]? = some s → c.ρ[i]? = some a → SCRel g c H s a
  lc : ∀ (i : Nat) s a, t.L[i]? = some s → c.l[i]? = some a → LCRel g c H s a
  zρ : ∀ a, a ∈ c.ρ → ¬ c.Z a
  zh : ∀ a, c.Z a → ∃ o, H a = some o
structure Step (c : Cf) (H : Hp) (c' : Cf) (H' : Hp) : Prop where
  ρ : ∀ (n : Nat) (a : Addr), c.ρ[n]? = some a → c'.ρ[n]? = some a
  l : ∀ (n : Nat) (a : Addr), c.l[n]? = some a → c'.l[n]? = some a
  z : ∀ a, c.Z a → c'.Z a
  zk : ∀ a, c.Z a → H' a = H a
  fr : ∀ a o, H a = some o → a ∉ c.ρ → a ∉ c.l → H' a = some o
  nn : ∀ a, H' a = none → H a = none
  nρ : ∀ a, a ∈ c'.ρ → a ∈ c.ρ ∨ H a = none
  nl : ∀ a, a ∈ c'.l → a ∈ c.l ∨ H a = none
  nz : ∀ a, c'.Z a → c.Z a ∨ a ∈ c.l ∨ H a = none
section
variable {g : Gv} {c c1 c2 c' : Cf} {t t1 t' : Stt} {H H1 H2 H' : Hp}
theorem Step.refl (c : Cf) (H : Hp) : Step c H c H := ⟨fun _ _ h => h, fun _ _ h => h, fun _ h => h, fun _ _ => rfl, fun _ _ h _ _ => h, fun _ h => h, fun _ h => .inl h, fun _ h => .inl h, fun _ h => .inl h⟩
theorem Step.trans (a : Step c H c1 H1) (b : Step c1 H1 c2 H2) : Step c H c2 H2 where
  ρ := fun n x h => b.ρ n x (a.ρ n x h)
  l := fun n x h => b.l n x (a.l n x h)
  z := fun x h => b.z x (a.z x h)
  zk := fun x h => (b.zk x (a.z x h)).trans (a.zk x h)
  fr := fun x o h n1 n2 => b.fr x o (a.fr x o h n1 n2) (fun q => (a.nρ x q).elim n1 fun e => by rw [h] at e; cases e) fun q => (a.nl x q).elim n2 fun e => by rw [h] at e; cases e
  nn := fun x h => a.nn x (b.nn x h)
  nρ := fun x h => (b.nρ x h).elim (fun q => a.nρ x q) fun e => .inr (a.nn x e)
  nl := fun x h => (b.nl x h).elim (fun q => a.nl x q) fun e => .inr (a.nn x e)
  nz := fun x h => by
    rcases b.nz x h with q | q | q
    · exact a.nz x q
    · exact .inr (a.nl x q)
    · exact .inr (.inr (a.nn x q))
theorem Good.ρ_obj (G : Good g c t H) {a : Addr} (h : a ∈ c.ρ) : (∃ vs, H a = some (.lst vs)) ∨ ∃ C dx fs, H a = some (.ins C dx fs) := by
  obtain ⟨i, hi, e⟩ := List.getElem_of_mem h
  have hi' : i < t.S.length := by rw [← G.lρ]; exact hi
  have q := G.sc i t.S[i] a (List.getElem?_eq_getElem hi') (by rw [List.getElem?_eq_getElem hi, e])
  cases h : t.S[i] with
  | lst xs => rw [h] at q; obtain ⟨vs, q, _⟩ := q; exact .inl ⟨vs, q⟩
  | ins C fs => rw [h] at q; obtain ⟨dx, fvs, q, _⟩ := q; exact .inr ⟨_, _, _, q⟩
theorem Good.l_obj (G : Good g c t H) {a : Addr} (h : a ∈ c.l) : ∃ vs, H a = some (.lst vs) := by
  obtain ⟨i, hi, e⟩ := List.getElem_of_mem h
  have hi' : i < t.L.length := by rw [← G.ll]; exact hi
  have q := G.lc i t.L[i] a (List.getElem?_eq_getElem hi') (by rw [List.getElem?_eq_getElem hi, e])
  cases h : t.L[i] with
  | lst z xs => rw [h] at q; obtain ⟨vs, q, _⟩ := q; exact ⟨vs, q⟩
  | dic z kvs => rw [h] at q; exact q.elim
theorem Good.ρ_some (G : Good g c t H) {a : Addr} (h : a ∈ c.ρ) : ∃ o, H a = some o := by
  rcases G.ρ_obj h with ⟨_, e⟩ | ⟨_, _, _, e⟩ <;> exact ⟨_, e⟩
theorem Good.no_tup (G : Good g c t H) {a : Addr} {vs : List V} (h : Rd H a (.tup vs)) : a ∉ c.ρ ∧ a ∉ c.l := by
  have e : (H a = some (.tup vs)) ∨ ∃ o, H a = some (.frz o (.tup vs)) := h
  refine ⟨fun q => ?_, fun q => ?_⟩
  · rcases G.ρ_obj q with ⟨_, e'⟩ | ⟨_, _, _, e'⟩ <;> (rcases e with e | ⟨_, e⟩ <;> (rw [e'] at e; cases e))
  · obtain ⟨_, e'⟩ := G.l_obj q
    rcases e with e | ⟨_, e⟩ <;> (rw [e'] at e; cases e)
theorem Step.mon (st : Step c H c' H') (G : Good g c t H) : Mon c.ρ c.Z H c'.ρ c'.Z H' := ⟨st.ρ, st.z, st.zk, fun a vs h => by
  obtain ⟨n1, n2⟩ := G.no_tup h
  rcases h with h | ⟨o, h⟩
  · exact .inl (st.fr a _ h n1 n2)
  · exact .inr ⟨o, st.fr a _ h n1 n2⟩⟩
theorem WRel.step (st : Step c H c' H') (G : Good g c t H) {w : W} {v : V} (h : WRel g c H w v) : WRel g c' H' w v := by
  cases w with
  | d x => exact RelD.mon (st.mon G) h
  | loc i => obtain ⟨a, e, h⟩ := h; exact ⟨a, st.l i a e, h⟩
theorem WRels.step (st : Step c H c' H') (G : Good g c t H) : ∀ {ws : List W} {vs : List V}, WRels g c H ws vs → WRels g c' H' ws vs
  | [], _, h => h
  | _ :: _, _, ⟨v, vr, e, h1, h2⟩ => ⟨v, vr, e, WRel.step st G h1, WRels.step st G h2⟩
theorem WRels.length : ∀ {ws : List W} {vs : List V}, WRels g c H ws vs → vs.length = ws.length
  | [], _, h => by have h' : _ = [] := h; subst h'; rfl
  | _ :: _, _, ⟨v, vr, e, h1, h2⟩ => by subst e; simp [WRels.length h2]
theorem WRels.get : ∀ {ws : List W} {vs : List V} {i : Nat} {w : W}, WRels g c H ws vs → ws[i]? = some w → ∃ v, vs[i]? = some v ∧ WRel g c H w v
  | [], _, _, _, _, e => by simp at e
  | _ :: _, _, i, d, ⟨v, vr, e1, h1, h2⟩, e => by
    subst e1
    cases i with
    | zero => simp at e; subst e; exact ⟨v, rfl, h1⟩
    | succ i => simpa using WRels.get (i := i) h2 (by simpa using e)
theorem WRels.get' : ∀ {ws : List W} {vs : List V} {i : Nat} {v : V}, WRels g c H ws vs → vs[i]? = some v → ∃ w, ws[i]? = some w ∧ WRel g c H w v
  | [], _, _, _, h, e => by have h' : _ = [] := h; subst h'; simp at e
  | w :: _, _, i, d, ⟨v, vr, e1, h1, h2⟩, e => by
    subst e1
    cases i with
    | zero => simp at e; subst e; exact ⟨w, rfl, h1⟩
    | succ i => simpa using WRels.get' (i := i) h2 (by simpa using e)
theorem WRels.append : ∀ {ws us : List W} {vs xs : List V}, WRels g c H ws vs → WRels g c H us xs → WRels g c H (ws ++ us) (vs ++ xs)
  | [], _, _, _, h, k => by have h' : _ = [] := h; subst h'; exact k
  | _ :: _, _, _, _, ⟨v, vr, e, h1, h2⟩, k => by subst e; exact ⟨v, _, rfl, h1, WRels.append h2 k⟩
theorem WRels.ofD : ∀ {ds : List D} {vs : List V}, RelDs g c.ρ c.Z H ds vs → WRels g c H (ds.map .d) vs
  | [], _, h => by simp only [RelDs] at h; exact h
  | _ :: _, _, h => by
    simp only [RelDs] at h
    obtain ⟨v, vr, e, h1, h2⟩ := h
    exact ⟨v, vr, e, h1, WRels.ofD h2⟩
theorem WRels.toDs : ∀ {ws : List W} {ds : List D} {vs : List V}, dsOf? ws = some ds → WRels g c H ws vs → RelDs g c.ρ c.Z H ds vs
  | [], _, _, e, h => by cases e; simp only [RelDs]; exact h
  | w :: r, ds, vs, e, ⟨v, vr, e1, h1, h2⟩ => by
    simp only [dsOf?] at e
    split at e
    · rename_i x xs ex exs
      cases e
      cases w with
      | d y => cases ex; simp only [RelDs]; exact ⟨v, vr, e1, h1, WRels.toDs exs h2⟩
      | loc i => cases ex
    · cases e
theorem FRel.mon (m : Mon c.ρ c.Z H c'.ρ c'.Z H') : ∀ {fs : List (Nat × D)} {fvs : List (Str × V)}, FRel g c H fs fvs → FRel g c' H' fs fvs
  | [], _, h => h
  | (_, _) :: _, _, ⟨v, fr, e, h1, h2⟩ => ⟨v, fr, e, RelD.mon m h1, FRel.mon m h2⟩
theorem FRel.length : ∀ {fs : List (Nat × D)} {fvs : List (Str × V)}, FRel g c H fs fvs → fvs.length = fs.length
  | [], _, h => by have h' : _ = [] := h; subst h'; rfl
  | (_, _) :: _, _, ⟨v, fr, e, h1, h2⟩ => by subst e; simp [FRel.length h2]
theorem FRel.look {x : Nat} {d : D} : ∀ {fs : List (Nat × D)} {fvs : List (Str × V)}, FRel g c H fs fvs → fs.lookup x = some d → ∃ v, fvs.lookup (g.fname x) = some v ∧ RelD g c.ρ c.Z H d v
  | [], _, _, e => by simp at e
  | (y, d') :: r, _, ⟨v, fr, e1, h1, h2⟩, e => by
    subst e1
    rw [List.lookup_cons] at e ⊢
    by_cases q : x = y
    · subst q
      simp at e
      subst e
      exact ⟨v, by simp, h1⟩
    · have n1 : (x == y) = false := by simp [q]
      have n2 : (g.fname x == g.fname y) = false := by simp; exact fun z => q (g.finj _ _ z)
      rw [n1] at e
      rw [n2]
      exact FRel.look h2 e
theorem FRel.put {x : Nat} {d : D} {v : V} (hv : RelD g c.ρ c.Z H d v) : ∀ {fs : List (Nat × D)} {fvs : List (Str × V)}, FRel g c H fs fvs → FRel g c H (putFl x d fs) (putF (g.fname x) v fvs)
  | [], _, h => by
    have h' : _ = [] := h
    subst h'
    exact ⟨v, [], rfl, hv, rfl⟩
  | (y, d') :: r, _, ⟨u, fr, e1, h1, h2⟩ => by
    subst e1
    show FRel g c H (if y = x then (x, d) :: r else (y, d') :: putFl x d r) (if g.fname y = g.fname x then (g.fname y, v) :: fr else (g.fname y, u) :: putF (g.fname x) v fr)
    by_cases q : y = x
    · subst q
      rw [if_pos rfl, if_pos rfl]
      exact ⟨v, fr, rfl, hv, h2⟩
    · rw [if_neg q, if_neg fun z => q (g.finj _ _ z)]
      exact ⟨u, _, rfl, h1, FRel.put hv h2⟩
end
end MP
end

/-! text MPC -/
section
set_option Elab.async false
set_option linter.all false
set_option maxRecDepth 100000
set_option maxHeartbeats 4000000
/-! MP, part C: what is wanted behind; values' operators. -/
namespace MP
open PySem L2

/-- what is known of an exception -/
structure Xv where
  xadr : Nat → Addr
/-- how an exception of ours lies: its class, its own dict with the one field, or none -/
def XRel (g : Gv) (xa : Nat → Addr) (fx : Str) (c : Cf) (H : Hp) (x : XD) (cls : Value) (dx : Option Addr) : Prop :=
  cls = .ref (xa x.cls) ∧ match x.arg with
    | none => dx = none
    | some d => ∃ a v, dx = some a ∧ H a = some (.xd [(fx, v)]) ∧ RelD g c.ρ c.Z H d v ∧ a ∉ c.ρ ∧ a ∉ c.l ∧ ¬ c.Z a
/-- all that is fixed -/
structure Gx extends Gv where
  xa : Nat → Addr
  fx : Str
def Post {α β : Type} (g : Gx) (c : Cf) (H : Hp) (rel : Cf → Hp → α → β → Prop) (r : R α) (Q : β → Hp → Prop) (E : XK) : Prop := match r with
  | .ok w t' => ∀ c' H' v, Step c H c' H' → Good g.toGv c' t' H' → rel c' H' w v → Q v H'
  | .exc x t' => ∀ c' H' cls dx, Step c H c' H' → Good g.toGv c' t' H' → XRel g.toGv g.xa g.fx c' H' x cls dx → E cls dx H'
  | .stk => False
abbrev wR (g : Gx) : Cf → Hp → W → V → Prop := WRel g.toGv
abbrev wsR (g : Gx) : Cf → Hp → List W → List V → Prop := WRels g.toGv
abbrev bR : Cf → Hp → Bool → Bool → Prop := fun _ _ a b => a = b
section
variable {g : Gx} {c c1 c2 c' : Cf} {t t1 t' : Stt} {H H1 H2 H' : Hp} {α β γ δ : Type} {rel : Cf → Hp → α → β → Prop} {rel2 : Cf → Hp → γ → δ → Prop} {E : XK}
theorem Post.step {r : R α} {Q : β → Hp → Prop} (st : Step c H c1 H1) (h : Post g c H rel r Q E) : Post g c1 H1 rel r Q E := by
  cases r with
  | ok w t' => exact fun c' H' v s => h c' H' v (st.trans s)
  | exc x t' => exact fun c' H' cls dx s => h c' H' cls dx (st.trans s)
  | stk => exact h
theorem Post.imp {r : R α} {Q Q' : β → Hp → Prop} (h : Post g c H rel r Q E) (k : ∀ v H', Q v H' → Q' v H') : Post g c H rel r Q' E := by
  cases r with
  | ok w t' => exact fun c' H' v s G rl => k _ _ (h c' H' v s G rl)
  | exc x t' => exact h
  | stk => exact h
theorem Post.bind {r : R α} {f : α → Stt → R γ} {Q : δ → Hp → Prop} {Q1 : β → Hp → Prop} (h : Post g c H rel2 (r.bind f) Q E)
    (k : ∀ w t' c' H' v, r = .ok w t' → Step c H c' H' → Good g.toGv c' t' H' → rel c' H' w v → Post g c' H' rel2 (f w t') Q E → Q1 v H') : Post g c H rel r Q1 E := by
  cases r with
  | ok w t' => exact fun c' H' v s G rl => k w t' c' H' v rfl s G rl (Post.step s h)
  | exc x t' => exact h
  | stk => exact h
/-- the value is there -/
theorem Post.ok {w : α} {v : β} {Q : β → Hp → Prop} (h : Post g c H rel (.ok w t) Q E) (G : Good g.toGv c t H) (rl : rel c H w v) : Q v H := h c H v (Step.refl c H) G rl
theorem Post.okS {w : α} {v : β} {Q : β → Hp → Prop} (h : Post g c H rel (.ok w t') Q E) (st : Step c H c' H') (G : Good g.toGv c' t' H') (rl : rel c' H' w v) : Q v H' := h c' H' v st G rl
end

/-! ### slots -/
def SRel (g : Gx) (c : Cf) (H : Hp) (σ : Sg) (σV : St) : Prop := σ.length = σV.length ∧ ∀ (i : Nat) w, σ[i]? = some (some w) → ∃ v, σV[i]? = some (some v) ∧ WRel g.toGv c H w v
section
variable {g : Gx} {c c' : Cf} {t t' : Stt} {H H' : Hp} {σ : Sg} {σV : St}
theorem SRel.step (st : Step c H c' H') (G : Good g.toGv c t H) (h : SRel g c H σ σV) : SRel g c' H' σ σV := ⟨h.1, fun i w e => by
  obtain ⟨v, e1, r⟩ := h.2 i w e
  exact ⟨v, e1, r.step st G⟩⟩
theorem SRel.set {i : Nat} {w : W} {v : V} (h : SRel g c H σ σV) (r : WRel g.toGv c H w v) : SRel g c H (σ.set i (some w)) (σV.set i (some v)) := by
  refine ⟨by simp [h.1], fun j w' e => ?_⟩
  by_cases q : i = j
  · subst q
    rw [List.getElem?_set] at e ⊢
    rw [if_pos rfl] at e ⊢
    split at e
    · rename_i hi
      cases e
      rw [if_pos (by rw [← h.1]; exact hi)]
      exact ⟨v, rfl, r⟩
    · cases e
  · rw [List.getElem?_set_ne q] at e ⊢
    exact h.2 j w' e
theorem SRel.unset {i : Nat} (h : SRel g c H σ σV) : SRel g c H (σ.set i none) (σV.set i none) := by
  refine ⟨by simp [h.1], fun j w' e => ?_⟩
  by_cases q : i = j
  · subst q
    rw [List.getElem?_set, if_pos rfl] at e
    split at e <;> cases e
  · rw [List.getElem?_set_ne q] at e ⊢
    exact h.2 j w' e
theorem SRel.wipe (h : SRel g c H σ σV) : ∀ vs : List Nat, SRel g c H (wipeS σ vs) (L2.wipe σV vs)
  | [] => h
  | v :: vs => SRel.unset (SRel.wipe h vs)
end

/-! ### cells: made, locked, written -/
section
variable {g : Gx} {c c' : Cf} {t t' : Stt} {H H' : Hp}
theorem nodup_snoc_l {ρ l : List Addr} {p : Addr} (h : (ρ ++ l).Nodup) (n1 : p ∉ ρ) (n2 : p ∉ l) : (ρ ++ (l ++ [p])).Nodup := by
  rw [← List.append_assoc, List.nodup_append]
  refine ⟨h, by simp, fun a ha b hb => ?_⟩
  simp at hb
  subst hb
  rintro rfl
  rcases List.mem_append.mp ha with q | q
  · exact n1 q
  · exact n2 q
theorem nodup_snoc_ρ {ρ l : List Addr} {p : Addr} (h : (ρ ++ l).Nodup) (n1 : p ∉ ρ) (n2 : p ∉ l) : ((ρ ++ [p]) ++ l).Nodup := by
  have q := nodup_snoc_l h n1 n2
  refine (List.Perm.nodup_iff ?_).mp q
  rw [List.append_assoc]
  exact List.Perm.append_left _ List.perm_append_comm
theorem get_snoc {α : Type} {l : List α} {x y : α} {i : Nat} (h : (l ++ [x])[i]? = some y) : l[i]? = some y ∨ (i = l.length ∧ y = x) := by
  rw [List.getElem?_append] at h
  split at h
  · exact .inl h
  · rename_i q
    rw [List.getElem?_singleton] at h
    split at h
    · cases h; exact .inr ⟨by omega, rfl⟩
    · cases h
theorem LCRel.mon {c c' : Cf} {H H' : Hp} (m : Mon c.ρ c.Z H c'.ρ c'.Z H') (hl : ∀ (n : Nat) (a : Addr), c.l[n]? = some a → c'.l[n]? = some a) {s : LC} {a : Addr} (h : LCRel g.toGv c H s a) (e : ∀ vs, H a = some (.lst vs) → H' a = some (.lst vs)) (z : c'.Z a → c.Z a) : LCRel g.toGv c' H' s a := by
  have wm : ∀ {ws : List W} {vs : List V}, WRels g.toGv c H ws vs → WRels g.toGv c' H' ws vs := by
    intro ws
    induction ws with
    | nil => intro vs h; exact h
    | cons w r ih =>
      rintro vs ⟨v, vr, e, h1, h2⟩
      refine ⟨v, vr, e, ?_, ih h2⟩
      cases w with
      | d x => exact RelD.mon m h1
      | loc i => obtain ⟨a, q, h⟩ := h1; exact ⟨a, hl i a q, h⟩
  cases s with
  | lst k ws =>
    obtain ⟨vs, h1, h2, h3, h4⟩ := h
    exact ⟨vs, e vs h1, wm h2, fun q => m.z a (h3 q), fun q r => h4 q (z r)⟩
  | dic k kvs => exact h
theorem SCRel.mon {c c' : Cf} {H H' : Hp} (m : Mon c.ρ c.Z H c'.ρ c'.Z H') {s : SC} {a : Addr} (h : SCRel g.toGv c H s a) (e : H' a = H a) : SCRel g.toGv c' H' s a := by
  cases s with
  | lst xs =>
    obtain ⟨vs, h1, h2⟩ := h
    exact ⟨vs, e.trans h1, RelDs.mon m h2⟩
  | ins C fs =>
    obtain ⟨dx, fvs, h1, h2⟩ := h
    exact ⟨dx, fvs, e.trans h1, FRel.mon m h2⟩
/-- what a new address is not -/
theorem Good.fresh (G : Good g.toGv c t H) {p : Addr} (h : H p = none) : p ∉ c.ρ ∧ p ∉ c.l ∧ ¬ c.Z p := by
  refine ⟨fun q => ?_, fun q => ?_, fun q => ?_⟩
  · obtain ⟨o, e⟩ := G.ρ_some q; rw [h] at e; cases e
  · obtain ⟨o, e⟩ := G.l_obj q; rw [h] at e; cases e
  · obtain ⟨o, e⟩ := G.zh p q; rw [h] at e; cases e
/-- a new object that nothing will write -/
theorem Good.newZ (G : Good g.toGv c t H) {p : Addr} {o : HO} (h : H p = none) :
    Step c H ⟨c.ρ, c.l, fun a => c.Z a ∨ a = p⟩ (upd H p o) ∧ Good g.toGv ⟨c.ρ, c.l, fun a => c.Z a ∨ a = p⟩ t (upd H p o) := by
  obtain ⟨n1, n2, n3⟩ := G.fresh h
  have ne : ∀ {a : Addr} {u : HO}, H a = some u → a ≠ p := fun e q => by subst q; rw [h] at e; cases e
  have st : Step c H ⟨c.ρ, c.l, fun a => c.Z a ∨ a = p⟩ (upd H p o) := by
    refine ⟨fun _ _ q => q, fun _ _ q => q, fun _ q => .inl q, fun a q => ?_, fun a u e _ _ => ?_, fun a q => ?_, fun _ q => .inl q, fun _ q => .inl q, fun a q => ?_⟩
    · exact upd_ne fun e => n3 (e ▸ q)
    · rw [upd_ne (ne e)]; exact e
    · by_cases e : a = p
      · subst e; exact h
      · rw [upd_ne e] at q; exact q
    · rcases q with q | q
      · exact .inl q
      · subst q; exact .inr (.inr h)
  refine ⟨st, G.lρ, G.ll, G.nd, fun i s a e1 e2 => (G.sc i s a e1 e2).mon (st.mon G) (upd_ne fun q => n1 (q ▸ List.mem_of_getElem? e2)), fun i s a e1 e2 => (G.lc i s a e1 e2).mon (st.mon G) st.l (fun vs e => ?_) (fun q => ?_), fun a ha q => ?_, fun a q => ?_⟩
  · rw [upd_ne (ne e)]; exact e
  · rcases q with q | q
    · exact q
    · exact absurd (q ▸ List.mem_of_getElem? e2) n2
  · rcases q with q | q
    · exact G.zρ a ha q
    · exact n1 (q ▸ ha)
  · by_cases e : a = p
    · subst e; exact ⟨o, upd_same⟩
    · rw [upd_ne e]
      rcases q with q | q
      · exact G.zh a q
      · exact absurd q e
/-- a new list of the frame's own -/
theorem Good.newL (G : Good g.toGv c t H) {p : Addr} {ws : List W} {vs : List V} (h : H p = none) (r : WRels g.toGv c H ws vs) :
    Step c H ⟨c.ρ, c.l ++ [p], c.Z⟩ (upd H p (.lst vs)) ∧ Good g.toGv ⟨c.ρ, c.l ++ [p], c.Z⟩ ⟨t.L ++ [.lst false ws], t.S⟩ (upd H p (.lst vs)) := by
  obtain ⟨n1, n2, n3⟩ := G.fresh h
  have ne : ∀ {a : Addr} {u : HO}, H a = some u → a ≠ p := fun e q => by subst q; rw [h] at e; cases e
  have st : Step c H ⟨c.ρ, c.l ++ [p], c.Z⟩ (upd H p (.lst vs)) := by
    refine ⟨fun _ _ q => q, fun n a q => ?_, fun _ q => q, fun a q => ?_, fun a u e _ _ => ?_, fun a q => ?_, fun _ q => .inl q, fun a q => ?_, fun a q => .inl q⟩
    · rw [List.getElem?_append_left (List.getElem?_eq_some_iff.mp q).1]; exact q
    · exact upd_ne fun e => n3 (e ▸ q)
    · rw [upd_ne (ne e)]; exact e
    · by_cases e : a = p
      · subst e; exact h
      · rw [upd_ne e] at q; exact q
    · rcases List.mem_append.mp q with q | q
      · exact .inl q
      · simp at q; subst q; exact .inr h
  refine ⟨st, G.lρ, by simp [G.ll], nodup_snoc_l G.nd n1 n2, fun i s a e1 e2 => (G.sc i s a e1 e2).mon (st.mon G) (upd_ne fun q => n1 (q ▸ List.mem_of_getElem? e2)), fun i s a e1 e2 => ?_, G.zρ, fun a q => ?_⟩
  · rcases get_snoc e1 with e1 | ⟨ei, es⟩
    · have hi : i < c.l.length := by rw [G.ll]; exact (List.getElem?_eq_some_iff.mp e1).1
      rw [List.getElem?_append_left hi] at e2
      exact (G.lc i s a e1 e2).mon (st.mon G) st.l (fun vs e => by rw [upd_ne (ne e)]; exact e) fun q => q
    · subst es
      have e2 : (c.l ++ [p])[i]? = some a := e2
      rw [ei, ← G.ll, List.getElem?_append_right (Nat.le_refl _)] at e2
      simp at e2
      subst e2
      exact ⟨vs, upd_same, r.step st G, (fun q => by cases q), fun _ => n3⟩
  · by_cases e : a = p
    · subst e; exact ⟨_, upd_same⟩
    · rw [upd_ne e]; exact G.zh a q
/-- a new shared cell -/
theorem Good.newS (G : Good g.toGv c t H) {p : Addr} {s : SC} {o : HO} (h : H p = none) (hk : (∃ vs, o = .lst vs) ∨ ∃ C dx fs, o = .ins C dx fs)
    (r : ∀ c' H', Step c H c' H' → H' p = some o → SCRel g.toGv c' H' s p) :
    Step c H ⟨c.ρ ++ [p], c.l, c.Z⟩ (upd H p o) ∧ Good g.toGv ⟨c.ρ ++ [p], c.l, c.Z⟩ ⟨t.L, t.S ++ [s]⟩ (upd H p o) := by
  obtain ⟨n1, n2, n3⟩ := G.fresh h
  have ne : ∀ {a : Addr} {u : HO}, H a = some u → a ≠ p := fun e q => by subst q; rw [h] at e; cases e
  have st : Step c H ⟨c.ρ ++ [p], c.l, c.Z⟩ (upd H p o) := by
    refine ⟨fun n a q => ?_, fun n a q => q, fun _ q => q, fun a q => ?_, fun a u e _ _ => ?_, fun a q => ?_, fun a q => ?_, fun a q => .inl q, fun a q => .inl q⟩
    · rw [List.getElem?_append_left (List.getElem?_eq_some_iff.mp q).1]; exact q
    · exact upd_ne fun e => n3 (e ▸ q)
    · rw [upd_ne (ne e)]; exact e
    · by_cases e : a = p
      · subst e; exact h
      · rw [upd_ne e] at q; exact q
    · rcases List.mem_append.mp q with q | q
      · exact .inl q
      · simp at q; subst q; exact .inr h
  refine ⟨st, by simp [G.lρ], G.ll, nodup_snoc_ρ G.nd n1 n2, fun i s' a e1 e2 => ?_, fun i s' a e1 e2 => (G.lc i s' a e1 e2).mon (st.mon G) st.l (fun vs e => by rw [upd_ne (ne e)]; exact e) fun q => q, fun a ha q => ?_, fun a q => ?_⟩
  · rcases get_snoc e1 with e1 | ⟨ei, es⟩
    · have hi : i < c.ρ.length := by rw [G.lρ]; exact (List.getElem?_eq_some_iff.mp e1).1
      rw [List.getElem?_append_left hi] at e2
      exact (G.sc i s' a e1 e2).mon (st.mon G) (upd_ne fun q => n1 (q ▸ List.mem_of_getElem? e2))
    · subst es
      have e2 : (c.ρ ++ [p])[i]? = some a := e2
      rw [ei, ← G.lρ, List.getElem?_append_right (Nat.le_refl _)] at e2
      simp at e2
      subst e2
      exact r _ _ st upd_same
  · rcases List.mem_append.mp ha with ha | ha
    · exact G.zρ a ha q
    · simp at ha; subst ha; exact n3 q
  · by_cases e : a = p
    · subst e; exact ⟨_, upd_same⟩
    · rw [upd_ne e]; exact G.zh a q
theorem nodup_get {l : List Addr} (h : l.Nodup) {i j : Nat} {a : Addr} (e1 : l[i]? = some a) (e2 : l[j]? = some a) : i = j := by
  obtain ⟨h1, q1⟩ := List.getElem?_eq_some_iff.mp e1
  obtain ⟨h2, q2⟩ := List.getElem?_eq_some_iff.mp e2
  exact (List.getElem_inj h).mp (q1.trans q2.symm)
theorem Good.ρl (G : Good g.toGv c t H) {a : Addr} (h1 : a ∈ c.ρ) (h2 : a ∈ c.l) : False := (List.nodup_append.mp G.nd).2.2 a h1 a h2 rfl
/-- a list of the frame's own is locked -/
theorem Good.lock (G : Good g.toGv c t H) {i : Nat} {z : Bool} {ws : List W} (e : t.L[i]? = some (.lst z ws)) :
    ∃ a vs, c.l[i]? = some a ∧ H a = some (.lst vs) ∧ WRels g.toGv c H ws vs ∧ Step c H ⟨c.ρ, c.l, fun b => c.Z b ∨ b = a⟩ H ∧ Good g.toGv ⟨c.ρ, c.l, fun b => c.Z b ∨ b = a⟩ ⟨t.L.set i (.lst true ws), t.S⟩ H := by
  have hi : i < c.l.length := by rw [G.ll]; exact (List.getElem?_eq_some_iff.mp e).1
  have ea : c.l[i]? = some c.l[i] := List.getElem?_eq_getElem hi
  obtain ⟨vs, h1, h2, h3, h4⟩ := G.lc i _ _ e ea
  have mem : c.l[i] ∈ c.l := List.getElem_mem hi
  have st : Step c H ⟨c.ρ, c.l, fun b => c.Z b ∨ b = c.l[i]⟩ H := by
    refine ⟨fun _ _ q => q, fun _ _ q => q, fun _ q => .inl q, fun _ _ => rfl, fun _ _ q _ _ => q, fun _ q => q, fun _ q => .inl q, fun _ q => .inl q, fun a q => ?_⟩
    rcases q with q | q
    · exact .inl q
    · subst q; exact .inr (.inl mem)
  refine ⟨c.l[i], vs, ea, h1, h2, st, G.lρ, by simp [G.ll], G.nd, fun j s a e1 e2 => (G.sc j s a e1 e2).mon (st.mon G) rfl, fun j s a e1 e2 => ?_, fun a ha q => ?_, fun a q => ?_⟩
  · by_cases q : i = j
    · subst q
      rw [List.getElem?_set, if_pos rfl, if_pos (by rw [← G.ll]; exact hi)] at e1
      cases e1
      have e2' : c.l[i]? = some a := e2
      rw [ea] at e2'
      cases e2'
      exact ⟨vs, h1, h2.step st G, fun _ => .inr rfl, fun q => by cases q⟩
    · rw [List.getElem?_set_ne q] at e1
      refine (G.lc j s a e1 e2).mon (st.mon G) st.l (fun _ q => q) fun z => ?_
      rcases z with z | z
      · exact z
      · subst z
        exact absurd (nodup_get (List.nodup_append.mp G.nd).2.1 ea e2) q
  · rcases q with q | q
    · exact G.zρ a ha q
    · subst q; exact G.ρl ha mem
  · rcases q with q | q
    · exact G.zh a q
    · subst q; exact ⟨_, h1⟩
/-- a list of the frame's own is written -/
theorem Good.writeL (G : Good g.toGv c t H) {i : Nat} {ws us : List W} {xs : List V} {a : Addr} (e : t.L[i]? = some (.lst false ws)) (ea : c.l[i]? = some a) (r : WRels g.toGv c H us xs) :
    Step c H c (upd H a (.lst xs)) ∧ Good g.toGv c ⟨t.L.set i (.lst false us), t.S⟩ (upd H a (.lst xs)) := by
  obtain ⟨vs, h1, h2, h3, h4⟩ := G.lc i _ _ e ea
  have nz := h4 rfl
  have mem : a ∈ c.l := List.mem_of_getElem? ea
  have nρ : a ∉ c.ρ := fun q => G.ρl q mem
  have st : Step c H c (upd H a (.lst xs)) := by
    refine ⟨fun _ _ q => q, fun _ _ q => q, fun _ q => q, fun b q => ?_, fun b u q _ n2 => ?_, fun b q => ?_, fun _ q => .inl q, fun _ q => .inl q, fun _ q => .inl q⟩
    · exact upd_ne fun e => nz (e ▸ q)
    · rw [upd_ne fun e => n2 (by rw [e]; exact mem)]; exact q
    · by_cases e : b = a
      · subst e; rw [upd_same] at q; cases q
      · rw [upd_ne e] at q; exact q
  refine ⟨st, G.lρ, by simp [G.ll], G.nd, fun j s b e1 e2 => (G.sc j s b e1 e2).mon (st.mon G) (upd_ne fun q => nρ (q ▸ List.mem_of_getElem? e2)), fun j s b e1 e2 => ?_, G.zρ, fun b q => ?_⟩
  · by_cases q : i = j
    · subst q
      rw [List.getElem?_set, if_pos rfl] at e1
      split at e1
      · cases e1
        rw [ea] at e2
        cases e2
        exact ⟨xs, upd_same, r.step st G, (fun q => by cases q), fun _ => nz⟩
      · cases e1
    · rw [List.getElem?_set_ne q] at e1
      have nb : b ≠ a := fun z => q (nodup_get (List.nodup_append.mp G.nd).2.1 ea (z ▸ e2))
      exact (G.lc j s b e1 e2).mon (st.mon G) st.l (fun _ q => by rw [upd_ne nb]; exact q) fun z => z
  · by_cases e : b = a
    · subst e; exact ⟨_, upd_same⟩
    · rw [upd_ne e]; exact G.zh b q
/-- a shared cell is written -/
theorem Good.writeS (G : Good g.toGv c t H) {i : Nat} {s s' : SC} {o' : HO} {a : Addr} (e : t.S[i]? = some s) (ea : c.ρ[i]? = some a) (hk : (∃ vs, o' = .lst vs) ∨ ∃ C dx fs, o' = .ins C dx fs)
    (r : Step c H c (upd H a o') → SCRel g.toGv c (upd H a o') s' a) :
    Step c H c (upd H a o') ∧ Good g.toGv c ⟨t.L, t.S.set i s'⟩ (upd H a o') := by
  have mem : a ∈ c.ρ := List.mem_of_getElem? ea
  have nz : ¬ c.Z a := G.zρ a mem
  have nl : a ∉ c.l := fun q => G.ρl mem q
  have st : Step c H c (upd H a o') := by
    refine ⟨fun _ _ q => q, fun _ _ q => q, fun _ q => q, fun b q => ?_, fun b u q n1 _ => ?_, fun b q => ?_, fun _ q => .inl q, fun _ q => .inl q, fun _ q => .inl q⟩
    · exact upd_ne fun e => nz (e ▸ q)
    · rw [upd_ne fun e => n1 (by rw [e]; exact mem)]; exact q
    · by_cases e : b = a
      · subst e; rw [upd_same] at q; cases q
      · rw [upd_ne e] at q; exact q
  refine ⟨st, by simp [G.lρ], G.ll, G.nd, fun j u b e1 e2 => ?_, fun j u b e1 e2 => (G.lc j u b e1 e2).mon (st.mon G) st.l (fun _ q => by rw [upd_ne fun z => nl (by rw [← z]; exact List.mem_of_getElem? e2)]; exact q) fun z => z, G.zρ, fun b q => ?_⟩
  · by_cases q : i = j
    · subst q
      rw [List.getElem?_set, if_pos rfl] at e1
      split at e1
      · cases e1
        rw [ea] at e2
        cases e2
        exact r st
      · cases e1
    · rw [List.getElem?_set_ne q] at e1
      have nb : b ≠ a := fun z => q (nodup_get (List.nodup_append.mp G.nd).1 ea (z ▸ e2))
      exact (G.sc j u b e1 e2).mon (st.mon G) (upd_ne nb)
  · by_cases e : b = a
    · subst e; exact ⟨_, upd_same⟩
    · rw [upd_ne e]; exact G.zh b q
/-- data out of a value: read, and locked -/
theorem toD_ok {w : W} {v : V} {d : D} (G : Good g.toGv c t H) (r : WRel g.toGv c H w v) (e : toD w t = .ok d t') : ∃ c', Step c H c' H ∧ Good g.toGv c' t' H ∧ RelD g.toGv c'.ρ c'.Z H d v := by
  unfold toD at e
  cases w with
  | d x =>
    cases e
    exact ⟨c, Step.refl c H, G, r⟩
  | loc i =>
    obtain ⟨a, ea, ev⟩ := r
    simp only at e
    split at e
    · rename_i z ws h
      split at e
      · rename_i ds hd
        cases e
        obtain ⟨a', vs, ea', h1, h2, st, G'⟩ := G.lock h
        rw [ea] at ea'
        cases ea'
        refine ⟨_, st, G', ?_⟩
        simp only [RelD]
        exact ⟨a, vs, ev, ⟨h1, .inr rfl⟩, WRels.toDs hd (h2.step st G)⟩
      · cases e
    · rename_i z kvs h
      have ea2 := G.lc i _ _ h ea
      exact ea2.elim
    · cases e
theorem toDs_ok : ∀ {ws : List W} {vs : List V} {ds : List D} {c : Cf} {t t' : Stt}, Good g.toGv c t H → WRels g.toGv c H ws vs → toDs ws t = .ok ds t' → ∃ c', Step c H c' H ∧ Good g.toGv c' t' H ∧ RelDs g.toGv c'.ρ c'.Z H ds vs
  | [], vs, ds, c, t, t', G, r, e => by
    cases e
    refine ⟨c, Step.refl c H, G, ?_⟩
    simp only [RelDs]
    exact r
  | w :: ws, vs, ds, c, t, t', G, ⟨v, vr, e1, r1, r2⟩, e => by
    unfold toDs at e
    cases h : toD w t with
    | ok d t1 =>
      rw [h, R.bind_ok] at e
      obtain ⟨c1, st1, G1, q1⟩ := toD_ok G r1 h
      cases h2 : toDs ws t1 with
      | ok xs t2 =>
        rw [h2, R.bind_ok] at e
        cases e
        obtain ⟨c2, st2, G2, q2⟩ := toDs_ok G1 (r2.step st1 G) h2
        refine ⟨c2, st1.trans st2, G2, ?_⟩
        subst e1
        exact .cons (RelD.mon (st2.mon G1) q1) q2
      | exc x t2 => rw [h2] at e; cases e
      | stk => rw [h2] at e; cases e
    | exc x t1 => rw [h] at e; cases e
    | stk => rw [h] at e; cases e
theorem toD_noexc {w : W} {x : XD} : toD w t ≠ .exc x t' := by
  unfold toD
  cases w with
  | d y => intro h; cases h
  | loc i =>
    intro h
    simp only at h
    split at h
    · split at h <;> cases h
    · split at h <;> cases h
    · cases h
theorem toDs_noexc : ∀ {ws : List W} {x : XD} {t t' : Stt}, toDs ws t ≠ .exc x t'
  | [], x, t, t', h => by cases h
  | w :: ws, x, t, t', h => by
    unfold toDs at h
    cases h1 : toD w t with
    | ok d t1 =>
      rw [h1, R.bind_ok] at h
      cases h2 : toDs ws t1 with
      | ok xs t2 => rw [h2] at h; cases h
      | exc y t2 => exact toDs_noexc h2
      | stk => rw [h2] at h; cases h
    | exc y t1 => exact toD_noexc h1
    | stk => rw [h1] at h; cases h
/-- a list is made: by value, as a cell of the frame's own, as a shared cell -/
theorem mkLst_ok {o : Own} {ws : List W} {vs : List V} {Q : VK} {E : XK} (G : Good g.toGv c t H) (r : WRels g.toGv c H ws vs) (h : Post g c H (wR g) (mkLst o ws t) Q E) (p : Addr) (hp : H p = none) : Q (.ref p) (upd H p (.lst vs)) := by
  unfold mkLst at h
  cases o with
  | val =>
    simp only at h
    cases e : toDs ws t with
    | ok ds t1 =>
      rw [e, R.bind_ok] at h
      obtain ⟨c1, st1, G1, q1⟩ := toDs_ok G r e
      obtain ⟨st2, G2⟩ := G1.newZ (o := .lst vs) hp
      refine h.okS (st1.trans st2) G2 ?_
      show RelD _ _ _ _ (.lst ds) (.ref p)
      simp only [RelD]
      exact ⟨p, vs, rfl, ⟨upd_same, .inr rfl⟩, RelDs.mon (st2.mon G1) q1⟩
    | exc x t1 => exact absurd e toDs_noexc
    | stk => rw [e] at h; exact h.elim
  | loc =>
    obtain ⟨st, G'⟩ := G.newL hp r
    refine h.okS st G' ⟨p, ?_, rfl⟩
    show (c.l ++ [p])[t.L.length]? = some p
    rw [← G.ll, List.getElem?_append_right (Nat.le_refl _)]
    simp
  | shr =>
    simp only at h
    cases e : toDs ws t with
    | ok ds t1 =>
      rw [e, R.bind_ok] at h
      obtain ⟨c1, st1, G1, q1⟩ := toDs_ok G r e
      obtain ⟨st2, G2⟩ := G1.newS (s := .lst ds) (o := .lst vs) hp (.inl ⟨_, rfl⟩) (fun c' H' st e => ⟨vs, e, RelDs.mon (st.mon G1) q1⟩)
      refine h.okS (st1.trans st2) G2 ?_
      refine (RelD.ref_iff (g := g.toGv) (ρ := c1.ρ ++ [p]) (Z := c1.Z) (H := upd H p (.lst vs))).mpr ⟨p, rfl, ?_⟩
      show (c1.ρ ++ [p])[t1.S.length]? = some p
      rw [← G1.lρ, List.getElem?_append_right (Nat.le_refl _)]
      simp
    | exc x t1 => exact absurd e toDs_noexc
    | stk => rw [e] at h; exact h.elim
/-- the items of a list or tuple -/
theorem items_ok {w : W} {v : V} {ws : List W} (G : Good g.toGv c t H) (r : WRel g.toGv c H w v) (e : items? t w = some ws) : ∃ a vs, v = .ref a ∧ (SqL g.K H a vs ∨ SqT g.K H a vs) ∧ WRels g.toGv c H ws vs := by
  unfold items? at e
  split at e
  · cases e
    have r' : RelD _ _ _ _ (.lst _) v := r
    simp only [RelD] at r'
    obtain ⟨a, vs, e, h1, h2⟩ := r'
    exact ⟨a, vs, e, .inl (SqL.of h1.1), .ofD h2⟩
  · cases e
    have r' : RelD _ _ _ _ (.tup _) v := r
    simp only [RelD] at r'
    obtain ⟨a, vs, e, h1, h2⟩ := r'
    exact ⟨a, vs, e, .inr h1, .ofD h2⟩
  · cases e
    have r' : RelD _ _ _ _ (.klst _) v := r
    simp only [RelD] at r'
    obtain ⟨a, vs, e, h1, h2⟩ := r'
    exact ⟨a, vs, e, .inl h1.sq, .ofD h2⟩
  · rename_i n
    obtain ⟨a, ev, ea⟩ := RelD.ref_iff.mp (show RelD g.toGv c.ρ c.Z H (.ref n) v from r)
    split at e
    · rename_i xs h
      cases e
      obtain ⟨vs, h1, h2⟩ := G.sc _ _ _ h ea
      exact ⟨a, vs, ev, .inl (SqL.of h1), .ofD h2⟩
    · cases e
  · rename_i i
    obtain ⟨a, ea, ev⟩ := r
    split at e
    · rename_i z xs h
      cases e
      obtain ⟨vs, h1, h2, _⟩ := G.lc _ _ _ h ea
      exact ⟨a, vs, ev, .inl (SqL.of h1), h2⟩
    · cases e
  · cases e
theorem lstOnly_ok {w : W} {v : V} {ws : List W} (G : Good g.toGv c t H) (r : WRel g.toGv c H w v) (e : lstOnly? t w = some ws) : ∃ a vs, v = .ref a ∧ SqL g.K H a vs ∧ WRels g.toGv c H ws vs := by
  unfold lstOnly? at e
  split at e
  · cases e
  · rename_i hn
    unfold items? at e
    split at e
    · cases e
      have r' : RelD _ _ _ _ (.lst _) v := r
      simp only [RelD] at r'
      obtain ⟨a, vs, e, h1, h2⟩ := r'
      exact ⟨a, vs, e, SqL.of h1.1, .ofD h2⟩
    · exact absurd rfl (hn _)
    · cases e
      have r' : RelD _ _ _ _ (.klst _) v := r
      simp only [RelD] at r'
      obtain ⟨a, vs, e, h1, h2⟩ := r'
      exact ⟨a, vs, e, h1.sq, .ofD h2⟩
    · rename_i n
      obtain ⟨a, ev, ea⟩ := RelD.ref_iff.mp (show RelD g.toGv c.ρ c.Z H (.ref n) v from r)
      split at e
      · rename_i xs h
        cases e
        obtain ⟨vs, h1, h2⟩ := G.sc _ _ _ h ea
        exact ⟨a, vs, ev, SqL.of h1, .ofD h2⟩
      · cases e
    · rename_i i
      obtain ⟨a, ea, ev⟩ := r
      split at e
      · rename_i z xs h
        cases e
        obtain ⟨vs, h1, h2, _⟩ := G.lc _ _ _ h ea
        exact ⟨a, vs, ev, SqL.of h1, h2⟩
      · cases e
    · cases e
end
end MP
end

/-! text MPD -/
section
set_option Elab.async false
set_option linter.all false
set_option maxRecDepth 100000
set_option maxHeartbeats 4000000
/-! MP, part D: operators, built-in functions and methods by values. -/
namespace MP
open PySem L2

/-- readings of the semantic functions -/
def rS2 (g : Gx) (f : W → W → M W) : R2 := fun x y H Q => ∃ c t w v E, Good g.toGv c t H ∧ WRel g.toGv c H w x ∧ WRel g.toGv c H v y ∧ Post g c H (wR g) (f w v t) Q E
def rSC (g : Gx) (f : List W → M W) : List V → Hp → VK → Prop := fun vs H Q => ∃ c t ws E, Good g.toGv c t H ∧ WRels g.toGv c H ws vs ∧ Post g c H (wR g) (f ws t) Q E
def rSM (g : Gx) (f : W → List W → M W) : V → List V → Hp → VK → Prop := fun x vs H Q => ∃ c t w ws E, Good g.toGv c t H ∧ WRel g.toGv c H w x ∧ WRels g.toGv c H ws vs ∧ Post g c H (wR g) (f w ws t) Q E
section
variable {g : Gx} {c : Cf} {t : Stt} {H : Hp} {Q : VK} {E : XK}
theorem lim_line : LIM ≤ sizeLine := by decide
theorem wint {i : Int} {v : V} (h : WRel g.toGv c H (.d (.int i)) v) : v = .int i := (RelD.int_iff (g := g.toGv) (ρ := c.ρ) (Z := c.Z) (H := H)).mp h
theorem wstr {i : Tx} {v : V} (h : WRel g.toGv c H (.d (.str i)) v) : v = .str (toS i) := (RelD.str_iff (g := g.toGv) (ρ := c.ρ) (Z := c.Z) (H := H)).mp h
theorem wbl {i : Bool} {v : V} (h : WRel g.toGv c H (.d (.bl i)) v) : v = .bl i := (RelD.bl_iff (g := g.toGv) (ρ := c.ρ) (Z := c.Z) (H := H)).mp h
theorem wnon {v : V} (h : WRel g.toGv c H (.d .non) v) : v = .non := (RelD.non_iff (g := g.toGv) (ρ := c.ρ) (Z := c.Z) (H := H)).mp h
theorem int_w (i : Int) : WRel g.toGv c H (.d (.int i)) (.int i) := (RelD.int_iff (g := g.toGv) (ρ := c.ρ) (Z := c.Z) (H := H)).mpr rfl
theorem str_w (i : Tx) : WRel g.toGv c H (.d (.str i)) (.str (toS i)) := (RelD.str_iff (g := g.toGv) (ρ := c.ρ) (Z := c.Z) (H := H)).mpr rfl
theorem bl_w (i : Bool) : WRel g.toGv c H (.d (.bl i)) (.bl i) := (RelD.bl_iff (g := g.toGv) (ρ := c.ρ) (Z := c.Z) (H := H)).mpr rfl
theorem non_w : WRel g.toGv c H (.d .non) .non := (RelD.non_iff (g := g.toGv) (ρ := c.ρ) (Z := c.Z) (H := H)).mpr rfl
theorem wref {n : Nat} {v : V} (h : WRel g.toGv c H (.d (.ref n)) v) : ∃ a, v = .ref a ∧ c.ρ[n]? = some a := (RelD.ref_iff (g := g.toGv) (ρ := c.ρ) (Z := c.Z) (H := H)).mp h
theorem wtup {xs : List D} {v : V} (h : WRel g.toGv c H (.d (.tup xs)) v) : ∃ a vs, v = .ref a ∧ SqT g.K H a vs ∧ RelDs g.toGv c.ρ c.Z H xs vs := (RelD.tup_iff (g := g.toGv) (ρ := c.ρ) (Z := c.Z) (H := H)).mp h
theorem wlst {xs : List D} {v : V} (h : WRel g.toGv c H (.d (.lst xs)) v) : ∃ a vs, v = .ref a ∧ ZL c.Z H a vs ∧ RelDs g.toGv c.ρ c.Z H xs vs := (RelD.lst_iff (g := g.toGv) (ρ := c.ρ) (Z := c.Z) (H := H)).mp h

/-! ### truth -/
theorem empty_eq {ws : List W} {vs : List V} (h : WRels g.toGv c H ws vs) : ws.isEmpty = vs.isEmpty := by
  have e := h.length
  cases ws <;> cases vs <;> simp at e ⊢
theorem truth_ok {w : W} {v : V} {k : Bool} {t' : Stt} (G : Good g.toGv c t H) (r : WRel g.toGv c H w v) (e : truth w t = .ok k t') : t' = t ∧ TruV g.K v H k := by
  unfold truth at e
  split at e
  · cases e; rw [wnon r]; exact ⟨rfl, rfl⟩
  · cases e; rw [wbl r]; exact ⟨rfl, rfl⟩
  · cases e; rw [wint r]; exact ⟨rfl, rfl⟩
  · split at e
    · rename_i x hx
      cases e
      rw [wstr r]
      refine ⟨rfl, by rw [toS_len]; exact Nat.le_trans hx lim_line, ?_⟩
      rw [toS_len]
      cases hn : x.length <;> simp [bne] <;> omega
    · cases e
  · split at e
    · rename_i xs hi
      cases e
      obtain ⟨a, vs, rfl, h1, h2⟩ := items_ok G r hi
      refine ⟨rfl, ?_⟩
      rw [empty_eq h2]
      rcases h1 with h1 | h1
      · exact .inl ⟨vs, h1, rfl⟩
      · exact .inr (.inl ⟨vs, h1, rfl⟩)
    · cases e
theorem truth_noexc {w : W} {x : XD} {t' : Stt} : truth w t ≠ .exc x t' := by
  unfold truth
  intro e
  split at e
  · cases e
  · cases e
  · cases e
  · split at e <;> cases e
  · split at e <;> cases e
end

/-! ### operators -/
section
variable {X : Cx} {g : Gx}
theorem intBits_log (i : Int) : Builtin.Int.intBits i ≤ i.natAbs.log2 + 1 := by
  unfold Builtin.Int.intBits
  split <;> omega
theorem opS_bin {op : Bop} {o : Operator}
    (hi : ∀ (i j k : Int), bopI op i j = some k → ∀ (pins : List (Addr × Obj)) (s : Shared) (σ : St) (H : Hp) (v u : Value) (Q : VK), Inv X pins σ H s → RelV (.int i) v → RelV (.int j) u → Q (.int k) H → wpAny (model X.prog X.w) X.A (binaryOp o v u) (EP X pins σ Q) X.xe s)
    (hs : op = .add → o = .Add) : OpR X (binaryOp o) (rS2 g (bop op)) := by
  intro pins s σ H x y v u Q I rx ry h
  obtain ⟨c, t, w1, w2, E, G, r1, r2, P⟩ := h
  unfold bop at P
  split at P
  · rename_i a b
    split at P
    · rename_i k hk
      cases wint r1
      cases wint r2
      exact hi a b k hk pins s σ H v u Q I rx ry (P.ok G (int_w k))
    · exact P.elim
  · rename_i a b
    split at P
    · split at P
      · rename_i hl
        cases hs rfl
        cases wstr r1
        cases wstr r2
        exact op_add_str pins s σ H _ _ v u Q I rx ry ⟨toS a, toS b, rfl, rfl, by rw [toS_len, toS_len]; exact Nat.le_trans hl lim_line, by rw [toS_append]; exact P.ok G (str_w _)⟩
      · exact P.elim
    · exact P.elim
  · exact P.elim
theorem opS_add : OpR X (binaryOp .Add) (rS2 g (bop .add)) := opS_bin (fun i j k e pins s σ H v u Q I rx ry q => by
  cases e
  exact op_add pins s σ H _ _ v u Q I rx ry ⟨i, j, rfl, rfl, q⟩) fun _ => rfl
theorem opS_sub : OpR X (binaryOp .Sub) (rS2 g (bop .sub)) := opS_bin (fun i j k e pins s σ H v u Q I rx ry q => by
  cases e
  exact op_sub pins s σ H _ _ v u Q I rx ry ⟨i, j, rfl, rfl, q⟩) fun z => by cases z
theorem opS_mul : OpR X (binaryOp .Mult) (rS2 g (bop .mul)) := opS_bin (fun i j k e pins s σ H v u Q I rx ry q => by
  unfold bopI at e
  simp only at e
  split at e
  · rename_i h
    cases e
    exact op_mulW pins s σ H _ _ v u Q I rx ry ⟨i, j, rfl, rfl, h, q⟩
  · cases e) fun z => by cases z
theorem opS_fdiv : OpR X (binaryOp .FloorDiv) (rS2 g (bop .fdiv)) := opS_bin (fun i j k e pins s σ H v u Q I rx ry q => by
  unfold bopI at e
  simp only at e
  split at e
  · rename_i h
    cases e
    exact op_fdivW pins s σ H _ _ v u Q I rx ry ⟨i, j, rfl, rfl, h, q⟩
  · cases e) fun z => by cases z
theorem opS_mod : OpR X (binaryOp .Mod) (rS2 g (bop .mod)) := opS_bin (fun i j k e pins s σ H v u Q I rx ry q => by
  unfold bopI at e
  simp only at e
  split at e
  · rename_i h
    cases e
    exact op_mod pins s σ H _ _ v u Q I rx ry ⟨i, j, rfl, rfl, h, q⟩
  · cases e) fun z => by cases z
theorem op_powW : OpR X (binaryOp .Pow) (rI (fun i j => 0 ≤ j ∧ j ≤ 100 ∧ i.natAbs.log2 < 1000) fun i j => .int (i ^ j.toNat)) := opI fun i j _ _ _ _ _ hc q => by
  obtain ⟨h1, h2, h3⟩ := hc
  refine PyProof.Rows.pow_int h1 ?_ q
  have hb := intBits_log i
  have h4 : (Builtin.Int.intBits i : Int) ≤ 1000 := by omega
  calc (Builtin.Int.intBits i : Int) * j ≤ 1000 * 100 := Int.mul_le_mul h4 h2 h1 (by decide)
    _ ≤ 2 ^ 27 := by decide
theorem opS_pow : OpR X (binaryOp .Pow) (rS2 g (bop .pow)) := opS_bin (fun i j k e pins s σ H v u Q I rx ry q => by
  unfold bopI at e
  simp only at e
  split at e
  · rename_i h
    cases e
    exact op_powW pins s σ H _ _ v u Q I rx ry ⟨i, j, rfl, rfl, h, q⟩
  · cases e) fun z => by cases z

/-! ### comparisons -/
/- data as the library reads it -/
mutual
theorem pd_ok {c : Cf} {H : Hp} : ∀ {d : D} {v : V} {p : PyData}, RelD g.toGv c.ρ c.Z H d v → d.pd? = some p → Dp g.K H v p
  | .non, v, p, h, e => by simp only [RelD] at h; simp only [D.pd?] at e; cases e; subst h; exact .non
  | .bl b, v, p, h, e => by simp only [RelD] at h; simp only [D.pd?] at e; cases e; subst h; exact .bl b
  | .int i, v, p, h, e => by simp only [RelD] at h; simp only [D.pd?] at e; cases e; subst h; exact .int i
  | .str x, v, p, h, e => by simp only [RelD] at h; simp only [D.pd?] at e; cases e; subst h; exact .str _
  | .tup xs, v, p, h, e => by
    simp only [RelD] at h
    obtain ⟨a, vs, rfl, h1, h2⟩ := h
    simp only [D.pd?] at e
    split at e
    · rename_i ys hy
      cases e
      exact .tup h1 (pds_ok h2 hy)
    · cases e
  | .lst xs, v, p, h, e => by
    simp only [RelD] at h
    obtain ⟨a, vs, rfl, h1, h2⟩ := h
    simp only [D.pd?] at e
    split at e
    · rename_i ys hy
      cases e
      exact .lst (SqL.of h1.1) (pds_ok h2 hy)
    · cases e
  | .dic _ _, v, p, h, e => by simp only [D.pd?] at e; cases e
  | .ref _, v, p, h, e => by simp only [D.pd?] at e; cases e
  | .fn _, v, p, h, e => by simp only [D.pd?] at e; cases e
  | .rep _, v, p, h, e => by simp only [D.pd?] at e; cases e
  | .klst _, v, p, h, e => by simp only [D.pd?] at e; cases e
theorem pds_ok {c : Cf} {H : Hp} : ∀ {ds : List D} {vs : List V} {ps : List PyData}, RelDs g.toGv c.ρ c.Z H ds vs → D.pds? ds = some ps → DpAll g.K H vs ps
  | [], vs, ps, h, e => by simp only [RelDs] at h; simp only [D.pds?] at e; cases e; subst h; exact .nil
  | d :: ds, vs, ps, h, e => by
    simp only [RelDs] at h
    obtain ⟨v, vr, rfl, h1, h2⟩ := h
    simp only [D.pds?] at e
    split at e
    · rename_i y ys e1 e2
      cases e
      exact .cons (pd_ok h1 e1) (pds_ok h2 e2)
    · cases e
end
theorem strOk_toS (x : Tx) : (PyData.str (toS x)).canLay0 = true := by
  simp only [PyData.canLay0, PyData.strOk]
  rw [← Array.all_toList, List.all_eq_true]
  intro c hc
  exact decide_eq_true (toS_lim x c hc)
mutual
theorem pd_dp : ∀ {d : D} {p : PyData}, d.pd? = some p → p.depth = d.dp ∧ p.canLay0 = true
  | .non, p, e => by simp only [D.pd?] at e; cases e; exact ⟨rfl, rfl⟩
  | .bl b, p, e => by simp only [D.pd?] at e; cases e; exact ⟨rfl, rfl⟩
  | .int i, p, e => by simp only [D.pd?] at e; cases e; exact ⟨rfl, rfl⟩
  | .str x, p, e => by simp only [D.pd?] at e; cases e; exact ⟨rfl, strOk_toS x⟩
  | .tup xs, p, e => by
    simp only [D.pd?] at e
    split at e
    · rename_i ys hy
      cases e
      obtain ⟨h1, h2⟩ := pds_dp hy
      exact ⟨by simp only [PyData.depth, D.dp, h1], by simpa only [PyData.canLay0] using h2⟩
    · cases e
  | .lst xs, p, e => by
    simp only [D.pd?] at e
    split at e
    · rename_i ys hy
      cases e
      obtain ⟨h1, h2⟩ := pds_dp hy
      exact ⟨by simp only [PyData.depth, D.dp, h1], by simpa only [PyData.canLay0] using h2⟩
    · cases e
  | .dic _ _, p, e => by simp only [D.pd?] at e; cases e
  | .ref _, p, e => by simp only [D.pd?] at e; cases e
  | .fn _, p, e => by simp only [D.pd?] at e; cases e
  | .rep _, p, e => by simp only [D.pd?] at e; cases e
  | .klst _, p, e => by simp only [D.pd?] at e; cases e
theorem pds_dp : ∀ {ds : List D} {ps : List PyData}, D.pds? ds = some ps → PyData.depthAll ps = D.dps ds ∧ PyData.canLayAll0 ps = true
  | [], ps, e => by simp only [D.pds?] at e; cases e; exact ⟨rfl, rfl⟩
  | d :: ds, ps, e => by
    simp only [D.pds?] at e
    split at e
    · rename_i y ys e1 e2
      cases e
      obtain ⟨h1, h2⟩ := pd_dp e1
      obtain ⟨h3, h4⟩ := pds_dp e2
      exact ⟨by simp only [PyData.depthAll, D.dps, h1, h3], by simp only [PyData.canLayAll0, h2, h4]; rfl⟩
    · cases e
end
mutual
theorem eqD_ok : ∀ {n : Nat} {a b : D} {k : Bool}, eqD n a b = some k → ∃ p q, a.pd? = some p ∧ b.pd? = some q ∧ PyData.eqv p q = k ∧ a.dp ≤ n ∧ b.dp ≤ n := fun {n a b k} e => by
  cases n <;> cases a <;> cases b <;> simp only [eqD] at e <;> first
    | (cases e; done)
    | (cases e; exact ⟨_, _, rfl, rfl, rfl, Nat.zero_le _, Nat.zero_le _⟩)
    | skip
  · cases e
    refine ⟨_, _, rfl, rfl, ?_, Nat.zero_le _, Nat.zero_le _⟩
    simp only [PyData.eqv, Bool.beq_eq_decide_eq]
    exact toS_dec
  · cases e
    refine ⟨_, _, rfl, rfl, ?_, Nat.zero_le _, Nat.zero_le _⟩
    simp only [PyData.eqv, Bool.beq_eq_decide_eq]
    exact toS_dec
  · obtain ⟨p, q, h1, h2, h3, h4, h5⟩ := eqDs_ok e
    exact ⟨.tuple p, .tuple q, by simp only [D.pd?, h1], by simp only [D.pd?, h2], by simpa only [PyData.eqv] using h3, by simp only [D.dp]; omega, by simp only [D.dp]; omega⟩
  · obtain ⟨p, q, h1, h2, h3, h4, h5⟩ := eqDs_ok e
    exact ⟨.list p, .list q, by simp only [D.pd?, h1], by simp only [D.pd?, h2], by simpa only [PyData.eqv] using h3, by simp only [D.dp]; omega, by simp only [D.dp]; omega⟩
theorem eqDs_ok : ∀ {n : Nat} {a b : List D} {k : Bool}, eqDs n a b = some k → (∃ p q, D.pds? a = some p ∧ D.pds? b = some q ∧ PyData.eqvAll p q = k ∧ D.dps a ≤ n ∧ D.dps b ≤ n) := fun {n a b k} e => by
  match a, b with
  | [], [] => simp only [eqDs] at e; cases e; exact ⟨[], [], rfl, rfl, rfl, Nat.zero_le _, Nat.zero_le _⟩
  | [], y :: s =>
    simp only [eqDs] at e
    split at e
    · rename_i q hq
      split at e
      · rename_i hn
        cases e
        refine ⟨[], q, rfl, hq, ?_, Nat.zero_le _, hn⟩
        cases q with
        | nil =>
          simp only [D.pds?] at hq
          split at hq <;> cases hq
        | cons q1 q2 => rfl
      · cases e
    · cases e
  | x :: r, [] =>
    simp only [eqDs] at e
    split at e
    · rename_i q hq
      split at e
      · rename_i hn
        cases e
        refine ⟨q, [], hq, rfl, ?_, hn, Nat.zero_le _⟩
        cases q with
        | nil =>
          simp only [D.pds?] at hq
          split at hq <;> cases hq
        | cons q1 q2 => rfl
      · cases e
    · cases e
  | x :: r, y :: s =>
    simp only [eqDs] at e
    split at e
    · rename_i p q e1 e2
      cases e
      obtain ⟨p1, q1, h1, h2, h3, d1, d2⟩ := eqD_ok e1
      obtain ⟨p2, q2, h4, h5, h6, d3, d4⟩ := eqDs_ok e2
      exact ⟨p1 :: p2, q1 :: q2, by simp only [D.pds?, h1, h4], by simp only [D.pds?, h2, h5], by simp only [PyData.eqvAll, h3, h6], by simp only [D.dps]; omega, by simp only [D.dps]; omega⟩
    · cases e
end
/-- what a comparison reads -/
def PkRel (g : Gx) (c : Cf) (H : Hp) (a : D) (x : V) : Prop := RelD g.toGv c.ρ c.Z H a x ∨ ∃ ds p vs, a = .lst ds ∧ x = .ref p ∧ H p = some (.lst vs) ∧ RelDs g.toGv c.ρ c.Z H ds vs
theorem peek_ok {c : Cf} {t : Stt} {H : Hp} {w : W} {x : V} {a : D} (G : Good g.toGv c t H) (r : WRel g.toGv c H w x) (e : peek t w = some a) : PkRel g c H a x := by
  unfold peek at e
  cases w with
  | d y => cases e; exact .inl r
  | loc i =>
    obtain ⟨p, ep, rfl⟩ := r
    simp only at e
    split at e
    · rename_i z ws h
      cases hd : dsOf? ws with
      | none => rw [hd] at e; cases e
      | some ds =>
        rw [hd] at e
        cases e
        obtain ⟨vs, h1, h2, _⟩ := G.lc _ _ _ h ep
        exact .inr ⟨ds, p, vs, rfl, rfl, h1, WRels.toDs hd h2⟩
    · cases e
theorem PkRel.pd {c : Cf} {H : Hp} {a : D} {x : V} {p : PyData} (r : PkRel g c H a x) (e : a.pd? = some p) : Dp g.K H x p := by
  rcases r with r | ⟨ds, q, vs, rfl, rfl, h1, h2⟩
  · exact pd_ok r e
  · simp only [D.pd?] at e
    split at e
    · rename_i ys hy
      cases e
      exact .lst (SqL.of h1) (pds_ok h2 hy)
    · cases e
theorem PkRel.int {c : Cf} {H : Hp} {i : Int} {x : V} (r : PkRel g c H (.int i) x) : x = .int i := by
  rcases r with r | ⟨_, _, _, e, _⟩
  · exact RelD.int_iff.mp r
  · cases e
theorem PkRel.str {c : Cf} {H : Hp} {i : Tx} {x : V} (r : PkRel g c H (.str i) x) : x = .str (toS i) := by
  rcases r with r | ⟨_, _, _, e, _⟩
  · exact RelD.str_iff.mp r
  · cases e
theorem PkRel.rep {c : Cf} {H : Hp} {d : D} {x : V} (r : PkRel g c H (.rep d) x) : ∃ p, d.pd? = some p ∧ x = .str p.shown := by
  rcases r with r | ⟨_, _, _, e, _⟩
  · simpa only [RelD] using r
  · cases e
theorem PkRel.non {c : Cf} {H : Hp} {x : V} (r : PkRel g c H .non x) : x = .non := by
  rcases r with r | ⟨_, _, _, e, _⟩
  · exact RelD.non_iff.mp r
  · cases e
/-- None is None alone -/
theorem PkRel.isN {c : Cf} {H : Hp} {a : D} {x : V} (r : PkRel g c H a x) : decide (x = .non) = decide (a = .non) := by
  rcases r with r | ⟨_, _, _, e, e2, _⟩
  · cases a <;> simp only [RelD] at r
    case non => subst r; rfl
    case bl => subst r; simp
    case int => subst r; simp
    case str => subst r; simp
    case tup => obtain ⟨_, _, e, _⟩ := r; subst e; simp
    case lst => obtain ⟨_, _, e, _⟩ := r; subst e; simp
    case ref => obtain ⟨_, e, _⟩ := r; subst e; simp
    case fn => subst r; simp
    case rep => obtain ⟨_, _, e⟩ := r; subst e; simp
    case klst => obtain ⟨_, _, e, _⟩ := r; subst e; simp
  · subst e e2; simp
def copW (op : Cop) (x y : W) : M W := fun t => (cop op x y t).bind fun k t => .ok (.d (.bl k)) t
theorem copW_elim {op : Cop} {c : Cf} {t : Stt} {H : Hp} {w v : W} {x y : V} {Q : VK} {E : XK} (G : Good g.toGv c t H) (r1 : WRel g.toGv c H w x) (r2 : WRel g.toGv c H v y) (P : Post g c H (wR g) (copW op w v t) Q E) :
    ∃ a b k, PkRel g c H a x ∧ PkRel g c H b y ∧ cmpD op a b = some k ∧ Q (.bl k) H := by
  unfold copW cop at P
  split at P
  · rename_i a b ha hb
    split at P
    · rename_i k hk
      exact ⟨a, b, k, peek_ok G r1 ha, peek_ok G r2 hb, hk, P.ok G (bl_w k)⟩
    · exact P.elim
  · exact P.elim
theorem shaped_of {a : D} {p : PyData} (h : a.pd? = some p) (hd : a.dp ≤ 8) : SeqAt.shaped p = true := by
  obtain ⟨h1, h2⟩ := pd_dp h
  unfold SeqAt.shaped
  rw [h2, decide_eq_true (by omega)]
  rfl
theorem scal_str {x y : Str} : scal (.str x) (.str y) = true := rfl
theorem opS_eq (hu : X.A.units + 64 < cLine) (hK : X.K = g.K) : OpR X (compareOp .Eq) (rS2 g (copW .eq)) := by
  intro pins s σ H x y v u Q I rx ry h
  obtain ⟨c, t, w1, w2, E, G, r1, r2, P⟩ := h
  obtain ⟨a, b, k, ra, rb, e, q⟩ := copW_elim G r1 r2 P
  simp only [cmpD] at e
  split at e
  · split at e
    · rename_i a b hab
      cases e
      subst hab
      obtain ⟨p, hp, rfl⟩ := ra.rep
      obtain ⟨p', hp', rfl⟩ := rb.rep
      rw [hp] at hp'
      cases hp'
      exact op_eq pins s σ H _ _ v u Q I rx ry ⟨rfl, by rw [decide_eq_true rfl]; exact q⟩
    · cases e
  · obtain ⟨p, p', h1, h2, h3, d1, d2⟩ := eqD_ok e
    refine op_eqD hu pins s σ H _ _ v u Q I rx ry ⟨p, p', by rw [hK]; exact ra.pd h1, by rw [hK]; exact rb.pd h2, shaped_of h1 d1, shaped_of h2 d2, by rw [h3]; exact q⟩
theorem opS_ne (hu : X.A.units + 64 < cLine) (hK : X.K = g.K) : OpR X (compareOp .NotEq) (rS2 g (copW .ne)) := by
  intro pins s σ H x y v u Q I rx ry h
  obtain ⟨c, t, w1, w2, E, G, r1, r2, P⟩ := h
  obtain ⟨a, b, k, ra, rb, e, q⟩ := copW_elim G r1 r2 P
  simp only [cmpD] at e
  split at e
  · split at e
    · rename_i a b hab
      cases e
      subst hab
      obtain ⟨p, hp, rfl⟩ := ra.rep
      obtain ⟨p', hp', rfl⟩ := rb.rep
      rw [hp] at hp'
      cases hp'
      exact op_ne pins s σ H _ _ v u Q I rx ry ⟨rfl, by rw [decide_eq_true rfl]; exact q⟩
    · cases e
  · cases he : eqD 8 a b with
    | none => rw [he] at e; cases e
    | some z =>
      rw [he] at e
      cases e
      obtain ⟨p, p', h1, h2, h3, d1, d2⟩ := eqD_ok he
      refine op_neD hu pins s σ H _ _ v u Q I rx ry ⟨p, p', by rw [hK]; exact ra.pd h1, by rw [hK]; exact rb.pd h2, shaped_of h1 d1, shaped_of h2 d2, by rw [h3]; exact q⟩
theorem opS_isN : OpR X (compareOp .Is) (rS2 g (copW .isN)) := by
  intro pins s σ H x y v u Q I rx ry h
  obtain ⟨c, t, w1, w2, E, G, r1, r2, P⟩ := h
  obtain ⟨a, b, k, ra, rb, e, q⟩ := copW_elim G r1 r2 P
  simp only [cmpD] at e
  split at e
  · cases e
    cases rb.non
    exact op_isN pins s σ H _ _ v u Q I rx ry ⟨rfl, by rw [ra.isN]; exact q⟩
  · cases e
theorem opS_notN : OpR X (compareOp .IsNot) (rS2 g (copW .notN)) := by
  intro pins s σ H x y v u Q I rx ry h
  obtain ⟨c, t, w1, w2, E, G, r1, r2, P⟩ := h
  obtain ⟨a, b, k, ra, rb, e, q⟩ := copW_elim G r1 r2 P
  simp only [cmpD] at e
  split at e
  · cases e
    cases rb.non
    exact op_notN pins s σ H _ _ v u Q I rx ry ⟨rfl, by rw [ra.isN]; exact q⟩
  · cases e
/-- the items of flat tuples, alike -/
theorem lexAt_lt (as bs : List D) : ∀ (k i : Nat), i + k = min as.length bs.length →
    Ob.lexAt (fun j => decide (as.getD j .non = bs.getD j .non)) (fun j => ltD (as.getD j .non) (bs.getD j .non)) (decide (as.length < bs.length)) i k = ltDs (as.drop i) (bs.drop i)
  | 0, i, h => by
    rw [Ob.lexAt_zero]
    by_cases h1 : as.length < bs.length
    · rw [decide_eq_true h1, List.drop_eq_nil_of_le (show as.length ≤ i by omega)]
      cases e : bs.drop i with
      | nil => rw [List.drop_eq_nil_iff] at e; omega
      | cons b r => rfl
    · rw [decide_eq_false h1, List.drop_eq_nil_of_le (show bs.length ≤ i by omega)]
      cases as.drop i <;> rfl
  | k + 1, i, h => by
    have h1 : i < as.length := by omega
    have h2 : i < bs.length := by omega
    rw [Ob.lexAt_succ, lexAt_lt as bs k (i + 1) (by omega), List.drop_eq_getElem_cons h1, List.drop_eq_getElem_cons h2]
    simp only [ltDs, List.getD_eq_getElem?_getD, List.getElem?_eq_getElem h1, List.getElem?_eq_getElem h2, Option.getD_some, decide_eq_true_eq]
theorem lexAt_le (as bs : List D) (hf : ∀ j, j < as.length → j < bs.length → as.getD j .non ≠ bs.getD j .non → ltD (bs.getD j .non) (as.getD j .non) = !ltD (as.getD j .non) (bs.getD j .non)) : ∀ (k i : Nat), i + k = min as.length bs.length →
    Ob.lexAt (fun j => decide (as.getD j .non = bs.getD j .non)) (fun j => !ltD (bs.getD j .non) (as.getD j .non)) (decide (as.length ≤ bs.length)) i k = !ltDs (bs.drop i) (as.drop i)
  | 0, i, h => by
    rw [Ob.lexAt_zero]
    by_cases h1 : as.length ≤ bs.length
    · rw [decide_eq_true h1, List.drop_eq_nil_of_le (show as.length ≤ i by omega)]
      cases bs.drop i <;> rfl
    · rw [decide_eq_false h1, List.drop_eq_nil_of_le (show bs.length ≤ i by omega)]
      cases e : as.drop i with
      | nil => rw [List.drop_eq_nil_iff] at e; omega
      | cons b r => rfl
  | k + 1, i, h => by
    have h1 : i < as.length := by omega
    have h2 : i < bs.length := by omega
    rw [Ob.lexAt_succ, lexAt_le as bs hf k (i + 1) (by omega), List.drop_eq_getElem_cons h1, List.drop_eq_getElem_cons h2]
    simp only [ltDs, List.getD_eq_getElem?_getD, List.getElem?_eq_getElem h1, List.getElem?_eq_getElem h2, Option.getD_some, decide_eq_true_eq]
    by_cases e : as[i] = bs[i]
    · rw [if_pos e, if_pos e.symm]
    · rw [if_neg e, if_neg fun z => e z.symm]
/-- a flat datum's value -/
theorem flat_val {c : Cf} {H : Hp} {d : D} {v : V} (r : RelD g.toGv c.ρ c.Z H d v) (h : flatD d = true) : (∃ i, d = .int i ∧ v = .int i) ∨ ∃ x, d = .str x ∧ v = .str (toS x) := by
  cases d <;> first
    | (cases h; done)
    | exact .inl ⟨_, rfl, RelD.int_iff.mp r⟩
    | exact .inr ⟨_, rfl, RelD.str_iff.mp r⟩
theorem alike_at : ∀ {as bs : List D} (j : Nat), alikeDs as bs = true → j < as.length → j < bs.length → alikeD (as.getD j .non) (bs.getD j .non) = true
  | [], _, j, _, h, _ => by simp at h
  | _ :: _, [], j, _, _, h => by simp at h
  | a :: r, b :: s, 0, h, _, _ => by
    simp only [alikeDs, Bool.and_eq_true] at h
    exact h.1
  | a :: r, b :: s, j + 1, h, h1, h2 => by
    simp only [alikeDs, Bool.and_eq_true] at h
    exact alike_at (as := r) (bs := s) j h.2 (by simpa using h1) (by simpa using h2)
/-- the items of two flat tuples alike, as the library compares them -/
theorem flat_items {c : Cf} {H : Hp} {as bs : List D} {vs us : List V} {its its2 : List Value} {A : Around} {s : Shared} (ra : RelDs g.toGv c.ρ c.Z H as vs) (rb : RelDs g.toGv c.ρ c.Z H bs us) (r1 : Vals vs its) (r2 : Vals us its2)
    (fa : as.all flatD = true) (fb : bs.all flatD = true) (al : alikeDs as bs = true) (j : Nat) (h1 : j < its.toArray.size) (h2 : j < its2.toArray.size) :
    SeqAt.EqAt A s its.toArray[j] its2.toArray[j] (decide (as.getD j .non = bs.getD j .non)) ∧ Ob.RcOp .Lt A s its.toArray[j] its2.toArray[j] (ltD (as.getD j .non) (bs.getD j .non)) ∧
      Ob.RcOp .LtE A s its.toArray[j] its2.toArray[j] (!ltD (bs.getD j .non) (as.getD j .non)) := by
  have la : as.length = its.length := by rw [← ra.length, r1.length]
  have lb : bs.length = its2.length := by rw [← rb.length, r2.length]
  have j1 : j < as.length := by rw [la]; simpa using h1
  have j2 : j < bs.length := by rw [lb]; simpa using h2
  have al' := alike_at j al j1 j2
  rw [List.getD_eq_getElem?_getD, List.getD_eq_getElem?_getD, List.getElem?_eq_getElem j1, List.getElem?_eq_getElem j2] at al' ⊢
  simp only [Option.getD_some] at al' ⊢
  obtain ⟨v, e1, q1⟩ := ra.get (List.getElem?_eq_getElem j1)
  obtain ⟨u, e2, q2⟩ := rb.get (List.getElem?_eq_getElem j2)
  obtain ⟨y, e3, q3⟩ := r1.get e1
  obtain ⟨z, e4, q4⟩ := r2.get e2
  have ey : its.toArray[j] = y := by
    have := List.getElem?_eq_getElem (l := its) (i := j) (by simpa using h1)
    rw [this] at e3; simpa using Option.some.inj e3
  have ez : its2.toArray[j] = z := by
    have := List.getElem?_eq_getElem (l := its2) (i := j) (by simpa using h2)
    rw [this] at e4; simpa using Option.some.inj e4
  rw [ey, ez]
  have f1 := List.all_eq_true.mp fa _ (List.getElem_mem j1)
  have f2 := List.all_eq_true.mp fb _ (List.getElem_mem j2)
  rcases flat_val q1 f1 with ⟨i, ei, rfl⟩ | ⟨x, ei, rfl⟩
  · rcases flat_val q2 f2 with ⟨k, ek, rfl⟩ | ⟨x', ek, rfl⟩
    · obtain ⟨t, rfl⟩ := q3
      obtain ⟨t', rfl⟩ := q4
      rw [ei, ek]
      refine ⟨?_, ?_, ?_⟩
      · have e : decide (D.int i = D.int k) = (i == k) := by rw [Bool.beq_eq_decide_eq]; simp
        rw [e]
        exact SeqAt.EqAt.int_int _ _ _ _
      · exact Ob.RcOp.lt_int _ _ _ _
      · have e : (!ltD (D.int k) (D.int i)) = decide (i ≤ k) := by
          show (!decide (k < i)) = decide (i ≤ k)
          by_cases q : k < i
          · rw [decide_eq_true q, decide_eq_false (by omega)]; rfl
          · rw [decide_eq_false q, decide_eq_true (by omega)]; rfl
        rw [e]
        exact Ob.RcOp.le_int _ _ _ _
    · rw [ei, ek] at al'; cases al'
  · rcases flat_val q2 f2 with ⟨k, ek, rfl⟩ | ⟨x', ek, rfl⟩
    · rw [ei, ek] at al'; cases al'
    · obtain ⟨t, rfl⟩ := q3
      obtain ⟨t', rfl⟩ := q4
      rw [ei, ek]
      refine ⟨?_, ?_, ?_⟩
      · have e : decide (D.str x = D.str x') = decide (toS x = toS x') := by rw [toS_dec]; simp
        rw [e]
        intro prog w E Q hq
        exact wpAny_eqBool_str hq
      · intro prog w E Q hq
        have e : ltD (.str x) (.str x') = decide ((toS x).cps.toList < (toS x').cps.toList) := by simp only [toS_lt]; rfl
        rw [e] at hq
        exact PyProof.Rows.lt_str hq
      · intro prog w E Q hq
        have e : (!ltD (.str x') (.str x)) = !decide ((toS x').cps.toList < (toS x).cps.toList) := by simp only [toS_lt]; rfl
        rw [e] at hq
        exact PySem.P.le_str hq
theorem flat_tri : ∀ a b : D, flatD a = true → flatD b = true → alikeD a b = true → a ≠ b → ltD b a = !ltD a b := by
  intro a b f1 f2 al ne
  cases a <;> cases b <;> first
    | (cases f1; done)
    | (cases f2; done)
    | (cases al; done)
    | skip
  · rename_i m n
    show decide (n < m) = !decide (m < n)
    have nm : m ≠ n := fun z => ne (by rw [z])
    by_cases q : n < m
    · rw [decide_eq_true q, decide_eq_false (by omega)]; rfl
    · rw [decide_eq_false q, decide_eq_true (by omega)]; rfl
  · rename_i m n
    show decide (n < m) = !decide (m < n)
    have nm : m ≠ n := fun z => ne (by rw [z])
    by_cases q : n < m
    · rw [decide_eq_true q, decide_eq_false (fun z => List.lt_asymm q z)]; rfl
    · by_cases q2 : m < n
      · rw [decide_eq_false q, decide_eq_true q2]; rfl
      · exact absurd (List.le_antisymm (List.not_lt.mp q) (List.not_lt.mp q2)) nm
theorem opS_lt (hu : X.A.units + 64 < cLine) (hK : X.K = g.K) : OpR X (compareOp .Lt) (rS2 g (copW .lt)) := by
  intro pins s σ H x y v u Q I rx ry h
  obtain ⟨c, t, w1, w2, E, G, r1, r2, P⟩ := h
  obtain ⟨a, b, k, ra, rb, e, q⟩ := copW_elim G r1 r2 P
  simp only [cmpD] at e
  split at e
  · cases e
    cases ra.int
    cases rb.int
    exact op_lt pins s σ H _ _ v u Q I rx ry ⟨_, _, rfl, rfl, q⟩
  · cases e
    cases ra.str
    cases rb.str
    exact op_lt_str pins s σ H _ _ v u Q I rx ry ⟨_, _, rfl, rfl, by simp only [toS_lt]; exact q⟩
  · split at e
    · rename_i as bs hc
      cases e
      simp only [Bool.and_eq_true] at hc
      obtain ⟨⟨fa, fb⟩, al⟩ := hc
      rcases ra with ra | ⟨_, _, _, z, _⟩
      · rcases rb with rb | ⟨_, _, _, z, _⟩
        · obtain ⟨p, vs, rfl, h1, h2⟩ := RelD.tup_iff.mp ra
          obtain ⟨p', us, rfl, h3, h4⟩ := RelD.tup_iff.mp rb
          rw [← hK] at h1 h3
          cases rx
          cases ry
          obtain ⟨its, q1, p1, _⟩ := I.tuple h1
          obtain ⟨its2, q2, p2, _⟩ := I.tuple h3
          have R := Ob.RcOp.tuples_lt (A := X.A) (s := s) (e := fun j => decide (as.getD j .non = bs.getD j .non)) (r := fun j => ltD (as.getD j .non) (bs.getD j .non)) p1 p2 (by omega)
            (fun j j1 j2 => (flat_items h2 h4 q1 q2 fa fb al j j1 j2).1) (fun j j1 j2 _ => (flat_items h2 h4 q1 q2 fa fb al j j1 j2).2.1)
          have la : its.toArray.size = as.length := by rw [← h2.length, q1.length]; simp
          have lb : its2.toArray.size = bs.length := by rw [← h4.length, q2.length]; simp
          rw [la, lb, lexAt_lt as bs _ 0 (by omega)] at R
          exact R X.prog X.w X.xe (EP X pins σ Q) ⟨.bl _, H, I, rfl, q⟩
        · cases z
      · cases z
    · cases e
  · cases e
theorem opS_le (hu : X.A.units + 64 < cLine) (hK : X.K = g.K) : OpR X (compareOp .LtE) (rS2 g (copW .le)) := by
  intro pins s σ H x y v u Q I rx ry h
  obtain ⟨c, t, w1, w2, E, G, r1, r2, P⟩ := h
  obtain ⟨a, b, k, ra, rb, e, q⟩ := copW_elim G r1 r2 P
  simp only [cmpD] at e
  split at e
  · cases e
    cases ra.int
    cases rb.int
    exact op_le pins s σ H _ _ v u Q I rx ry ⟨_, _, rfl, rfl, q⟩
  · cases e
    cases ra.str
    cases rb.str
    exact op_le_str pins s σ H _ _ v u Q I rx ry ⟨_, _, rfl, rfl, by simp only [toS_lt]; exact q⟩
  · split at e
    · rename_i as bs hc
      cases e
      simp only [Bool.and_eq_true] at hc
      obtain ⟨⟨fa, fb⟩, al⟩ := hc
      rcases ra with ra | ⟨_, _, _, z, _⟩
      · rcases rb with rb | ⟨_, _, _, z, _⟩
        · obtain ⟨p, vs, rfl, h1, h2⟩ := RelD.tup_iff.mp ra
          obtain ⟨p', us, rfl, h3, h4⟩ := RelD.tup_iff.mp rb
          rw [← hK] at h1 h3
          cases rx
          cases ry
          obtain ⟨its, q1, p1, _⟩ := I.tuple h1
          obtain ⟨its2, q2, p2, _⟩ := I.tuple h3
          have R := Ob.RcOp.tuples_le (A := X.A) (s := s) (e := fun j => decide (as.getD j .non = bs.getD j .non)) (r := fun j => !ltD (bs.getD j .non) (as.getD j .non)) p1 p2 (by omega)
            (fun j j1 j2 => (flat_items h2 h4 q1 q2 fa fb al j j1 j2).1) (fun j j1 j2 _ => (flat_items h2 h4 q1 q2 fa fb al j j1 j2).2.2)
          have la : its.toArray.size = as.length := by rw [← h2.length, q1.length]; simp
          have lb : its2.toArray.size = bs.length := by rw [← h4.length, q2.length]; simp
          have fl : ∀ j, j < as.length → j < bs.length → as.getD j .non ≠ bs.getD j .non → ltD (bs.getD j .non) (as.getD j .non) = !ltD (as.getD j .non) (bs.getD j .non) := by
            intro j j1 j2 ne
            have al' := alike_at j al j1 j2
            have f1 := List.all_eq_true.mp fa _ (List.getElem_mem j1)
            have f2 := List.all_eq_true.mp fb _ (List.getElem_mem j2)
            rw [List.getD_eq_getElem?_getD, List.getD_eq_getElem?_getD, List.getElem?_eq_getElem j1, List.getElem?_eq_getElem j2] at al' ne ⊢
            simp only [Option.getD_some] at al' ne ⊢
            exact flat_tri _ _ f1 f2 al' ne
          rw [la, lb, lexAt_le as bs fl _ 0 (by omega)] at R
          exact R X.prog X.w X.xe (EP X pins σ Q) ⟨.bl _, H, I, rfl, q⟩
        · cases z
      · cases z
    · cases e
  · cases e
theorem opS_gt : OpR X (compareOp .Gt) (rS2 g (copW .gt)) := by
  intro pins s σ H x y v u Q I rx ry h
  obtain ⟨c, t, w1, w2, E, G, r1, r2, P⟩ := h
  obtain ⟨a, b, k, ra, rb, e, q⟩ := copW_elim G r1 r2 P
  simp only [cmpD] at e
  split at e
  · cases e
    cases ra.int
    cases rb.int
    exact op_gt pins s σ H _ _ v u Q I rx ry ⟨_, _, rfl, rfl, q⟩
  · cases e
    cases ra.str
    cases rb.str
    exact op_gt_str pins s σ H _ _ v u Q I rx ry ⟨_, _, rfl, rfl, by simp only [toS_lt]; exact q⟩
  · cases e
theorem opS_ge : OpR X (compareOp .GtE) (rS2 g (copW .ge)) := by
  intro pins s σ H x y v u Q I rx ry h
  obtain ⟨c, t, w1, w2, E, G, r1, r2, P⟩ := h
  obtain ⟨a, b, k, ra, rb, e, q⟩ := copW_elim G r1 r2 P
  simp only [cmpD] at e
  split at e
  · cases e
    cases ra.int
    cases rb.int
    exact op_ge pins s σ H _ _ v u Q I rx ry ⟨_, _, rfl, rfl, q⟩
  · cases e
    cases ra.str
    cases rb.str
    exact op_ge_str pins s σ H _ _ v u Q I rx ry ⟨_, _, rfl, rfl, by simp only [toS_lt]; exact q⟩
  · cases e
theorem opS_isin : OpR X (compareOp .In) (rS2 g (copW .isin)) := by
  intro pins s σ H x y v u Q I rx ry h
  obtain ⟨c, t, w1, w2, E, G, r1, r2, P⟩ := h
  obtain ⟨a, b, k, ra, rb, e, q⟩ := copW_elim G r1 r2 P
  simp only [cmpD] at e
  split at e
  · cases e
    cases ra.str
    cases rb.str
    rename_i z b
    have e : decide (z.toNat ∈ (toS b).cps.toList) = decide (z ∈ b) := decide_eq_decide.mpr toS_mem
    exact op_in_sign pins s σ H _ _ v u Q I rx ry ⟨z.toNat, toS b, rfl, rfl, by rw [e]; exact q⟩
  · cases e
theorem opS_notin : OpR X (compareOp .NotIn) (rS2 g (copW .notin)) := by
  intro pins s σ H x y v u Q I rx ry h
  obtain ⟨c, t, w1, w2, E, G, r1, r2, P⟩ := h
  obtain ⟨a, b, k, ra, rb, e, q⟩ := copW_elim G r1 r2 P
  simp only [cmpD] at e
  split at e
  · cases e
    cases ra.str
    cases rb.str
    rename_i z b
    have e : decide (z.toNat ∈ (toS b).cps.toList) = decide (z ∈ b) := decide_eq_decide.mpr toS_mem
    exact op_notIn_sign pins s σ H _ _ v u Q I rx ry ⟨z.toNat, toS b, rfl, rfl, by rw [e]; exact q⟩
  · cases e
end
end MP
end

/-! text MPE -/
section
set_option Elab.async false
set_option linter.all false
set_option maxRecDepth 100000
set_option maxHeartbeats 4000000
/-! MP, part E: built-in functions and methods by values. -/
namespace MP
open PySem L2

/-! ### texts -/
theorem join_toS (sep : Tx) : ∀ ys : List Tx, Str.join (toS sep) (ys.map toS) = toS (joinL sep ys)
  | [] => rfl
  | [x] => rfl
  | x :: y :: r => by
    have ih := join_toS sep (y :: r)
    show toS x ++ toS sep ++ Str.join (toS sep) ((y :: r).map toS) = _
    rw [ih, toS_append, toS_append]
    rfl
theorem tjoin_toS (sep : Tx) (ys : List Tx) : Txt.join (toS sep) (ys.map toS) = toS (joinL sep ys) := by
  show PySem.Builtin.Str.glued _ _ = _
  rw [StrLaws.glued_eq_join, join_toS]
theorem str_app_list (a b : Str) : (a ++ b).cps.toList = a.cps.toList ++ b.cps.toList := by
  show (a.cps ++ b.cps).toList = _
  simp
theorem chars_of : ∀ (l : List Nat), (∀ n ∈ l, ∃ d : Char, d.toNat = n) → ∃ q : Tx, l = q.map Char.toNat
  | [], _ => ⟨[], rfl⟩
  | n :: l, h => by
    obtain ⟨d, hd⟩ := h n List.mem_cons_self
    obtain ⟨q, hq⟩ := chars_of l fun m hm => h m (List.mem_cons_of_mem _ hm)
    exact ⟨d :: q, by rw [List.map_cons, hd, hq]⟩
theorem join_sub (sep : Str) : ∀ (ps : List Str) (p : Str), p ∈ ps → ∀ n ∈ p.cps.toList, n ∈ (Str.join sep ps).cps.toList
  | [], p, h, _, _ => absurd h List.not_mem_nil
  | [x], p, h, n, hn => by
    rw [List.mem_singleton.mp h] at hn
    exact hn
  | x :: y :: r, p, h, n, hn => by
    show n ∈ (x ++ sep ++ Str.join sep (y :: r)).cps.toList
    rw [str_app_list, str_app_list]
    rcases List.mem_cons.mp h with e | h
    · rw [← e]; simp [hn]
    · have := join_sub sep (y :: r) p h n hn
      simp [this]
theorem strs_toS : ∀ (ps : List Str), (∀ p ∈ ps, ∃ q : Tx, p = toS q) → ∃ qs : List Tx, ps = qs.map toS
  | [], _ => ⟨[], rfl⟩
  | p :: ps, h => by
    obtain ⟨q, hq⟩ := h p List.mem_cons_self
    obtain ⟨qs, hqs⟩ := strs_toS ps fun m hm => h m (List.mem_cons_of_mem _ hm)
    exact ⟨q :: qs, by rw [List.map_cons, hq, hqs]⟩
theorem splitL_end (c : Char) : ∀ (p cur : Tx), c ∉ p → splitL c cur p = [cur ++ p]
  | [], cur, _ => by simp [splitL]
  | x :: r, cur, h => by
    have h1 : x ≠ c := fun e => h (by simp [e])
    have h2 : c ∉ r := fun e => h (by simp [e])
    simp only [splitL, if_neg h1]
    rw [splitL_end c r _ h2]
    simp
theorem splitL_hit (c : Char) : ∀ (p cur r : Tx), c ∉ p → splitL c cur (p ++ c :: r) = (cur ++ p) :: splitL c [] r
  | [], cur, r, _ => by simp [splitL]
  | x :: p, cur, r, h => by
    have h1 : x ≠ c := fun e => h (by simp [e])
    have h2 : c ∉ p := fun e => h (by simp [e])
    simp only [List.cons_append, splitL, if_neg h1]
    rw [splitL_hit c p _ r h2]
    simp
theorem splitL_join (c : Char) : ∀ (ps : List Tx), ps ≠ [] → (∀ p ∈ ps, c ∉ p) → splitL c [] (joinL [c] ps) = ps
  | [], h, _ => absurd rfl h
  | [p], _, h => by
    show splitL c [] p = [p]
    rw [splitL_end c p [] (h p (by simp))]
    rfl
  | p :: q :: r, _, h => by
    show splitL c [] (p ++ [c] ++ joinL [c] (q :: r)) = _
    have e : p ++ [c] ++ joinL [c] (q :: r) = p ++ c :: joinL [c] (q :: r) := by simp
    rw [e, splitL_hit c p [] _ (h p (by simp)), splitL_join c (q :: r) (by simp) fun z hz => h z (List.mem_cons_of_mem _ hz)]
    rfl
theorem split_toS (c : Char) (x : Tx) : Txt.split (toS x) (toS [c]) = (splitL c [] x).map toS := by
  have hj := StrLaws.join_split (toS x) (toS [c])
  have hf := StrLaws.split_free (toS x) c.toNat
  have hp : ∀ p ∈ Txt.split (toS x) (toS [c]), ∃ q : Tx, p = toS q := by
    intro p h
    have hs := join_sub (toS [c]) _ p h
    rw [hj] at hs
    obtain ⟨q, hq⟩ := chars_of p.cps.toList fun n hn => by
      have := hs n hn
      rw [toS_list] at this
      obtain ⟨d, _, e⟩ := List.mem_map.mp this
      exact ⟨d, e⟩
    exact ⟨q, toS_ext (by rw [hq, toS_list])⟩
  obtain ⟨qs, hqs⟩ := strs_toS _ hp
  rw [hqs] at hj ⊢
  rw [join_toS] at hj
  have hx := toS_inj hj
  have hne : qs ≠ [] := by
    intro e
    subst e
    have := PyProof.Rows.split_pos (toS x) (toS [c])
    rw [hqs] at this
    simp at this
  have hfr : ∀ p ∈ qs, c ∉ p := by
    intro p h hc
    have := hf (toS p) (by rw [← toS_one] ; rw [hqs]; exact List.mem_map.mpr ⟨p, h, rfl⟩)
    exact this (toS_mem.mpr hc)
  rw [← hx, splitL_join c qs hne hfr]
theorem digit_lt {c : Char} {m : Nat} (h : digit? c = some m) : m < 10 ∧ c.toNat = 48 + m := by
  unfold digit? at h
  split at h
  · cases h; omega
  · cases h
theorem text1 : ∀ m, m < 10 → PySem.intText? ⟨#[48 + m]⟩ = some (m : Int) := by decide +kernel
theorem text2 : ∀ m, m < 10 → ∀ n, n < 10 → PySem.intText? ⟨#[48 + m, 48 + n]⟩ = some ((10 * m + n : Nat) : Int) := by decide +kernel
theorem intOf_ok {x : Tx} {n : Int} (h : intOf? x = some n) : PySem.intText? (toS x) = some n ∧ (toS x).length ≤ 640 := by
  unfold intOf? at h
  split at h
  · rename_i a
    cases ha : digit? a with
    | none => rw [ha] at h; cases h
    | some m =>
      rw [ha] at h
      cases h
      obtain ⟨h1, h2⟩ := digit_lt ha
      have e : toS [a] = ⟨#[48 + m]⟩ := by rw [← h2]; rfl
      rw [e]
      exact ⟨text1 m h1, by show 1 ≤ 640; decide⟩
  · rename_i a b
    split at h
    · rename_i m n' ha hb
      cases h
      obtain ⟨h1, h2⟩ := digit_lt ha
      obtain ⟨h3, h4⟩ := digit_lt hb
      have e : toS [a, b] = ⟨#[48 + m, 48 + n']⟩ := by rw [← h2, ← h4]; rfl
      rw [e]
      exact ⟨text2 m h1 n' h3, by show 2 ≤ 640; decide⟩
    · cases h
  · cases h

section
variable {X : Cx} {g : Gx}
/-- one argument -/
theorem ws1 {c : Cf} {H : Hp} {w : W} {vs : List V} (r : WRels g.toGv c H [w] vs) : ∃ v, vs = [v] ∧ WRel g.toGv c H w v := by
  obtain ⟨v, vr, e, h1, h2⟩ := r
  have : vr = [] := h2
  subst this
  exact ⟨v, e, h1⟩
theorem ws2 {c : Cf} {H : Hp} {w u : W} {vs : List V} (r : WRels g.toGv c H [w, u] vs) : ∃ v x, vs = [v, x] ∧ WRel g.toGv c H w v ∧ WRel g.toGv c H u x := by
  obtain ⟨v, vr, e, h1, h2⟩ := r
  obtain ⟨x, rfl, h3⟩ := ws1 h2
  exact ⟨v, x, e, h1, h3⟩
theorem line_pos : LIM ≤ 16777216 := by decide
theorem callS_len (hK : X.K = g.K) : CallR X (.builtin "len") (rSC g (bi .len)) := by
  intro pins s σ H xs us Q I rs h
  obtain ⟨c, t, ws, E, G, r, P⟩ := h
  unfold bi at P
  split at P <;> first | (rename_i e _; cases e; done) | (rename_i e; cases e; done) | skip
  · obtain ⟨v, rfl, rv⟩ := ws1 r
    split at P
    · rename_i x hx
      cases wstr rv
      exact call_len pins s σ H _ us Q I rs ⟨_, _, rfl, ⟨by rw [toS_len]; exact Nat.le_trans hx lim_line, rfl⟩, by rw [toS_len]; exact P.ok G (int_w _)⟩
    · exact P.elim
  · obtain ⟨v, rfl, rv⟩ := ws1 r
    exact False.elim rv
  · obtain ⟨v, rfl, rv⟩ := ws1 r
    split at P
    · rename_i xs hi
      obtain ⟨a, vs, rfl, h1, h2⟩ := items_ok G rv hi
      rw [← hK] at h1
      have hl := h2.length
      exact call_len pins s σ H _ us Q I rs ⟨_, vs.length, rfl, h1.elim (fun q => .inl ⟨vs, q, rfl⟩) (fun q => .inr ⟨vs, q, rfl⟩), by rw [hl]; exact P.ok G (int_w _)⟩
    · exact P.elim
  · exact P.elim
theorem callS_str : CallR X (.type "str") (rSC g (bi .str)) := by
  intro pins s σ H xs us Q I rs h
  obtain ⟨c, t, ws, E, G, r, P⟩ := h
  unfold bi at P
  split at P <;> first | (rename_i e _; cases e; done) | (rename_i e; cases e; done) | skip
  · obtain ⟨v, rfl, rv⟩ := ws1 r
    split at P
    · rename_i hi
      cases wint rv
      exact call_str_int pins s σ H _ us Q I rs ⟨_, rfl, hi, P.ok G (by show WRel _ _ _ _ (V.str (Str.ofString (toString _))); rw [toS_ofString]; exact str_w _)⟩
    · exact P.elim
  · exact P.elim
theorem callS_int : CallR X (.type "int") (rSC g (bi .int)) := by
  intro pins s σ H xs us Q I rs h
  obtain ⟨c, t, ws, E, G, r, P⟩ := h
  unfold bi at P
  split at P <;> first | (rename_i e _; cases e; done) | (rename_i e; cases e; done) | skip
  · obtain ⟨v, rfl, rv⟩ := ws1 r
    cases wint rv
    exact call_int1 pins s σ H _ us Q I rs (.inl ⟨_, rfl, P.ok G (int_w _)⟩)
  · obtain ⟨v, rfl, rv⟩ := ws1 r
    cases wbl rv
    exact call_int1 pins s σ H _ us Q I rs (.inr ⟨_, rfl, P.ok G (int_w _)⟩)
  · obtain ⟨v, rfl, rv⟩ := ws1 r
    split at P
    · rename_i n hn
      cases wstr rv
      obtain ⟨h1, h2⟩ := intOf_ok hn
      exact call_int_str pins s σ H _ us Q I rs ⟨_, _, rfl, h1, h2, P.ok G (int_w _)⟩
    · exact P.elim
  · exact P.elim
theorem signs_rel {c : Cf} {H : Hp} : ∀ x : Tx, WRels g.toGv c H ((signsOf x).map .d) (x.map fun ch => V.str (toS [ch]))
  | [] => rfl
  | ch :: x => ⟨_, _, rfl, str_w _, signs_rel x⟩
theorem vals_of_get : ∀ {xs : List V} {us : List Value}, xs.length = us.length → (∀ (j : Nat) x u, xs[j]? = some x → us[j]? = some u → RelV x u) → Vals xs us
  | [], [], _, _ => .nil
  | [], _ :: _, h, _ => by simp at h
  | _ :: _, [], h, _ => by simp at h
  | x :: xs, u :: us, h, k => .cons (k 0 x u rfl rfl) (vals_of_get (by simpa using h) fun j x u e1 e2 => k (j + 1) x u (by simpa using e1) (by simpa using e2))
theorem str_laid {its : List Value} : ∀ (x : Tx), its.length = x.length → (∀ j v, its[j]? = some v → SignAt (toS x) j v) → Vals (x.map fun ch => V.str (toS [ch])) its := by
  intro x hl h
  refine vals_of_get (by simp [hl]) fun j v u e1 e2 => ?_
  obtain ⟨cc, tk, h1, rfl⟩ := h j u e2
  rw [List.getElem?_map] at e1
  cases hx : x[j]? with
  | none => rw [hx] at e1; cases e1
  | some ch =>
    rw [hx] at e1
    cases e1
    have : (toS x).cps[j]? = some ch.toNat := by
      show ((x.map Char.toNat).toArray)[j]? = _
      rw [List.getElem?_toArray, List.getElem?_map, hx]; rfl
    rw [this] at h1
    cases h1
    exact ⟨tk, rfl⟩

theorem callS_list (hK : X.K = g.K) (hc : X.calm = true) (o : Own) : CallR X (.type "list") (rSC g (bi (.list o))) := by
  intro pins s σ H xs us Q I rs h
  obtain ⟨c, t, ws, E, G, r, P⟩ := h
  unfold bi at P
  split at P <;> first | (rename_i e _; cases e; done) | (rename_i e; cases e; done) | skip
  · rename_i o' x eo
    cases eo
    obtain ⟨v, rfl, rv⟩ := ws1 r
    split at P
    · rename_i hx
      cases wstr rv
      obtain ⟨u, rfl, tk, rfl⟩ := vals1 rs
      have hz : (toS x).cps.size ≤ sizeLine := by
        have : (toS x).cps.size = x.length := toS_len x
        rw [this]; exact Nat.le_trans hx lim_line
      refine PySem.call_list_str (I.ok.hd hc) (toS x) tk (fun h' tk acc c' hk hS hacc => ?_) hz
      have hv : Vals (x.map fun ch => V.str (toS [ch])) acc.toList := by
        refine str_laid x ?_ fun j v e => hacc.2 j v (by simpa using e)
        rw [Array.length_toList, hacc.1]; exact toS_len x
      have hlen : (x.map fun ch => V.str (toS [ch])).length ≤ sizeLine := by rw [List.length_map]; exact Nat.le_trans hx lim_line
      exact ⟨.ref _, upd H s.heap.objs.size (.lst (x.map fun ch => V.str (toS [ch]))), I.laid hk (Nat.le_refl _) ⟨hlen, acc.toList, c', hv, by simpa using hS⟩, rfl, mkLst_ok G (signs_rel x) P _ (I.hok.fresh (Nat.le_refl _))⟩
    · exact P.elim
  · rename_i o' w hn eo
    cases eo
    obtain ⟨v, rfl, rv⟩ := ws1 r
    split at P
    · rename_i xs hi
      obtain ⟨a, vs, rfl, h1, h2⟩ := items_ok G rv hi
      rw [← hK] at h1
      exact call_list_of pins s σ H _ us Q I rs ⟨a, vs, rfl, h1, fun l hl => mkLst_ok G h2 P l hl⟩
    · exact P.elim
  · exact P.elim
theorem tup_new {c : Cf} {t t' : Stt} {H : Hp} {ws : List W} {vs : List V} {Q : VK} {E : XK} {ds : List D} (G : Good g.toGv c t H) (r : WRels g.toGv c H ws vs) (e : toDs ws t = .ok ds t') (P : Post g c H (wR g) (.ok (.d (.tup ds)) t') Q E) (p : Addr) (hp : H p = none) : Q (.ref p) (upd H p (.tup vs)) := by
  obtain ⟨c1, st1, G1, q1⟩ := toDs_ok G r e
  obtain ⟨st2, G2⟩ := G1.newZ (o := .tup vs) hp
  refine P.okS (st1.trans st2) G2 ?_
  show RelD _ _ _ _ (.tup ds) (.ref p)
  simp only [RelD]
  exact ⟨p, vs, rfl, .inl (.inl upd_same), RelDs.mon (st2.mon G1) q1⟩
theorem tup_old {c : Cf} {t t' : Stt} {H : Hp} {ws : List W} {vs : List V} {Q : VK} {E : XK} {ds : List D} {p : Addr} (G : Good g.toGv c t H) (r : WRels g.toGv c H ws vs) (e : toDs ws t = .ok ds t') (P : Post g c H (wR g) (.ok (.d (.tup ds)) t') Q E) (hp : SqT g.K H p vs) : Q (.ref p) H := by
  obtain ⟨c1, st1, G1, q1⟩ := toDs_ok G r e
  refine P.okS st1 G1 ?_
  show RelD _ _ _ _ (.tup ds) (.ref p)
  simp only [RelD]
  exact ⟨p, vs, rfl, hp, q1⟩
theorem callS_tuple (hK : X.K = g.K) : CallR X (.type "tuple") (rSC g (bi .tuple)) := by
  intro pins s σ H xs us Q I rs h
  obtain ⟨c, t, ws, E, G, r, P⟩ := h
  unfold bi at P
  split at P <;> first | (rename_i e _; cases e; done) | (rename_i e; cases e; done) | skip
  · obtain ⟨v, rfl, rv⟩ := ws1 r
    split at P
    · rename_i xs hi
      obtain ⟨a, vs, rfl, h1, h2⟩ := items_ok G rv hi
      cases e : toDs xs t with
      | ok ds t1 =>
        rw [e, R.bind_ok] at P
        rcases h1 with h1 | h1
        · exact call_tuple_of pins s σ H _ us Q I rs ⟨a, vs, rfl, .inl ⟨by rw [hK]; exact h1, fun l hl => tup_new G h2 e P l hl⟩⟩
        · exact call_tuple_of pins s σ H _ us Q I rs ⟨a, vs, rfl, .inr ⟨by rw [hK]; exact h1, tup_old G h2 e P h1⟩⟩
      | exc x t1 => exact absurd e toDs_noexc
      | stk => rw [e] at P; exact P.elim
    · exact P.elim
  · exact P.elim
theorem bools_rel {c : Cf} {H : Hp} : ∀ {ws : List W} {bs : List Bool} {vs : List V}, boolsOf? ws = some bs → WRels g.toGv c H ws vs → vs = bs.map V.bl
  | [], bs, vs, e, r => by
    cases e
    exact r
  | .d (.bl b) :: ws, bs, vs, e, ⟨v, vr, ev, r1, r2⟩ => by
    simp only [boolsOf?] at e
    cases h : boolsOf? ws with
    | none => rw [h] at e; cases e
    | some cs =>
      rw [h] at e
      cases e
      rw [ev, wbl r1, bools_rel h r2]
      rfl
  | .loc _ :: _, _, _, e, _ => by cases e
  | .d .non :: _, _, _, e, _ => by cases e
  | .d (.int _) :: _, _, _, e, _ => by cases e
  | .d (.str _) :: _, _, _, e, _ => by cases e
  | .d (.tup _) :: _, _, _, e, _ => by cases e
  | .d (.lst _) :: _, _, _, e, _ => by cases e
  | .d (.dic _ _) :: _, _, _, e, _ => by cases e
  | .d (.ref _) :: _, _, _, e, _ => by cases e
  | .d (.fn _) :: _, _, _, e, _ => by cases e
  | .d (.rep _) :: _, _, _, e, _ => by cases e
  | .d (.klst _) :: _, _, _, e, _ => by cases e
theorem strs_rel {c : Cf} {H : Hp} : ∀ {ws : List W} {bs : List Tx} {vs : List V}, strsOf? ws = some bs → WRels g.toGv c H ws vs → vs = (bs.map toS).map V.str
  | [], bs, vs, e, r => by
    cases e
    exact r
  | .d (.str b) :: ws, bs, vs, e, ⟨v, vr, ev, r1, r2⟩ => by
    simp only [strsOf?] at e
    cases h : strsOf? ws with
    | none => rw [h] at e; cases e
    | some cs =>
      rw [h] at e
      cases e
      rw [ev, wstr r1, strs_rel h r2]
      rfl
  | .loc _ :: _, _, _, e, _ => by cases e
  | .d .non :: _, _, _, e, _ => by cases e
  | .d (.int _) :: _, _, _, e, _ => by cases e
  | .d (.bl _) :: _, _, _, e, _ => by cases e
  | .d (.tup _) :: _, _, _, e, _ => by cases e
  | .d (.lst _) :: _, _, _, e, _ => by cases e
  | .d (.dic _ _) :: _, _, _, e, _ => by cases e
  | .d (.ref _) :: _, _, _, e, _ => by cases e
  | .d (.fn _) :: _, _, _, e, _ => by cases e
  | .d (.rep _) :: _, _, _, e, _ => by cases e
  | .d (.klst _) :: _, _, _, e, _ => by cases e
theorem callS_all (hK : X.K = g.K) (hc : X.calm = true) : CallR X (.builtin "all") (rSC g (bi .all)) := by
  intro pins s σ H xs us Q I rs h
  obtain ⟨c, t, ws, E, G, r, P⟩ := h
  unfold bi at P
  split at P <;> first | (rename_i e _; cases e; done) | (rename_i e; cases e; done) | skip
  · obtain ⟨v, rfl, rv⟩ := ws1 r
    split at P
    · rename_i xs hi
      split at P
      · rename_i bs hb
        obtain ⟨a, vs, rfl, h1, h2⟩ := lstOnly_ok G rv hi
        rw [← hK] at h1
        rw [bools_rel hb h2] at h1
        exact cr_all hc pins s σ H _ us Q I rs ⟨a, bs, rfl, h1, P.ok G (bl_w _)⟩
      · exact P.elim
    · exact P.elim
  · exact P.elim
theorem callS_max2 (hc : X.calm = true) : CallR X (.builtin "max") (rSC g (bi .max2)) := by
  intro pins s σ H xs us Q I rs h
  obtain ⟨c, t, ws, E, G, r, P⟩ := h
  unfold bi at P
  split at P <;> first | (rename_i e _; cases e; done) | (rename_i e; cases e; done) | skip
  · obtain ⟨v, u, rfl, rv, ru⟩ := ws2 r
    cases wint rv
    cases wint ru
    exact call_max2 hc pins s σ H _ us Q I rs ⟨_, _, rfl, P.ok G (int_w _)⟩
  · exact P.elim
theorem callS_min2 (hc : X.calm = true) : CallR X (.builtin "min") (rSC g (bi .min2)) := by
  intro pins s σ H xs us Q I rs h
  obtain ⟨c, t, ws, E, G, r, P⟩ := h
  unfold bi at P
  split at P <;> first | (rename_i e _; cases e; done) | (rename_i e; cases e; done) | skip
  · obtain ⟨v, u, rfl, rv, ru⟩ := ws2 r
    cases wint rv
    cases wint ru
    exact call_min2 hc pins s σ H _ us Q I rs ⟨_, _, rfl, P.ok G (int_w _)⟩
  · exact P.elim
theorem callS_bool (hK : X.K = g.K) : CallR X (.type "bool") (rSC g (bi .bool)) := by
  intro pins s σ H xs us Q I rs h
  obtain ⟨c, t, ws, E, G, r, P⟩ := h
  unfold bi at P
  split at P <;> first | (rename_i e _; cases e; done) | (rename_i e; cases e; done) | skip
  · obtain ⟨v, rfl, rv⟩ := ws1 r
    cases wint rv
    exact call_bool1 pins s σ H _ us Q I rs (.inl ⟨_, rfl, P.ok G (bl_w _)⟩)
  · obtain ⟨v, rfl, rv⟩ := ws1 r
    cases wbl rv
    exact call_bool1 pins s σ H _ us Q I rs (.inr ⟨_, rfl, P.ok G (bl_w _)⟩)
  · obtain ⟨v, rfl, rv⟩ := ws1 r
    split at P
    · rename_i xs hi
      obtain ⟨a, vs, rfl, h1, h2⟩ := lstOnly_ok G rv hi
      rw [← hK] at h1
      have he := empty_eq h2
      exact call_boolL pins s σ H _ us Q I rs ⟨a, vs, rfl, h1, by rw [← he]; exact P.ok G (bl_w _)⟩
    · exact P.elim
  · exact P.elim

/-! ### isinstance -/
def tyName : Ty → String
  | .int => "int" | .str => "str" | .tup => "tuple" | .lst => "list" | .bool => "bool"
/-- isinstance(x, T), T the name of a type -/
def rIsS (g : Gx) (ty : Ty) : List V → Hp → VK → Prop := fun xs H Q => ∃ x, xs = [x, .ty (tyName ty)] ∧ rSC g (bi (.isi ty)) [x] H Q
theorem tyX_tup {H : Hp} {a : Addr} {vs : List V} (h : SqT X.K H a vs) : TyX X.K H (.ref a) (.type "tuple") := by
  rcases h with (h | ⟨o, h⟩) | ⟨o, its, n, h1, h2, _⟩
  · exact .base (.tup h)
  · exact .fTuple h
  · exact .kTuple h1 h2
theorem callS_isi (hK : X.K = g.K) (ty : Ty) : CallR X (.builtin "isinstance") (rIsS g ty) := by
  intro pins s σ H xs us Q I rs h
  obtain ⟨x, rfl, c, t, ws, E, G, r, P⟩ := h
  unfold bi at P
  split at P <;> first | (rename_i e _; cases e; done) | (rename_i e; cases e; done) | skip
  · rename_i ty' d e0
    cases e0
    obtain ⟨v, ev, rv⟩ := ws1 r
    cases ev
    split at P
    · rename_i k hk
      have q := P.ok G (bl_w k)
      have fin : ∀ {T : Value}, TyX X.K H x T → PySem.W.kitOne X.K T (.type (tyName ty)) = some k → wpAny (model X.prog X.w) X.A (call (.builtin "isinstance") us) (EP X pins σ Q) X.xe s := fun h1 h2 =>
        call_isi pins s σ H _ us Q I rs ⟨x, .ty (tyName ty), _, _, k, rfl, .ty _, h1, h2, q⟩
      cases d with
      | non => cases wnon rv; refine fin (.base .non) ?_; simp only [isTy] at hk; cases hk; cases ty <;> exact kit_ty (by decide +kernel)
      | bl b => cases wbl rv; refine fin (.base (.bl b)) ?_; simp only [isTy] at hk; cases hk; cases ty <;> exact kit_ty (by decide +kernel)
      | int i => cases wint rv; refine fin (.base (.int i)) ?_; simp only [isTy] at hk; cases hk; cases ty <;> exact kit_ty (by decide +kernel)
      | str y => cases wstr rv; refine fin (.base (.str _)) ?_; simp only [isTy] at hk; cases hk; cases ty <;> exact kit_ty (by decide +kernel)
      | tup ys =>
        obtain ⟨a, vs, rfl, h1, _⟩ := wtup rv
        rw [← hK] at h1
        refine fin (tyX_tup h1) ?_
        simp only [isTy] at hk; cases hk; cases ty <;> exact kit_ty (by decide +kernel)
      | lst ys =>
        obtain ⟨a, vs, rfl, h1, _⟩ := wlst rv
        refine fin (.base (.lst h1.1)) ?_
        simp only [isTy] at hk; cases hk; cases ty <;> exact kit_ty (by decide +kernel)
      | _ => cases hk
    · exact P.elim
  · exact P.elim

/-! ### repr -/
theorem reads_wt {d : D} : ∀ {p : PyData}, d.pd? = some p → True := fun _ => trivial
end

/-! ### how long repr comes to -/
theorem len_app (x y : Str) : (x ++ y).length = x.length + y.length := strLen_append x y
theorem join_len (sep : Str) : ∀ ts : List Str, (Str.join sep ts).length ≤ (ts.map fun t => t.length + sep.length).sum
  | [] => Nat.zero_le _
  | [x] => by show x.length ≤ _; simp
  | x :: y :: r => by
    have ih := join_len sep (y :: r)
    show (x ++ sep ++ Str.join sep (y :: r)).length ≤ _
    rw [len_app, len_app, List.map_cons, List.sum_cons]
    omega
theorem textFrom_le : ∀ (ts : List Str) (k : Nat) (acc : Str), (textFrom k acc ts).length ≤ acc.length + (ts.map fun t => t.length + 2).sum
  | [], _, acc => Nat.le_refl _
  | t :: r, k, acc => by
    have ih := textFrom_le r (k + 1) (acc ++ (if k > 0 then ", " else "" : String) ++ t)
    have e : (acc ++ (if k > 0 then ", " else "" : String) ++ t).length = acc.length + (if k > 0 then 2 else 0) + t.length := by
      rw [strLen_append, strLen_append]
      split <;> rfl
    show (textFrom (k + 1) (acc ++ (if k > 0 then ", " else "" : String) ++ t) r).length ≤ _
    rw [e] at ih
    rw [List.map_cons, List.sum_cons]
    have hk : (if k > 0 then 2 else 0) ≤ 2 := by split <;> omega
    generalize (if k > 0 then 2 else 0) = z at ih hk
    omega
mutual
theorem wt_ok : ∀ {d : D} {p : PyData}, d.pd? = some p → d.shw = true → p.shown.length ≤ d.wt ∧ p.showable = true
  | .non, p, e, _ => by simp only [D.pd?] at e; cases e; exact ⟨by decide, rfl⟩
  | .bl b, p, e, _ => by simp only [D.pd?] at e; cases e; exact ⟨by cases b <;> decide, rfl⟩
  | .int i, p, e, h => by
    simp only [D.pd?] at e; cases e
    simp only [D.shw] at h
    refine ⟨?_, by simpa only [PyData.showable] using h⟩
    simp only [PyData.shown, D.wt]
    have := int_text_length_le (a := i) (k := i.natAbs.log2 + 1) (by omega) (by omega)
    show (Str.ofString (toString i)).length ≤ _
    rw [toS_ofString, toS_len]
    have e2 : (toString i).toList.length = (toString i).length := by first | rfl | exact String.length_toList | simp [String.length]
    omega
  | .str x, p, e, _ => by
    simp only [D.pd?] at e; cases e
    refine ⟨?_, by simp only [PyData.showable]⟩
    simp only [PyData.shown, D.wt]
    have := StrLaws.reprText_len (toS x) fun c hc => Nat.lt_of_lt_of_le (toS_lim x c hc) (by decide)
    rw [toS_len] at this
    exact this
  | .tup xs, p, e, h => by
    simp only [D.pd?] at e
    split at e
    · rename_i ys hy
      cases e
      simp only [D.shw] at h
      obtain ⟨h1, h2⟩ := wts_ok hy h
      refine ⟨?_, by simpa only [PyData.showable] using h2⟩
      simp only [PyData.shown, D.wt]
      show (tupleText (PyData.shownAll ys)).length ≤ _
      unfold tupleText
      rw [len_app, len_app]
      have a1 := join_len ", " (PyData.shownAll ys)
      have a2 : ((", " : String) : Str).length = 2 := rfl
      rw [a2] at a1
      have a3 : (("(" : Str)).length = 1 := rfl
      have a4 : ((if (PyData.shownAll ys).length == 1 then ",)" else ")" : String) : Str).length ≤ 2 := by split <;> decide
      omega
    · cases e
  | .lst xs, p, e, h => by
    simp only [D.pd?] at e
    split at e
    · rename_i ys hy
      cases e
      simp only [D.shw] at h
      obtain ⟨h1, h2⟩ := wts_ok hy h
      refine ⟨?_, by simpa only [PyData.showable] using h2⟩
      simp only [PyData.shown, D.wt]
      show (listText (PyData.shownAll ys)).length ≤ _
      unfold listText
      rw [len_app]
      have a1 := textFrom_le (PyData.shownAll ys) 0 "["
      have a3 : (("[" : Str)).length = 1 := rfl
      have a4 : (("]" : Str)).length = 1 := rfl
      omega
    · cases e
  | .dic _ _, p, e, _ => by simp only [D.pd?] at e; cases e
  | .ref _, p, e, _ => by simp only [D.pd?] at e; cases e
  | .fn _, p, e, _ => by simp only [D.pd?] at e; cases e
  | .rep _, p, e, _ => by simp only [D.pd?] at e; cases e
  | .klst _, p, e, _ => by simp only [D.pd?] at e; cases e
theorem wts_ok : ∀ {ds : List D} {ps : List PyData}, D.pds? ds = some ps → D.shws ds = true → ((PyData.shownAll ps).map fun t => t.length + 2).sum ≤ D.wts ds ∧ PyData.showableAll ps = true
  | [], ps, e, _ => by simp only [D.pds?] at e; cases e; exact ⟨Nat.le_refl _, rfl⟩
  | d :: ds, ps, e, h => by
    simp only [D.pds?] at e
    split at e
    · rename_i y ys e1 e2
      cases e
      simp only [D.shws, Bool.and_eq_true] at h
      obtain ⟨h1, h2⟩ := wt_ok e1 h.1
      obtain ⟨h3, h4⟩ := wts_ok e2 h.2
      refine ⟨?_, by simp only [PyData.showableAll, h2, h4]; rfl⟩
      simp only [PyData.shownAll, List.map_cons, List.sum_cons, D.wts]
      omega
    · cases e
end
section
variable {X : Cx} {g : Gx}
theorem call_reprD (hg : X.A.guards = some []) (hu : X.A.units + 64 < cLine) : CallR X (.builtin "repr") (fun xs H Q => ∃ x p, xs = [x] ∧ Dp X.K H x p ∧ p.showable = true ∧ p.canLay0 = true ∧ p.depth ≤ 8 ∧ p.shown.length ≤ sizeLine ∧ Q (.str p.shown) H) := by
  intro pins s σ H xs us Q I rs h
  obtain ⟨x, p, rfl, hd, hs, hc, hdp, hl, q⟩ := h
  obtain ⟨u, rfl, ru⟩ := vals1 rs
  obtain ⟨as, r⟩ := Dp.reads I p x u hd ru
  have hnd := PyData.hasDict_of_canLay p hc
  have fin : ∀ tk : Nat, EP X pins σ Q (.str p.shown s.toks) { s with toks := tk } := fun tk => ⟨.str p.shown, H, I.tok tk, ⟨_, rfl⟩, q⟩
  cases r with
  | none => exact PySem.P.repr_of_none (fin _)
  | bool b => exact PySem.P.repr_of_bool (by have := fin (s.toks + 1); cases b <;> exact this)
  | int i t => exact PySem.P.repr_of_int (by simpa only [PyData.showable, decide_eq_true_eq] using hs) (fin _)
  | str y t => exact PySem.P.repr_of_str (fin _) hl
  | list h1 h2 h3 h4 =>
    exact repr_of_reads' (Reads.list h1 h2 h3 h4) hs (PyData.noDict_hsm hnd) hg (by omega) (fun _ _ e => e) (fun h' u tk hk => ⟨.str _, H, I.kept hk, ⟨_, rfl⟩, q⟩) hl
  | tuple h1 h2 h3 h4 =>
    exact repr_of_reads' (Reads.tuple h1 h2 h3 h4) hs (PyData.noDict_hsm hnd) hg (by omega) (fun _ _ e => e) (fun h' u tk hk => ⟨.str _, H, I.kept hk, ⟨_, rfl⟩, q⟩) hl
  | dict _ _ _ _ _ => cases hd
theorem callS_repr (hK : X.K = g.K) (hg : X.A.guards = some []) (hu : X.A.units + 64 < cLine) : CallR X (.builtin "repr") (rSC g (bi .repr)) := by
  intro pins s σ H xs us Q I rs h
  obtain ⟨c, t, ws, E, G, r, P⟩ := h
  unfold bi at P
  split at P <;> first | (rename_i e _; cases e; done) | (rename_i e; cases e; done) | skip
  · rename_i d _
    obtain ⟨v, rfl, rv⟩ := ws1 r
    split at P
    · rename_i p hp
      split at P
      · rename_i hc
        obtain ⟨h1, h2, h3⟩ := hc
        obtain ⟨a1, a2⟩ := wt_ok hp h3
        obtain ⟨a3, a4⟩ := pd_dp hp
        refine call_reprD hg hu pins s σ H _ us Q I rs ⟨v, p, rfl, by rw [hK]; exact pd_ok rv hp, a2, a4, by omega, Nat.le_trans (Nat.le_trans a1 h1) lim_line, P.ok G ?_⟩
        show RelD g.toGv c.ρ c.Z H (.rep d) _
        simp only [RelD]
        exact ⟨p, hp, rfl⟩
      · exact P.elim
    · exact P.elim
  · exact P.elim
end
end MP
end

/-! text MPF -/
section
set_option Elab.async false
set_option linter.all false
set_option maxRecDepth 100000
set_option maxHeartbeats 4000000
/-! MP, part F: sorted, methods, subscripts. -/
namespace MP
open PySem L2 PySem.W

/-! ### order of data -/
theorem pd_tup {xs : List D} {p : PyData} (e : (D.tup xs).pd? = some p) : ∃ ys, p = .tuple ys ∧ D.pds? xs = some ys := by
  simp only [D.pd?] at e
  split at e
  · rename_i ys hy
    cases e
    exact ⟨ys, rfl, hy⟩
  · cases e
theorem pd_lst {xs : List D} {p : PyData} (e : (D.lst xs).pd? = some p) : ∃ ys, p = .list ys ∧ D.pds? xs = some ys := by
  simp only [D.pd?] at e
  split at e
  · rename_i ys hy
    cases e
    exact ⟨ys, rfl, hy⟩
  · cases e
theorem pds_cons {x : D} {r : List D} {p : List PyData} (e : D.pds? (x :: r) = some p) : ∃ y ys, p = y :: ys ∧ x.pd? = some y ∧ D.pds? r = some ys := by
  simp only [D.pds?] at e
  split at e
  · rename_i y ys h1 h2
    cases e
    exact ⟨y, ys, rfl, h1, h2⟩
  · cases e
theorem pds_nil {p : List PyData} (e : D.pds? [] = some p) : p = [] := by
  simp only [D.pds?] at e
  cases e
  rfl
abbrev tLt (p q : List PyData) : Bool := PyProof.Rows.lexLt PyProof.Rows.itemOrd (keyToksAll p) (keyToksAll q)
mutual
theorem alike_pd : ∀ {a b : D} {p q : PyData}, a.pd? = some p → b.pd? = some q → alikeD a b = true → alike p q = true ∧ PyData.eqv p q = decide (a = b) ∧ dataLt p q = ltD a b := fun {a b p q} e1 e2 al => by
  cases a <;> cases b <;> first
    | (cases al; done)
    | skip
  · simp only [D.pd?] at e1 e2; cases e1; cases e2
    refine ⟨rfl, ?_, ?_⟩
    · simp only [PyData.eqv, Bool.beq_eq_decide_eq]; simp
    · rw [dataLt_int]; rfl
  · simp only [D.pd?] at e1 e2; cases e1; cases e2
    refine ⟨rfl, ?_, ?_⟩
    · simp only [PyData.eqv, Bool.beq_eq_decide_eq]; rw [toS_dec]; simp
    · rw [dataLt_str]
      show _ = decide _
      simp only [toS_lt]
  · obtain ⟨ys, rfl, hy⟩ := pd_tup e1
    obtain ⟨zs, rfl, hz⟩ := pd_tup e2
    simp only [alikeD] at al
    obtain ⟨h1, h2, h3⟩ := alike_pds hy hz al
    refine ⟨by simpa only [alike] using h1, ?_, ?_⟩
    · simp only [PyData.eqv, h2]; simp
    · rw [dataLt_tuple]; simp only [ltD]; exact h3
  · obtain ⟨ys, rfl, hy⟩ := pd_lst e1
    obtain ⟨zs, rfl, hz⟩ := pd_lst e2
    simp only [alikeD] at al
    obtain ⟨h1, h2, h3⟩ := alike_pds hy hz al
    refine ⟨by simpa only [alike] using h1, ?_, ?_⟩
    · simp only [PyData.eqv, h2]; simp
    · rw [dataLt_list]; simp only [ltD]; exact h3
theorem alike_pds : ∀ {a b : List D} {p q : List PyData}, D.pds? a = some p → D.pds? b = some q → alikeDs a b = true → alikeAll p q = true ∧ PyData.eqvAll p q = decide (a = b) ∧ tLt p q = ltDs a b := fun {a b p q} e1 e2 al => by
  match a, b with
  | [], [] =>
    rw [pds_nil e1, pds_nil e2]
    exact ⟨by simp [alikeAll], by simp [PyData.eqvAll], by simp only [ltDs]; exact PyProof.Rows.lex_irrefl _⟩
  | [], y :: s =>
    obtain ⟨q1, qs, rfl, h1, h2⟩ := pds_cons e2
    rw [pds_nil e1]
    refine ⟨by simp [alikeAll], by simp [PyData.eqvAll], ?_⟩
    unfold tLt
    rw [toks_all_cons]
    simp only [keyToksAll, ltDs]
    rw [PyProof.Rows.lex_diff (O := PyProof.Rows.itemOrd) (by simp)]
    rfl
  | x :: r, [] =>
    obtain ⟨q1, qs, rfl, h1, h2⟩ := pds_cons e1
    rw [pds_nil e2]
    refine ⟨by simp [alikeAll], by simp [PyData.eqvAll], ?_⟩
    unfold tLt
    rw [toks_all_cons]
    simp only [keyToksAll, ltDs]
    rw [PyProof.Rows.lex_diff (O := PyProof.Rows.itemOrd) (by simp)]
    rfl
  | x :: r, y :: s =>
    obtain ⟨p1, ps, rfl, h1, h2⟩ := pds_cons e1
    obtain ⟨q1, qs, rfl, h3, h4⟩ := pds_cons e2
    simp only [alikeDs, Bool.and_eq_true] at al
    obtain ⟨a1, a2, a3⟩ := alike_pd h1 h3 al.1
    obtain ⟨b1, b2, b3⟩ := alike_pds h2 h4 al.2
    refine ⟨by simp only [alikeAll, a1, b1]; rfl, ?_, ?_⟩
    · simp only [PyData.eqvAll, a2, b2]
      by_cases h : x = y <;> by_cases k : r = s <;> simp [h, k]
    · have b3' : PyProof.Rows.lexLt PyProof.Rows.itemOrd (keyToksAll ps) (keyToksAll qs) = ltDs r s := b3
      unfold tLt
      rw [dataLt_cons a1, b3', a2, a3]
      simp only [ltDs]
      by_cases h : x = y
      · rw [if_pos h, decide_eq_true h, if_pos rfl]
      · rw [if_neg h, decide_eq_false h]; rfl
end
/- what is alike to itself is data -/
mutual
theorem alike_some : ∀ {d : D}, alikeD d d = true → ∃ p, d.pd? = some p
  | .non, h => by cases h
  | .bl _, h => by cases h
  | .int i, _ => ⟨.int i, by simp only [D.pd?]⟩
  | .str x, _ => ⟨.str (toS x), by simp only [D.pd?]⟩
  | .tup xs, h => by
    simp only [alikeD] at h
    obtain ⟨ys, e⟩ := alikes_some h
    exact ⟨.tuple ys, by simp only [D.pd?, e]⟩
  | .lst xs, h => by
    simp only [alikeD] at h
    obtain ⟨ys, e⟩ := alikes_some h
    exact ⟨.list ys, by simp only [D.pd?, e]⟩
  | .dic _ _, h => by cases h
  | .ref _, h => by cases h
  | .fn _, h => by cases h
  | .rep _, h => by cases h
  | .klst _, h => by cases h
theorem alikes_some : ∀ {ds : List D}, alikeDs ds ds = true → ∃ ps, D.pds? ds = some ps
  | [], _ => ⟨[], by simp only [D.pds?]⟩
  | d :: ds, h => by
    simp only [alikeDs, Bool.and_eq_true] at h
    obtain ⟨p, e⟩ := alike_some h.1
    obtain ⟨ps, es⟩ := alikes_some h.2
    exact ⟨p :: ps, by simp only [D.pds?, e, es]⟩
end
/-! ### sorted -/
def pdD (d : D) : PyData := (d.pd?).getD .none
theorem pdD_eq {d : D} (h : alikeD d d = true) : d.pd? = some (pdD d) := by
  obtain ⟨p, e⟩ := alike_some h
  rw [pdD, e]; rfl
section
variable {X : Cx} {g : Gx}
theorem rels_zip {c : Cf} {H : Hp} : ∀ {ds : List D} {vs : List V}, RelDs g.toGv c.ρ c.Z H ds vs → ∃ zs : List (D × V), zs.map (·.1) = ds ∧ zs.map (·.2) = vs ∧ ∀ z ∈ zs, RelD g.toGv c.ρ c.Z H z.1 z.2
  | [], vs, h => by
    simp only [RelDs] at h
    exact ⟨[], rfl, h.symm, fun z hz => absurd hz List.not_mem_nil⟩
  | d :: ds, vs, h => by
    simp only [RelDs] at h
    obtain ⟨v, vr, rfl, h1, h2⟩ := h
    obtain ⟨zs, e1, e2, e3⟩ := rels_zip h2
    refine ⟨(d, v) :: zs, by rw [List.map_cons, e1], by rw [List.map_cons, e2], fun z hz => ?_⟩
    rcases List.mem_cons.mp hz with rfl | hz
    · exact h1
    · exact e3 z hz
theorem zip_rels {c : Cf} {H : Hp} : ∀ {zs : List (D × V)}, (∀ z ∈ zs, RelD g.toGv c.ρ c.Z H z.1 z.2) → RelDs g.toGv c.ρ c.Z H (zs.map (·.1)) (zs.map (·.2))
  | [], _ => by simp only [List.map_nil, RelDs]
  | z :: zs, h => .cons (h z List.mem_cons_self) (zip_rels fun y hy => h y (List.mem_cons_of_mem _ hy))
theorem each_of {R : Value → D × V → Prop} : ∀ {zs : List (D × V)} {us : List Value}, Vals (zs.map (·.2)) us → (∀ z u, z ∈ zs → RelV z.2 u → R u z) → EachIs R us zs
  | [], _, .nil, _ => .nil
  | z :: zs, _, .cons r rs, h => .cons (h z _ List.mem_cons_self r) (each_of rs fun y u hy => h y u (List.mem_cons_of_mem _ hy))
theorem of_each : ∀ {zs : List (D × V)} {us : List Value}, EachIs (fun u z => RelV z.2 u) us zs → Vals (zs.map (·.2)) us
  | _, _, .nil => .nil
  | _, _, .cons r rs => .cons r (of_each rs)
theorem sortable_ok {zs : List (D × V)} (ha : allAlike (zs.map (·.1)) = true) (hn : (zs.map (·.1)).all neTup = true) : Sortable (zs.map fun z => pdD z.1) := by
  unfold allAlike at ha
  rw [List.all_eq_true] at ha hn
  have al : ∀ z ∈ zs, ∀ y ∈ zs, alikeD z.1 y.1 = true := fun z hz y hy => by
    have := ha z.1 (List.mem_map_of_mem hz)
    rw [List.all_eq_true] at this
    exact this y.1 (List.mem_map_of_mem hy)
  by_cases ht : ∃ z ∈ zs, ∃ xs, z.1 = .tup xs
  · obtain ⟨z, hz, xs, ez⟩ := ht
    refine .inl fun d hd => ?_
    obtain ⟨y, hy, rfl⟩ := List.mem_map.mp hd
    have a1 := al z hz y hy
    have e1 := pdD_eq (al y hy y hy)
    have n1 := hn y.1 (List.mem_map_of_mem hy)
    rw [ez] at a1
    show ∃ x r, pdD y.1 = _
    generalize y.1 = w at a1 e1 n1
    cases w <;> first | (cases a1; done) | skip
    rename_i ys
    obtain ⟨ps, e2, e3⟩ := pd_tup e1
    rw [e2]
    cases ys with
    | nil => cases n1
    | cons y1 yr =>
      obtain ⟨q1, qs, rfl, _⟩ := pds_cons e3
      exact ⟨q1, qs, rfl⟩
  · refine .inr fun d hd => ?_
    obtain ⟨y, hy, rfl⟩ := List.mem_map.mp hd
    have e1 := pdD_eq (al y hy y hy)
    have a1 := al y hy y hy
    have nt : ∀ xs, y.1 ≠ .tup xs := fun xs e => ht ⟨y, hy, xs, e⟩
    show pdD y.1 ≠ _ ∧ ∀ xs, pdD y.1 ≠ _
    generalize y.1 = w at a1 e1 nt
    cases w <;> first | (cases a1; done) | skip
    · simp only [D.pd?] at e1
      rw [← Option.some.inj e1]
      exact ⟨(by intro q; cases q), by intro xs q; cases q⟩
    · simp only [D.pd?] at e1
      rw [← Option.some.inj e1]
      exact ⟨(by intro q; cases q), by intro xs q; cases q⟩
    · exact absurd rfl (nt _)
    · obtain ⟨ps, e2, e3⟩ := pd_lst e1
      rw [e2]
      exact ⟨(by intro q; cases q), by intro xs q; cases q⟩
theorem mergeSort_congr {α : Type} {r s : α → α → Bool} {l : List α} (h : ∀ a ∈ l, ∀ b ∈ l, r a b = s a b) : l.mergeSort r = l.mergeSort s := by
  have q := List.map_mergeSort (f := id) (r := r) (s := s) (l := l) h
  simpa using q
theorem callS_sorted (hK : X.K = g.K) (hu : X.A.units + 64 < cLine) (o : Own) : CallR X (.builtin "sorted") (rSC g (bi (.sorted o))) := by
  intro pins s σ H xs us Q I rs h
  obtain ⟨c, t, ws, E, G, r, P⟩ := h
  unfold bi at P
  split at P <;> first | (rename_i e _; cases e; done) | (rename_i e; cases e; done) | skip
  · rename_i o' w eo
    cases eo
    obtain ⟨v, rfl, rv⟩ := ws1 r
    split at P
    · rename_i xs hi
      split at P
      · rename_i ds hd
        split at P
        · rename_i hc
          simp only [Bool.and_eq_true, decide_eq_true_eq] at hc
          obtain ⟨⟨⟨ha, hn⟩, hl⟩, hdp⟩ := hc
          obtain ⟨a, vs, rfl, h1, h2⟩ := lstOnly_ok G rv hi
          have h2 := WRels.toDs hd h2
          obtain ⟨zs, e1, e2, e3⟩ := rels_zip h2
          rw [← hK] at h1
          obtain ⟨its, rv', pl, hz⟩ := I.list h1
          rw [Vals.ref1 rs]
          subst e1
          subst e2
          have ha' := ha
          unfold allAlike at ha'
          rw [List.all_eq_true] at ha'
          have al : ∀ z ∈ zs, ∀ y ∈ zs, alikeD z.1 y.1 = true := fun z hz y hy => by
            have := ha' z.1 (List.mem_map_of_mem hz)
            rw [List.all_eq_true] at this
            exact this y.1 (List.mem_map_of_mem hy)
          have e4 : EachIs (fun u z => RelV z.2 u) its zs := each_of rv' fun z u _ r => r
          have e5 : EachIs (fun u (z : D × V) => ∃ as, PySem.Reads s.heap u (pdD z.1) as) its zs := each_of rv' fun z u hz r => Dp.reads I _ _ _ (by rw [hK]; exact pd_ok (e3 z hz) (pdD_eq (al z hz z hz))) r
          have aa : AllAlike (zs.map fun z => pdD z.1) := by
            intro d hd d' hd'
            obtain ⟨y, hy, rfl⟩ := List.mem_map.mp hd
            obtain ⟨y', hy', rfl⟩ := List.mem_map.mp hd'
            exact (alike_pd (pdD_eq (al y hy y hy)) (pdD_eq (al y' hy' y' hy')) (al y hy y' hy')).1
          refine sorted_data (enc := fun z : D × V => pdD z.1) (R := fun u z => RelV z.2 u) pl.isList e4 e5 aa (sortable_ok ha hn) (by rw [List.length_map] at hl; exact Nat.le_trans hl lim_line) (fun z hz => ?_) fun out hlen eo => ?_
          · have := (pd_dp (pdD_eq (al z hz z hz))).1
            rw [List.all_eq_true] at hdp
            have := of_decide_eq_true (hdp z.1 (List.mem_map_of_mem hz))
            omega
          · obtain ⟨ep, he'⟩ := PyProof.Rows.sortedAll_at s.heap its out.toArray
            have hv : Vals ((zs.mergeSort (dataLe false fun z => pdD z.1)).map (·.2)) out := of_each eo
            have hs : zs.mergeSort (dataLe false fun z : D × V => pdD z.1) = zs.mergeSort fun x y => leD x.1 y.1 := by
              refine mergeSort_congr fun x hx y hy => ?_
              rw [dataLe_eq]
              show (!dataLt _ _) = !ltD _ _
              rw [(alike_pd (pdD_eq (al y hy y hy)) (pdD_eq (al x hx x hx)) (al y hy x hx)).2.2]
            rw [hs] at hv
            have hm : (zs.mergeSort fun x y => leD x.1 y.1).map (·.1) = (zs.map (·.1)).mergeSort leD := List.map_mergeSort fun _ _ _ _ => rfl
            rw [← hm] at P
            have hr : WRels g.toGv c H (((zs.mergeSort fun x y => leD x.1 y.1).map (·.1)).map .d) ((zs.mergeSort fun x y => leD x.1 y.1).map (·.2)) :=
              WRels.ofD (zip_rels fun z hz => e3 z (List.mem_mergeSort.mp hz))
            have hlen2 : ((zs.mergeSort fun x y => leD x.1 y.1).map (·.2)).length ≤ sizeLine := by
              rw [List.length_map, List.length_mergeSort]; rw [List.length_map] at hl; exact Nat.le_trans hl lim_line
            refine ⟨.ref _, upd H (s.heap.objs.size + 1) (.lst ((zs.mergeSort fun x y => leD x.1 y.1).map (·.2))), I.laid (t' := s.toks) (fun _ _ => PyProof.Rows.sortedAll_old) (Nat.le_succ _) ⟨hlen2, out.toArray.toList, ep, by simpa using hv, by simpa using he'⟩, rfl, mkLst_ok G hr P _ (I.hok.fresh (Nat.le_succ _))⟩
        · exact P.elim
      · exact P.elim
    · exact P.elim
  · exact P.elim
end

/-! ### methods -/
section
variable {X : Cx} {g : Gx} {c : Cf} {t : Stt} {H : Hp} {Q : VK} {E : XK}
/-- a list written, of the frame's own or shared -/
theorem writeL_ok {w : W} {v : V} {f : List W → Option (List W × W)} (G : Good g.toGv c t H) (r : WRel g.toGv c H w v) (P : Post g c H (wR g) (writeL w f t) Q E) :
    ∃ l xs ws ys rw, v = .ref l ∧ H l = some (.lst xs) ∧ WRels g.toGv c H ws xs ∧ f ws = some (ys, rw) ∧ ys.length < LIM ∧
      ∀ xs' rv, WRels g.toGv c H ys xs' → WRel g.toGv c H rw rv → Q rv (upd H l (.lst xs')) := by
  unfold writeL at P
  split at P
  · rename_i i
    obtain ⟨a, ea, rfl⟩ := r
    split at P
    · rename_i xs hx
      obtain ⟨vs, h1, h2, _⟩ := G.lc _ _ _ hx ea
      split at P
      · rename_i ys rw' hf
        split at P
        · rename_i hl
          refine ⟨a, vs, xs, ys, rw', rfl, h1, h2, hf, hl, fun xs' rv r1 r2 => ?_⟩
          obtain ⟨st, G'⟩ := G.writeL hx ea r1
          exact P.okS st G' (r2.step st G)
        · exact P.elim
      · exact P.elim
    · exact P.elim
  · rename_i n
    obtain ⟨a, rfl, ea⟩ := wref r
    split at P
    · rename_i xs hx
      obtain ⟨vs, h1, h2⟩ := G.sc _ _ _ hx ea
      split at P
      · rename_i ys rw' hf
        split at P
        · rename_i zs hz
          split at P
          · rename_i hl
            have hlen : ys.length = zs.length := by
              clear P hf
              induction ys generalizing zs with
              | nil => cases hz; rfl
              | cons y yr ih =>
                simp only [dsOf?] at hz
                split at hz
                · rename_i x1 xr h3 h4
                  cases hz
                  simp only [List.length_cons] at hl ⊢
                  rw [ih xr h4 (by omega)]
                · cases hz
            refine ⟨a, vs, xs.map .d, ys, rw', rfl, h1, .ofD h2, hf, by rw [hlen]; exact hl, fun xs' rv r1 r2 => ?_⟩
            obtain ⟨st, G'⟩ := G.writeS (s' := .lst zs) (o' := .lst xs') hx ea (.inl ⟨_, rfl⟩) fun st => ⟨xs', upd_same, RelDs.mon (st.mon G) (WRels.toDs hz r1)⟩
            exact P.okS st G' (r2.step st G)
          · exact P.elim
        · exact P.elim
      · exact P.elim
    · exact P.elim
  · exact P.elim
theorem len_lim {n : Nat} (h : n < LIM) : n < sizeLine := Nat.lt_of_lt_of_le h lim_line
theorem mtS_append : MtR X "list.append" (rSM g (bm .append)) := by
  intro pins s σ H x xs v us Q I rx rs h
  obtain ⟨c, t, w, ws, E, G, r0, r, P⟩ := h
  unfold bm at P
  split at P <;> first | (rename_i e _; cases e; done) | (rename_i e; cases e; done) | skip
  · obtain ⟨y, rfl, ry⟩ := ws1 r
    obtain ⟨l, zs, us', ys, rw', rfl, h1, h2, hf, hl, k⟩ := writeL_ok G r0 P
    cases hf
    refine mt_append pins s σ H _ _ v us Q I rx rs ⟨l, zs, y, rfl, rfl, h1, ?_, k _ _ (h2.append ⟨_, _, rfl, ry, rfl⟩) non_w⟩
    rw [h2.length]
    simp only [List.length_append, List.length_cons, List.length_nil] at hl
    exact len_lim (by omega)
  · exact P.elim
theorem extOnly_ok {w : W} {v : V} {ws : List W} (G : Good g.toGv c t H) (r : WRel g.toGv c H w v) (e : extOnly? t w = some ws) : ∃ a vs, v = .ref a ∧ H a = some (.lst vs) ∧ WRels g.toGv c H ws vs := by
  unfold extOnly? at e
  split at e
  · cases e
  · rename_i hn
    unfold lstOnly? at e
    split at e
    · cases e
    · rename_i hn2
      unfold items? at e
      split at e
      · cases e
        obtain ⟨a, vs, rfl, h1, h2⟩ := wlst r
        exact ⟨a, vs, rfl, h1.1, .ofD h2⟩
      · exact absurd rfl (hn2 _)
      · exact absurd rfl (hn _)
      · rename_i n
        obtain ⟨a, rfl, ea⟩ := wref r
        split at e
        · rename_i xs h
          cases e
          obtain ⟨vs, h1, h2⟩ := G.sc _ _ _ h ea
          exact ⟨a, vs, rfl, h1, .ofD h2⟩
        · cases e
      · rename_i i
        obtain ⟨a, ea, rfl⟩ := r
        split at e
        · rename_i z xs h
          cases e
          obtain ⟨vs, h1, h2, _⟩ := G.lc _ _ _ h ea
          exact ⟨a, vs, rfl, h1, h2⟩
        · cases e
      · cases e
theorem mtS_extend : MtR X "list.extend" (rSM g (bm .extend)) := by
  intro pins s σ H x xs v us Q I rx rs h
  obtain ⟨c, t, w, ws, E, G, r0, r, P⟩ := h
  unfold bm at P
  split at P <;> first | (rename_i e _; cases e; done) | (rename_i e; cases e; done) | skip
  · obtain ⟨y, rfl, ry⟩ := ws1 r
    split at P
    · rename_i zs hz
      obtain ⟨l, xs, us', ys, rw', rfl, h1, h2, hf, hl, k⟩ := writeL_ok G r0 P
      cases hf
      obtain ⟨a, vs, rfl, q1, q2⟩ := extOnly_ok G ry hz
      refine mt_extend pins s σ H _ _ v us Q I rx rs ⟨l, a, xs, vs, rfl, rfl, h1, q1, ?_, k _ _ (h2.append q2) non_w⟩
      rw [h2.length, q2.length]
      simp only [List.length_append] at hl
      exact Nat.le_of_lt (len_lim hl)
    · exact P.elim
  · exact P.elim
theorem WRels.dropLast : ∀ {ws : List W} {vs : List V}, WRels g.toGv c H ws vs → WRels g.toGv c H ws.dropLast vs.dropLast
  | [], _, h => by have h' : _ = [] := h; subst h'; exact rfl
  | [w], _, ⟨v, vr, e, h1, h2⟩ => by
    have h' : vr = [] := h2
    subst h'; subst e
    exact rfl
  | w :: u :: r, _, ⟨v, vr, e, h1, h2⟩ => by
    obtain ⟨v2, vr2, e2, h3, h4⟩ := h2
    subst e2; subst e
    exact ⟨v, _, rfl, h1, WRels.dropLast (ws := u :: r) ⟨v2, vr2, rfl, h3, h4⟩⟩
theorem WRels.eraseIdx : ∀ {ws : List W} {vs : List V} (k : Nat), WRels g.toGv c H ws vs → WRels g.toGv c H (ws.eraseIdx k) (vs.eraseIdx k)
  | [], _, _, h => by have h' : _ = [] := h; subst h'; exact rfl
  | w :: r, _, 0, ⟨v, vr, e, h1, h2⟩ => by subst e; exact h2
  | w :: r, _, k + 1, ⟨v, vr, e, h1, h2⟩ => by subst e; exact ⟨v, _, rfl, h1, WRels.eraseIdx k h2⟩
theorem WRels.set {w : W} {v : V} (h : WRel g.toGv c H w v) : ∀ {ws : List W} {vs : List V} (k : Nat), WRels g.toGv c H ws vs → WRels g.toGv c H (ws.set k w) (vs.set k v)
  | [], _, _, h => by have h' : _ = [] := h; subst h'; exact rfl
  | w :: r, _, 0, ⟨v, vr, e, h1, h2⟩ => by subst e; exact ⟨_, _, rfl, h, h2⟩
  | w :: r, _, k + 1, ⟨v, vr, e, h1, h2⟩ => by subst e; exact ⟨v, _, rfl, h1, WRels.set h k h2⟩
theorem mtS_pop : MtR X "list.pop" (rSM g (bm .pop)) := by
  intro pins s σ H x xs v us Q I rx rs h
  obtain ⟨c, t, w, ws, E, G, r0, r, P⟩ := h
  unfold bm at P
  split at P <;> first | (rename_i e _; cases e; done) | (rename_i e; cases e; done) | skip
  · have hxs : xs = [] := r
    subst hxs
    obtain ⟨l, zs, us', ys, rw', rfl, h1, h2, hf, hl, k⟩ := writeL_ok G r0 P
    cases hg : us'.getLast? with
    | none => rw [hg] at hf; cases hf
    | some y =>
      rw [hg] at hf
      cases hf
      rw [List.getLast?_eq_getElem?] at hg
      obtain ⟨y', q1, q2⟩ := h2.get hg
      exact mt_pop pins s σ H _ _ v us Q I rx rs ⟨l, zs, y', rfl, rfl, h1, by rw [h2.length]; exact q1, k _ _ h2.dropLast q2⟩
  · exact P.elim
theorem idx_ok {n : Nat} {i : Int} {k : Nat} (h : idx n i = some k) : ixN n i = some k := by
  unfold idx at h
  unfold ixN
  split at h
  · rename_i h0
    rw [if_pos h0]
    exact h
  · rename_i h0
    rw [if_neg h0]
    split at h
    · rename_i h1
      cases h
      rw [if_pos (by omega)]
    · cases h
theorem mtS_popAt : MtR X "list.pop" (rSM g (bm .popAt)) := by
  intro pins s σ H x xs v us Q I rx rs h
  obtain ⟨c, t, w, ws, E, G, r0, r, P⟩ := h
  unfold bm at P
  split at P <;> first | (rename_i e _; cases e; done) | (rename_i e; cases e; done) | skip
  · rename_i i _
    obtain ⟨y, rfl, ry⟩ := ws1 r
    cases wint ry
    obtain ⟨l, zs, us', ys, rw', rfl, h1, h2, hf, hl, k⟩ := writeL_ok G r0 P
    split at hf
    · rename_i j hj
      cases hg : us'[j]? with
      | none => rw [hg] at hf; cases hf
      | some y =>
        rw [hg] at hf
        cases hf
        obtain ⟨y', q1, q2⟩ := h2.get hg
        obtain ⟨s1, s2, s3, s4⟩ := ixN_seq (idx_ok hj)
        obtain ⟨z, _⟩ := I.lst h1
        have hz : zs.length ≤ sizeLine := by
          obtain ⟨_, _, _, _, hz⟩ := I.lst h1
          exact hz
        have hb := line63
        rw [← h2.length] at s1 s3 s4
        exact mt_popAt pins s σ H _ _ v us Q I rx rs ⟨l, zs, _, j, y', rfl, rfl, h1, by omega, by omega, s1, q1, k _ _ (h2.eraseIdx j) q2⟩
    · cases hf
  · exact P.elim
theorem mtS_join (hK : X.K = g.K) : MtR X "str.join" (rSM g (bm .join)) := by
  intro pins s σ H x xs v us Q I rx rs h
  obtain ⟨c, t, w, ws, E, G, r0, r, P⟩ := h
  unfold bm at P
  split at P <;> first | (rename_i e _; cases e; done) | (rename_i e; cases e; done) | skip
  · obtain ⟨y, rfl, ry⟩ := ws1 r
    split at P
    · rename_i sep zs hz
      split at P
      · rename_i ss hs
        split at P
        · rename_i hl
          cases wstr r0
          obtain ⟨a, vs, rfl, h1, h2⟩ := items_ok G ry hz
          rw [strs_rel hs h2] at h1
          rw [← hK] at h1
          refine mt_join pins s σ H _ _ v us Q I rx rs ⟨toS sep, a, ss.map toS, rfl, rfl, h1, ?_, by rw [tjoin_toS]; exact P.ok G (str_w _)⟩
          rw [List.map_map, List.length_map, toS_len]
          have e : ((fun y : Str => y.length) ∘ toS) = fun y : Tx => y.length := funext fun y => toS_len y
          rw [e]
          exact Nat.le_trans hl line_pos
        · exact P.elim
      · exact P.elim
    · exact P.elim
  · exact P.elim
theorem strs_relD {ρ : List Addr} {Z : Addr → Prop} {H : Hp} : ∀ xs : List Tx, RelDs g.toGv ρ Z H (xs.map .str) ((xs.map toS).map V.str)
  | [] => .nil
  | x :: xs => .cons (RelD.str_iff.mpr rfl) (strs_relD xs)
theorem mtS_split : MtR X "str.split" (rSM g (bm .split)) := by
  intro pins s σ H x xs v us Q I rx rs h
  obtain ⟨c, t, w, ws, E, G, r0, r, P⟩ := h
  unfold bm at P
  split at P <;> first | (rename_i e _; cases e; done) | (rename_i e; cases e; done) | skip
  · obtain ⟨y, rfl, ry⟩ := ws1 r
    rename_i ch _
    cases wstr ry
    split at P
    · rename_i z
      split at P
      · rename_i hl
        cases wstr r0
        refine mt_split pins s σ H _ _ v us Q I rx rs ⟨toS z, toS [ch], rfl, rfl, rfl, by rw [toS_len]; exact Nat.le_trans hl lim_line, fun p hp => ?_⟩
        rw [split_toS]
        obtain ⟨st, G'⟩ := G.newZ (o := .lst (((splitL ch [] z).map toS).map V.str)) hp
        refine P.okS st G' ?_
        show RelD _ _ _ _ (.lst _) (.ref p)
        simp only [RelD]
        refine ⟨p, _, rfl, ⟨upd_same, .inr rfl⟩, ?_⟩
        exact strs_relD _
      · exact P.elim
    · exact P.elim
  · exact P.elim
/-! ### subscripts -/
theorem nth_ok {α : Type} {xs : List α} {i : Int} {w : α} (h : nth xs i = some w) : ∃ k, ixN xs.length i = some k ∧ xs[k]? = some w := by
  unfold nth at h
  split at h
  · rename_i k hk
    exact ⟨k, idx_ok hk, h⟩
  · cases h
theorem ixS (hK : X.K = g.K) : IxR X (rS2 g subs) := by
  intro value slice pins s σ H x y v u Q I rx ry h hs
  obtain ⟨c, t, w1, w2, E, G, r1, r2, P⟩ := h
  unfold subs at P
  split at P
  · rename_i z k
    cases wstr r1
    cases wint r2
    split at P
    · rename_i hl
      split at P
      · rename_i ch hn
        obtain ⟨j, h1, h2⟩ := nth_ok hn
        refine ix_str value slice pins s σ H _ _ v u Q I rx ry ⟨toS z, k, ch.toNat, rfl, rfl, by rw [toS_len]; exact Nat.le_trans hl lim_line, ?_, P.ok G (str_w _)⟩ hs
        unfold atI
        rw [toS_list, List.length_map, h1]
        show (z.map Char.toNat)[j]? = _
        rw [List.getElem?_map, h2]; rfl
      · exact P.elim
    · exact P.elim
  · rename_i k hno
    cases wint r2
    split at P
    · rename_i xs hi
      split at P
      · rename_i w hn
        obtain ⟨a, vs, rfl, h1, h2⟩ := items_ok G r1 hi
        obtain ⟨j, h3, h4⟩ := nth_ok hn
        obtain ⟨v', q1, q2⟩ := h2.get h4
        have e : atI vs k = some v' := by
          unfold atI
          rw [h2.length, h3]
          exact q1
        rw [← hK] at h1
        rcases h1 with h1 | h1
        · exact ix_list value slice pins s σ H _ _ v u Q I rx ry ⟨a, vs, k, v', rfl, rfl, h1, e, P.ok G q2⟩ hs
        · exact ix_tup value slice pins s σ H _ _ v u Q I rx ry ⟨a, vs, k, v', rfl, rfl, h1, e, P.ok G q2⟩ hs
      · exact P.elim
    · exact P.elim
  · exact P.elim
end
end MP
end

/-! text MPG -/
section
set_option Elab.async false
set_option linter.all false
set_option maxRecDepth 100000
set_option maxHeartbeats 4000000
/-! MP, part G: what a def promises; calls. -/
namespace MP
open PySem L2 PySem.Spec
open PyProof.Rows hiding St

/-! ### objects that are nobody's -/
section
variable {g : Gx} {c c' : Cf} {t t' : Stt} {H H' : Hp}
/-- H' differs from H at D alone, which is none of ours -/
structure Irr (c : Cf) (H H' : Hp) (D : Addr) : Prop where
  same : ∀ a, a ≠ D → H' a = H a
  nt : ∀ vs, ¬ Rd H D (.tup vs)
  nρ : D ∉ c.ρ
  nl : D ∉ c.l
  nz : ¬ c.Z D
theorem Irr.mon {D : Addr} (i : Irr c H H' D) : Mon c.ρ c.Z H c.ρ c.Z H' := ⟨fun _ _ h => h, fun _ h => h, fun a h => i.same a fun e => i.nz (e ▸ h), fun a vs h => by
  have ne : a ≠ D := fun e => i.nt vs (e ▸ h)
  rcases h with h | ⟨o, h⟩
  · exact .inl ((i.same a ne).trans h)
  · exact .inr ⟨o, (i.same a ne).trans h⟩⟩
theorem Good.irr (G : Good g.toGv c t H) {D : Addr} (i : Irr c H H' D) : Good g.toGv c t H' :=
  ⟨G.lρ, G.ll, G.nd, fun j s a e1 e2 => (G.sc j s a e1 e2).mon i.mon (i.same a fun e => i.nρ (e ▸ List.mem_of_getElem? e2)),
    fun j s a e1 e2 => (G.lc j s a e1 e2).mon i.mon (fun _ _ h => h) (fun vs e => (i.same a fun q => i.nl (q ▸ List.mem_of_getElem? e2)).trans e) fun z => z, G.zρ,
    fun a h => by rw [i.same a fun e => i.nz (e ▸ h)]; exact G.zh a h⟩
theorem WRel.irr {D : Addr} (i : Irr c H H' D) {w : W} {v : V} (h : WRel g.toGv c H w v) : WRel g.toGv c H' w v := by
  cases w with
  | d x => exact RelD.mon i.mon h
  | loc n => exact h
theorem WRels.irr {D : Addr} (i : Irr c H H' D) : ∀ {ws : List W} {vs : List V}, WRels g.toGv c H ws vs → WRels g.toGv c H' ws vs
  | [], _, h => h
  | _ :: _, _, ⟨v, vr, e, h1, h2⟩ => ⟨v, vr, e, WRel.irr i h1, WRels.irr i h2⟩
theorem SRel.irr {D : Addr} (i : Irr c H H' D) {σ : Sg} {σV : St} (h : SRel g c H σ σV) : SRel g c H' σ σV := ⟨h.1, fun j w e => by
  obtain ⟨v, e1, r⟩ := h.2 j w e
  exact ⟨v, e1, r.irr i⟩⟩
/-- seen from a start at which D was not -/
theorem Step.irr {c0 : Cf} {H0 : Hp} (st : Step c0 H0 c H) {D : Addr} (h0 : H0 D = none) (i : Irr c H H' D) : Step c0 H0 c H' := by
  have nz0 : ¬ c0.Z D := fun h => i.nz (st.z D h)
  refine ⟨st.ρ, st.l, st.z, fun a h => ?_, fun a o e n1 n2 => ?_, fun a h => ?_, st.nρ, st.nl, st.nz⟩
  · rw [i.same a fun e => nz0 (e ▸ h)]; exact st.zk a h
  · rw [i.same a fun q => by rw [q, h0] at e; cases e]; exact st.fr a o e n1 n2
  · by_cases q : a = D
    · rw [q]; exact h0
    · rw [i.same a q] at h; exact st.nn a h

/-! ### a call -/
theorem Good.drop (G : Good g.toGv c t H) : Good g.toGv ⟨c.ρ, [], c.Z⟩ ⟨[], t.S⟩ H := by
  refine ⟨G.lρ, rfl, by simpa using (List.nodup_append.mp G.nd).1, fun i s a e1 e2 => ?_, fun i s a e1 e2 => by simp at e1, G.zρ, G.zh⟩
  have q := G.sc i s a e1 e2
  cases s with
  | lst xs => exact q
  | ins C fs =>
    obtain ⟨dx, fvs, h1, h2⟩ := q
    refine ⟨dx, fvs, h1, ?_⟩
    exact FRel.mon (c := c) (c' := ⟨c.ρ, [], c.Z⟩) ⟨fun _ _ h => h, fun _ h => h, fun _ _ => rfl, fun _ _ h => h⟩ h2
theorem lift {ρ' : List Addr} {Z' : Addr → Prop} {S : List SC} (G : Good g.toGv c t H) (st : Step ⟨c.ρ, [], c.Z⟩ H ⟨ρ', [], Z'⟩ H') (G' : Good g.toGv ⟨ρ', [], Z'⟩ ⟨[], S⟩ H') :
    Step c H ⟨ρ', c.l, Z'⟩ H' ∧ Good g.toGv ⟨ρ', c.l, Z'⟩ ⟨t.L, S⟩ H' := by
  have lsome : ∀ a, a ∈ c.l → H' a = H a := fun a h => by
    obtain ⟨vs, e⟩ := G.l_obj h
    rw [e]
    exact st.fr a _ e (fun q => G.ρl q h) (by simp)
  have m := st.mon G.drop
  refine ⟨⟨st.ρ, fun _ _ h => h, st.z, st.zk, fun a o e n1 n2 => st.fr a o e n1 (by simp), st.nn, st.nρ, fun a h => .inl h, fun a h => ?_⟩, G'.lρ, G.ll, ?_, fun i s a e1 e2 => ?_, fun i s a e1 e2 => ?_, G'.zρ, G'.zh⟩
  · rcases st.nz a h with q | q | q
    · exact .inl q
    · simp at q
    · exact .inr (.inr q)
  · rw [List.nodup_append]
    refine ⟨by simpa using G'.nd, (List.nodup_append.mp G.nd).2.1, fun a ha b hb e => ?_⟩
    subst e
    rcases st.nρ a ha with q | q
    · exact G.ρl q hb
    · obtain ⟨vs, e⟩ := G.l_obj hb
      rw [q] at e; cases e
  · have q := G'.sc i s a e1 e2
    cases s with
    | lst xs => exact q
    | ins C fs =>
      obtain ⟨dx, fvs, h1, h2⟩ := q
      refine ⟨dx, fvs, h1, ?_⟩
      exact FRel.mon (c := ⟨ρ', [], Z'⟩) (c' := ⟨ρ', c.l, Z'⟩) ⟨fun _ _ h => h, fun _ h => h, fun _ _ => rfl, fun _ _ h => h⟩ h2
  · have mem := List.mem_of_getElem? e2
    refine LCRel.mon (c := c) (c' := ⟨ρ', c.l, Z'⟩) m (fun _ _ h => h) (G.lc i s a e1 e2) (fun vs e => (lsome a mem).trans e) fun z => ?_
    rcases st.nz a z with q | q | q
    · exact q
    · simp at q
    · obtain ⟨vs, e⟩ := G.l_obj mem
      rw [q] at e; cases e
/-- what is wanted behind a def -/
def PostF (g : Gx) (c0 : Cf) (H0 : Hp) (r : RF) (Q : VK) (E : XK) : Prop := match r with
  | .ok d S => ∀ ρ' Z' H' v, Step c0 H0 ⟨ρ', [], Z'⟩ H' → Good g.toGv ⟨ρ', [], Z'⟩ ⟨[], S⟩ H' → RelD g.toGv ρ' Z' H' d v → Q v H'
  | .exc x S => ∀ ρ' Z' H' cls dx, Step c0 H0 ⟨ρ', [], Z'⟩ H' → Good g.toGv ⟨ρ', [], Z'⟩ ⟨[], S⟩ H' → XRel g.toGv g.xa g.fx ⟨ρ', [], Z'⟩ H' x cls dx → E cls dx H'
  | .stk => False
/-- a def's promise -/
def spF (g : Gx) (Φ : Fns) (np f : Nat) : Sp := fun vs H Q E => vs.length = np ∧ ∃ ρ Z S ds, Good g.toGv ⟨ρ, [], Z⟩ ⟨[], S⟩ H ∧ RelDs g.toGv ρ Z H ds vs ∧ PostF g ⟨ρ, [], Z⟩ H (Φ f ds S) Q E
theorem XRel.lift {ρ' : List Addr} {l : List Addr} {Z' : Addr → Prop} {H' : Hp} {x : XD} {cls : Value} {dx : Option Addr} (h : XRel g.toGv g.xa g.fx ⟨ρ', [], Z'⟩ H' x cls dx) (n : ∀ a, dx = some a → a ∉ l) : XRel g.toGv g.xa g.fx ⟨ρ', l, Z'⟩ H' x cls dx := by
  obtain ⟨h1, h2⟩ := h
  refine ⟨h1, ?_⟩
  cases e : x.arg with
  | none => rw [e] at h2; exact h2
  | some d =>
    rw [e] at h2
    obtain ⟨a, v, q1, q2, q3, q4, q5, q6⟩ := h2
    exact ⟨a, v, q1, q2, q3, q4, n a q1, q6⟩
/-- an own dict lies in no list's place -/
theorem XRel.off {ρ' : List Addr} {Z' : Addr → Prop} {x : XD} {cls : Value} {dx : Option Addr} {S : List SC} (G : Good g.toGv c t H) (st : Step ⟨c.ρ, [], c.Z⟩ H ⟨ρ', [], Z'⟩ H') (h : XRel g.toGv g.xa g.fx ⟨ρ', [], Z'⟩ H' x cls dx) : ∀ a, dx = some a → a ∉ c.l := by
  intro a e mem
  obtain ⟨vs, e1⟩ := G.l_obj mem
  have e2 := st.fr a _ e1 (fun q => G.ρl q mem) (by simp)
  obtain ⟨h1, h2⟩ := h
  cases ex : x.arg with
  | none => rw [ex] at h2; rw [h2] at e; cases e
  | some d =>
    rw [ex] at h2
    obtain ⟨a', v, q1, q2, _⟩ := h2
    rw [e] at q1
    cases q1
    rw [e2] at q2
    cases q2
theorem call_ok {Φ : Fns} {f np : Nat} {ds : List D} {vs : List V} {Q : VK} {E : XK} (G : Good g.toGv c t H) (r : RelDs g.toGv c.ρ c.Z H ds vs) (hl : vs.length = np) (P : Post g c H (wR g) (fin t (Φ f ds t.S)) Q E) : spF g Φ np f vs H Q E := by
  refine ⟨hl, c.ρ, c.Z, t.S, ds, G.drop, r, ?_⟩
  unfold fin at P
  cases e : Φ f ds t.S with
  | ok d S =>
    rw [e] at P
    intro ρ' Z' H' v st G' rl
    obtain ⟨st2, G2⟩ := lift G st G'
    exact P _ _ v st2 G2 rl
  | exc x S =>
    rw [e] at P
    intro ρ' Z' H' cls dx st G' xr
    obtain ⟨st2, G2⟩ := lift G st G'
    exact P _ _ cls dx st2 G2 (xr.lift (XRel.off (S := S) G st xr))
  | stk => rw [e] at P; exact P
end

/-! ### contracts that know of no repr under way -/
structure FnG (P : Program) (w : World) (K : PySem.W.Frag) (mg : Str → Option Value) (base : Heap) (CX : CXT) (k : Nat) (f : Addr) (fd : FuncData) (ps : List Str) (sp : Sp) : Prop where
  len : ∀ vs H Q E, sp vs H Q E → vs.length = ps.length
  run : ∀ (A : Around) (outer : List Env) (s : Shared) (H : Hp) (args : Args) (us : List Value) (vs : List V) (Q : VK) (E : XK), Room k A → A.guards = some [] → Env0 P w K mg base A outer s H → BindsTo s fd args (ps.zip us) → Vals vs us → sp vs H Q E →
    codeAny (model P w) A (.call (.ref f) args) (CR CX outer P w H s Q E) s
theorem FnG.mono {P : Program} {w : World} {K : PySem.W.Frag} {mg : Str → Option Value} {base : Heap} {CX : CXT} {j k : Nat} {f : Addr} {fd : FuncData} {ps : List Str} {sp : Sp} (F : FnG P w K mg base CX j f fd ps sp) (h : j ≤ k) :
    FnG P w K mg base CX k f fd ps sp := ⟨F.len, fun A outer s H args us vs Q E hr => F.run A outer s H args us vs Q E (hr.mono h)⟩
theorem make_guards {A : Around} {C : Addr} {us : List Value} {kw : List (Str × Value)} (h : A.guards = some []) : (A.under (.builtin "type.__call__" ⟨.ref C :: us, kw⟩)).guards = some [] := by
  first | exact h | simp [Around.under, Code.weight, Code.isCreation, Code.isGuard, Code.isCaller, Code.frames, Code.isFrame, guardIds, h]
section
variable {X : Cx} {CX : CXT} {k : Nat} {f C : Addr} {fd : FuncData} {ps : List Str} {sp : Sp} {dvs : List V} {ds : List Value} {E : St → XK} {x m : Str} {p pos apos : Pos} {e o : Expr} {es : List Expr} {ta : TE} {t : TA} {i : Nat}
theorem run_fnG {pins : List (Addr × Obj)} {σ : St} {H : Hp} {s : Shared} {Q : VK} {us : List Value} {vs : List V} (F : FnG X.prog X.w X.K X.mg X.base CX k f fd ps sp) (hr : Room k X.A) (hgd : X.A.guards = some []) (hb : Binds X.K fd ps ds) (hd : Vals dvs ds) (hx : PassesAt CX X σ (E σ))
    (I : L2.Inv X pins σ H s) (r : Vals vs us) (h : sp (vs ++ dvs) H Q (E σ)) : wpAny (model X.prog X.w) X.A (call (.ref f) us) (EP X pins σ Q) X.xe s := by
  have r2 : Vals (vs ++ dvs) (us ++ ds) := r.append hd
  have hl : (us ++ ds).length = ps.length := by rw [← r2.length]; exact F.len _ _ _ _ h
  refine wpAny_call (codeAny_mono (F.run X.A X.stack s H ⟨us, []⟩ (us ++ ds) (vs ++ dvs) Q (E σ) hr hgd I.env0 (hb s us I.kIn hl) r2 h) fun r s' hq => ?_)
  cases r with
  | error e => exact hx pins H s e s' I hq
  | ok fl =>
    cases fl with
    | ret u => exact I.after hq
    | next => exact False.elim hq
    | brk => exact False.elim hq
    | cont => exact False.elim hq
theorem run_makeG {pins : List (Addr × Obj)} {σ : St} {H : Hp} {s : Shared} {Q : VK} {us : List Value} {vs : List V} (M : Mk X.K C f) (F : FnG X.prog X.w X.K X.mg X.base CX k f fd ps sp) (hr : Room (k + 1) X.A) (hgd : X.A.guards = some []) (hb : Binds X.K fd ps ds) (hd : Vals dvs ds)
    (hx : ∀ σ, PassesAt CX X σ (E σ)) (I : L2.Inv X pins σ H s) (r : Vals vs us)
    (h : ∀ x dx, H x = none → H dx = none → dx ≠ x → sp (.ref x :: (vs ++ dvs)) (upd (upd H dx (.own x)) x (.ins C dx [])) (fun v H2 => v = .non ∧ Q (.ref x) H2) (E σ)) :
    wpAny (model X.prog X.w) X.A (call (.ref C) us) (EP X pins σ Q) X.xe s := by
  have hq := h (s.heap.objs.size + 1) s.heap.objs.size (I.hok.fresh (Nat.le_succ _)) (I.hok.fresh (Nat.le_refl _)) (Nat.ne_of_lt (Nat.lt_succ_self _))
  have I2 := L2.Inv.made (C := C) I
  have r2 : Vals (V.ref (s.heap.objs.size + 1) :: (vs ++ dvs)) (Value.ref (s.heap.objs.size + 1) :: (us ++ ds)) := .cons rfl (r.append hd)
  have hl : (Value.ref (s.heap.objs.size + 1) :: us ++ ds).length = ps.length := by
    have e := r2.length
    rw [F.len _ _ _ _ hq] at e
    exact e.symm
  refine wpAny_call (make_map (f := f) I.kIn M.makes M.init (beq_iff_eq.mp M.fn) (codeAny_mono (F.run _ X.stack _ _ ⟨Value.ref (s.heap.objs.size + 1) :: us, []⟩ (Value.ref (s.heap.objs.size + 1) :: (us ++ ds)) _ _ (E σ) (hr.make C us []) (make_guards hgd)
    (I2.env0.make C us []) (hb _ (Value.ref (s.heap.objs.size + 1) :: us) I2.kIn hl) r2 hq) fun r s' hq' => ?_))
  cases r with
  | error e => exact hx σ pins _ _ e s' I2 hq'
  | ok fl =>
    cases fl with
    | ret u =>
      obtain ⟨v, H', I3, rv, ev, q3⟩ := I2.after hq'
      subst ev
      exact ⟨rv, ⟨V.ref (s.heap.objs.size + 1), H', I3, rfl, q3⟩⟩
    | next => exact False.elim hq'
    | brk => exact False.elim hq'
    | cont => exact False.elim hq'
/-- readings of calls, what is raised wished at the slots -/
def tCallG (sp : Sp) (dvs : List V) (E : St → XK) (t : TA) : TE := fun σ H Q => t σ H fun vs H1 => sp (vs ++ dvs) H1 Q (E σ)
def tMethG (C : Addr) (m : Str) (sp : Sp) (dvs : List V) (E : St → XK) (ta : TE) (t : TA) : TE := fun σ H Q => ta σ H fun x H1 => ∃ a dx fs, x = .ref a ∧ H1 a = some (.ins C dx fs) ∧ fs.lookup m = none ∧
  t σ H1 fun vs H2 => sp (x :: (vs ++ dvs)) H2 Q (E σ)
def tMakeG (C : Addr) (sp : Sp) (dvs : List V) (E : St → XK) (t : TA) : TE := fun σ H Q => t σ H fun vs H1 => ∀ x dx, H1 x = none → H1 dx = none → dx ≠ x →
  sp (.ref x :: (vs ++ dvs)) (upd (upd H1 dx (.own x)) x (.ins C dx [])) (fun v H2 => v = .non ∧ Q (.ref x) H2) (E σ)
theorem pe_callG (F : FnG X.prog X.w X.K X.mg X.base CX k f fd ps sp) (hr : Room k X.A) (hgd : X.A.guards = some []) (hg : Gl X x) (hm : X.mg x = some (.ref f)) (hk : PySem.W.keepIn X.K (.ref f) = true) (hb : Binds X.K fd ps ds) (hd : Vals dvs ds) (hx : ∀ σ, PassesAt CX X σ (E σ))
    (ha : PA X (e :: es) t) (hdb : (x == ("__debug__" : Str)) = false) (he : starEach (e :: es) X.env = (false, eval e X.env) :: starEach es X.env) (hpl : (backTo pos (starEach es X.env)).any (·.1) = false) :
    PE X (.Call (.Name x p) (e :: es) [] pos) (tCallG sp dvs E t) := by
  refine ⟨fun pins s σ H Q I h => ?_⟩
  refine wpAny_Call_Name_kw (ld_glob I hg hm ?_ hdb)
  refine PySem.W.callWith_K (h₀ := X.base) I.ok.mod.kin hk (thn (ha.run pos pins s σ H _ I h) fun us s1 ⟨vs, H1, I1, r, q⟩ => ⟨I1.kIn, ?_⟩) he hpl
  exact run_fnG F hr hgd hb hd (hx σ) I1 r q
theorem pe_call0G (F : FnG X.prog X.w X.K X.mg X.base CX k f fd ps sp) (hr : Room k X.A) (hgd : X.A.guards = some []) (hg : Gl X x) (hm : X.mg x = some (.ref f)) (hk : PySem.W.keepIn X.K (.ref f) = true) (hb : Binds X.K fd ps ds) (hd : Vals dvs ds) (hx : ∀ σ, PassesAt CX X σ (E σ))
    (hdb : (x == ("__debug__" : Str)) = false) : PE X (.Call (.Name x p) [] [] pos) (tCallG sp dvs E tNil) := by
  refine ⟨fun pins s σ H Q I h => ?_⟩
  refine wpAny_Call_Name_kw (ld_glob I hg hm ?_ hdb)
  exact PySem.W.callWith_K0 I.kIn hk (run_fnG (us := []) F hr hgd hb hd (hx σ) I .nil h)
/-- of a def that a slot holds -/
def tCallV (i : Nat) (sp : Addr → Sp → Prop) (E : St → XK) (t : TA) : TE := fun σ H Q => ∃ f s, σ[i]? = some (some (.ref f)) ∧ sp f s ∧ t σ H fun vs H1 => s vs H1 Q (E σ)
theorem pe_callV {S : Addr → Sp → Prop} (F : ∀ f sp, S f sp → ∃ (fd : FuncData) (ps : List Str), FnG X.prog X.w X.K X.mg X.base CX k f fd ps sp ∧ PySem.W.keepIn X.K (.ref f) = true ∧ Binds X.K fd ps []) (hr : Room k X.A) (hgd : X.A.guards = some []) (hN : X.N[i]? = some x) (hv : Vis X.env.scope x) (hx : ∀ σ, PassesAt CX X σ (E σ)) (ha : PA X (e :: es) t)
    (hdb : (x == ("__debug__" : Str)) = false) (hcd : (x == ("__classdict__" : Str)) = false)
    (he : starEach (e :: es) X.env = (false, eval e X.env) :: starEach es X.env) (hpl : (backTo pos (starEach es X.env)).any (·.1) = false) : PE X (.Call (.Name x p) (e :: es) [] pos) (tCallV i S E t) := by
  refine ⟨fun pins s σ H Q I h => ?_⟩
  obtain ⟨f, sp, hs, hS, ht⟩ := h
  obtain ⟨fd, ps, F, hk, hb⟩ := F f sp hS
  refine wpAny_Call_Name_kw (thn ((pe_var (pos := p) hN hv hdb hcd).run pins s σ H (fun v H1 => v = .ref f ∧ H1 = H) I ⟨.ref f, hs, rfl, rfl⟩) fun u s1 ⟨v, H1, I1, r1, q1⟩ => ?_)
  obtain ⟨rfl, rfl⟩ := q1
  cases r1
  refine PySem.W.callWith_K (h₀ := X.base) I.ok.mod.kin hk (thn (ha.run pos pins s1 σ _ _ I1 ht) fun us s2 ⟨vs, H2, I2, r, q⟩ => ⟨I2.kIn, ?_⟩) he hpl
  exact run_fnG (dvs := []) F hr hgd hb .nil (hx σ) I2 r (by rw [List.append_nil]; exact q)
theorem pe_methG {pl : Sem Bool} (he : PE X o ta) (c : Cls X.K C) (hm : Meth X.K C m f) (F : FnG X.prog X.w X.K X.mg X.base CX k f fd ps sp) (hr : Room k X.A) (hgd : X.A.guards = some []) (hb : Binds X.K fd ps ds) (hd : Vals dvs ds) (hx : ∀ σ, PassesAt CX X σ (E σ)) (ha : PA X (e :: es) t)
    (hst : starEach (e :: es) X.env = (false, eval e X.env) :: starEach es X.env) (hpl : (backTo pos (starEach es X.env)).any (·.1) = false)
    (ht : eval (.Call (.Attribute o m apos) (e :: es) [] pos) X.env = (do
      let ov ← eval o X.env
      standAt apos.atName
      let (f, first) ← holding [ov] (getMethod ov m pl)
      callWith pos f first (backTo pos (starEach (e :: es) X.env)) (backToKw pos (keywordEach [] X.env)))) :
    PE X (.Call (.Attribute o m apos) (e :: es) [] pos) (tMethG C m sp dvs E ta t) := by
  refine ⟨fun pins s σ H Q I h => ?_⟩
  refine PySem.W.methodCall_KW (pl := pl) (thn (he.run pins s σ H _ I h) fun u s1 ⟨x, H1, I1, rx, a, dx, fs, ex, ea, l, q⟩ => ?_) ht
  subst ex
  obtain rfl : u = Value.ref a := rx
  refine getmeth_ok I1 ea c hm l ?_
  refine PySem.W.callWith_K (first := [.ref a]) (h₀ := X.base) I.ok.mod.kin hm.kp (thn (ha.run pos pins s1 σ H1 _ I1 q) fun us s2 ⟨vs, H2, I2, r, q2⟩ => ⟨I2.kIn, ?_⟩) hst hpl
  exact run_fnG (us := .ref a :: us) (vs := .ref a :: vs) F hr hgd hb hd (hx σ) I2 (.cons rfl r) q2
theorem pe_meth0G {pl : Sem Bool} (he : PE X o ta) (c : Cls X.K C) (hm : Meth X.K C m f) (F : FnG X.prog X.w X.K X.mg X.base CX k f fd ps sp) (hr : Room k X.A) (hgd : X.A.guards = some []) (hb : Binds X.K fd ps ds) (hd : Vals dvs ds) (hx : ∀ σ, PassesAt CX X σ (E σ))
    (ht : eval (.Call (.Attribute o m apos) [] [] pos) X.env = (do
      let ov ← eval o X.env
      standAt apos.atName
      let (f, first) ← holding [ov] (getMethod ov m pl)
      callWith pos f first (backTo pos (starEach [] X.env)) (backToKw pos (keywordEach [] X.env)))) :
    PE X (.Call (.Attribute o m apos) [] [] pos) (tMethG C m sp dvs E ta tNil) := by
  refine ⟨fun pins s σ H Q I h => ?_⟩
  refine PySem.W.methodCall_KW (pl := pl) (thn (he.run pins s σ H _ I h) fun u s1 ⟨x, H1, I1, rx, a, dx, fs, ex, ea, l, q⟩ => ?_) ht
  subst ex
  obtain rfl : u = Value.ref a := rx
  refine getmeth_ok I1 ea c hm l ?_
  exact PySem.W.callWith_K0 (first := [.ref a]) I1.kIn hm.kp (run_fnG (us := [.ref a]) (vs := [.ref a]) F hr hgd hb hd (hx σ) I1 (.cons rfl .nil) q)
theorem pe_makeG (M : Mk X.K C f) (F : FnG X.prog X.w X.K X.mg X.base CX k f fd ps sp) (hr : Room (k + 1) X.A) (hgd : X.A.guards = some []) (hg : Gl X x) (hm : X.mg x = some (.ref C)) (hb : Binds X.K fd ps ds) (hd : Vals dvs ds) (hx : ∀ σ, PassesAt CX X σ (E σ))
    (ha : PA X (e :: es) t) (hdb : (x == ("__debug__" : Str)) = false) (he : starEach (e :: es) X.env = (false, eval e X.env) :: starEach es X.env) (hpl : (backTo pos (starEach es X.env)).any (·.1) = false) :
    PE X (.Call (.Name x p) (e :: es) [] pos) (tMakeG C sp dvs E t) := by
  refine ⟨fun pins s σ H Q I h => ?_⟩
  refine wpAny_Call_Name_kw (ld_glob I hg hm ?_ hdb)
  refine PySem.W.callWith_K (h₀ := X.base) I.ok.mod.kin M.kp (thn (ha.run pos pins s σ H _ I h) fun us s1 ⟨vs, H1, I1, r, q⟩ => ⟨I1.kIn, ?_⟩) he hpl
  exact run_makeG M F hr hgd hb hd hx I1 r q
theorem pe_make0G (M : Mk X.K C f) (F : FnG X.prog X.w X.K X.mg X.base CX k f fd ps sp) (hr : Room (k + 1) X.A) (hgd : X.A.guards = some []) (hg : Gl X x) (hm : X.mg x = some (.ref C)) (hb : Binds X.K fd ps ds) (hd : Vals dvs ds) (hx : ∀ σ, PassesAt CX X σ (E σ))
    (hdb : (x == ("__debug__" : Str)) = false) : PE X (.Call (.Name x p) [] [] pos) (tMakeG C sp dvs E tNil) := by
  refine ⟨fun pins s σ H Q I h => ?_⟩
  refine wpAny_Call_Name_kw (ld_glob I hg hm ?_ hdb)
  exact PySem.W.callWith_K0 I.kIn M.kp (run_makeG (us := []) M F hr hgd hb hd hx I .nil h)
end
/-- THE RULE: a def by its body -/
theorem fn_ofG {CX : CXT} {P : Program} {w : World} {K : PySem.W.Frag} {mg : Str → Option Value} {base : Heap} {k : Nat} {x qual : Str} {params : Arguments} {body : List Stmt} {scope : Scope} {dvs : List V} {kws : List (Str × V)} {f : Addr} {fd : FuncData}
    {N ps : List Str} {sp : Sp} (F : FunD K x qual params body scope dvs kws f fd) (S : FnScope N ps scope)
    (len : ∀ vs H Q E, sp vs H Q E → vs.length = ps.length)
    (hbody : ∀ (cdv : Value) (A : Around) (outer : List Env) (s : Shared) (H : Hp) (vs : List V) (Q : VK) (E : XK), Room k (A.deeper (envOfC qual scope s.heap.objs.size f cdv)) → (A.deeper (envOfC qual scope s.heap.objs.size f cdv)).guards = some [] → sp vs H Q E →
      ∃ t, PSs (cxOf CX P w K mg base N qual scope f cdv A outer s H E) body t ∧ t { nx := fun _ H' => Q .non H', rt := Q } (start N vs) H) :
    FnG P w K mg base CX (k + 1) f fd ps sp := by
  obtain ⟨oc, od, dV, kV, doc, pm, an, cdv, ct, osl, rfl, lk, hcd, _, _⟩ := F.ex
  refine ⟨len, fun A outer s H args us vs Q E hr hgd e0 hb r hsp => ?_⟩
  have hl := len _ _ _ _ hsp
  have KX : K.In s.heap := e0.mod.kin.keeps fun b o e => (e0.bs b o e).1
  have lim : s.heap.NoLimit := e0.mod.nolimit.keeps fun b o e => (e0.bs b o e).1
  have hkind : ∀ y ∈ ps.zip us, scope.names.lookup y.1 = some .local ∨ (scope.names.lookup y.1 = some .cell ∧ ((cellsFrom (s.heap.objs.size + 1) scope.names []).lookup y.1).isSome = true) := fun ⟨n, v⟩ hy => by
    rcases S.par n (List.of_mem_zip hy).1 with q | q
    · exact .inl q
    · exact .inr ⟨q, PySem.W.cellsFrom_some _ _ _ (.inl q)⟩
  refine codeAny_call_function hr.depth (KX _ _ lk) rfl S.co S.gen rfl (PySem.W.codeRec_of KX hcd) (hb _ _ _ _ ?_)
  refine wpAny_newFunctionEnv_cells S.kind hkind fun env he s1 x => ?_
  subst he
  refine ⟨lim.keeps x.toInCall.keep, codeAny_func ?_⟩
  obtain ⟨t, ht, hq⟩ := hbody cdv A outer s H vs Q E (hr.deeper _) hgd hsp
  have I : L2.Inv (cxOf CX P w K mg base N qual scope f cdv A outer s H E) [] (start N vs) H s1 := inv_start S hr.hd e0 hl r x
  refine wpAny_mono (ht.run [] s1 (start N vs) H _ I hq) (fun fl s' hs => ?_) fun e s' hs => hs
  have fin : ∀ {σ' : St} {H' : Hp} {v : V} {u : Value}, L2.Inv (cxOf CX P w K mg base N qual scope f cdv A outer s H E) [] σ' H' s' → RelV v u → Q v H' → CE outer P w H s Q u s' :=
    fun {σ' H' v u} J rv q => ⟨v, H', J.os, J.bare, J.base, J.hok, rv, q⟩
  cases fl with
  | ret u =>
    obtain ⟨v, σ', H', J, rv, q⟩ := hs
    exact fin J rv q
  | next =>
    obtain ⟨σ', H', J, q⟩ := hs
    exact fin (v := V.non) (u := Value.none) J rfl q
  | brk =>
    obtain ⟨_, _, _, q⟩ := hs
    exact False.elim q
  | cont =>
    obtain ⟨_, _, _, q⟩ := hs
    exact False.elim q
end MP
end

/-! text MPH -/
section
set_option Elab.async false
set_option linter.all false
set_option maxRecDepth 100000
set_option maxHeartbeats 4000000
/-! MP, part H: expressions, rule by rule. -/
namespace MP
open PySem L2 PySem.Spec
open PyProof.Rows hiding St

def bopOf : Bop → Operator
  | .add => .Add | .sub => .Sub | .mul => .Mult | .fdiv => .FloorDiv | .mod => .Mod | .pow => .Pow
def copOf : Cop → CmpOp
  | .eq => .Eq | .ne => .NotEq | .lt => .Lt | .le => .LtE | .gt => .Gt | .ge => .GtE | .isN => .Is | .notN => .IsNot | .isin => .In | .notin => .NotIn
theorem opS {X : Cx} {g : Gx} : ∀ op : Bop, OpR X (binaryOp (bopOf op)) (rS2 g (bop op))
  | .add => opS_add | .sub => opS_sub | .mul => opS_mul | .fdiv => opS_fdiv | .mod => opS_mod | .pow => opS_pow
theorem copS {X : Cx} {g : Gx} (hu : X.A.units + 64 < cLine) (hK : X.K = g.K) : ∀ op : Cop, OpR X (compareOp (copOf op)) (rS2 g (copW op))
  | .eq => opS_eq hu hK | .ne => opS_ne hu hK | .lt => opS_lt hu hK | .le => opS_le hu hK | .gt => opS_gt | .ge => opS_ge | .isN => opS_isN | .notN => opS_notN | .isin => opS_isin | .notin => opS_notin
theorem R.bind_assoc {α β γ : Type} (r : R α) (f : α → Stt → R β) (h : β → Stt → R γ) : (r.bind f).bind h = r.bind fun a t => (f a t).bind h := by
  cases r <;> rfl
theorem PE.to {X : Cx} {e : Expr} {T T' : TE} (h : PE X e T) (k : ∀ σ H Q, T' σ H Q → T σ H Q) : PE X e T' := ⟨fun pins s σ H Q I q => h.run pins s σ H Q I (k σ H Q q)⟩
theorem PT.to {X : Cx} {e : Expr} {T T' : TT} (h : PT X e T) (k : ∀ σ H Q, T' σ H Q → T σ H Q) : PT X e T' := ⟨fun pins s σ H Q I q => h.run pins s σ H Q I (k σ H Q q)⟩
theorem PA.to {X : Cx} {es : List Expr} {T T' : TA} (h : PA X es T) (k : ∀ σ H Q, T' σ H Q → T σ H Q) : PA X es T' := ⟨fun pos pins s σ H Q I q => h.run pos pins s σ H Q I (k σ H Q q)⟩

section
variable (g : Gx) (Φ : Fns) (EX : St → XK)
def TEv (e' : E) : TE := fun σ H Q => ∃ c t σ', Good g.toGv c t H ∧ SRel g c H σ' σ ∧ Post g c H (wR g) (evE Φ e' σ' t) Q (EX σ)
def TAv (es' : Es) : TA := fun σ H Q => ∃ c t σ', Good g.toGv c t H ∧ SRel g c H σ' σ ∧ Post g c H (wsR g) (evEs Φ es' σ' t) Q (EX σ)
def TTv (e' : E) : TT := fun σ H Q => ∃ c t σ', Good g.toGv c t H ∧ SRel g c H σ' σ ∧ Post g c H bR (tst Φ e' σ' t) Q (EX σ)
abbrev txR : Cf → Hp → Tx → V → Prop := fun _ _ x v => v = .str (toS x)
/-- a part of an f-string -/
def TFm (e' : E) : TE := fun σ H Q => ∃ c t σ', Good g.toGv c t H ∧ SRel g c H σ' σ ∧ Post g c H txR ((evE Φ e' σ' t).bind fun w t => fmtM w t) Q (EX σ)
end
section
variable {X : Cx} {g : Gx} {Φ : Fns} {EX : St → XK} {c : Cf} {t : Stt} {σ' : Sg} {σ : St} {H : Hp} {pos : Pos} {a b d : Expr} {a' b' d' : E} {γ δ : Type} {rel2 : Cf → Hp → γ → δ → Prop} {Q : δ → Hp → Prop}
theorem TEv.to {f : W → Stt → R γ} {Q1 : VK} (G : Good g.toGv c t H) (S : SRel g c H σ' σ) (P : Post g c H rel2 ((evE Φ a' σ' t).bind f) Q (EX σ))
    (k : ∀ w t' c' H' v, Step c H c' H' → Good g.toGv c' t' H' → SRel g c' H' σ' σ → WRel g.toGv c' H' w v → Post g c' H' rel2 (f w t') Q (EX σ) → Q1 v H') : TEv g Φ EX a' σ H Q1 :=
  ⟨c, t, σ', G, S, Post.bind P fun w t' c' H' v e st G' rl P' => k w t' c' H' v st G' (S.step st G) rl P'⟩
theorem TAv.to {es : Es} {f : List W → Stt → R γ} {Q1 : List V → Hp → Prop} (G : Good g.toGv c t H) (S : SRel g c H σ' σ) (P : Post g c H rel2 ((evEs Φ es σ' t).bind f) Q (EX σ))
    (k : ∀ w t' c' H' v, evEs Φ es σ' t = .ok w t' → Step c H c' H' → Good g.toGv c' t' H' → SRel g c' H' σ' σ → WRels g.toGv c' H' w v → Post g c' H' rel2 (f w t') Q (EX σ) → Q1 v H') : TAv g Φ EX es σ H Q1 :=
  ⟨c, t, σ', G, S, Post.bind P fun w t' c' H' v e st G' rl P' => k w t' c' H' v e st G' (S.step st G) rl P'⟩
theorem TTv.to {f : Bool → Stt → R γ} {Q1 : Bool → Hp → Prop} (G : Good g.toGv c t H) (S : SRel g c H σ' σ) (P : Post g c H rel2 ((tst Φ a' σ' t).bind f) Q (EX σ))
    (k : ∀ w t' c' H', Step c H c' H' → Good g.toGv c' t' H' → SRel g c' H' σ' σ → Post g c' H' rel2 (f w t') Q (EX σ) → Q1 w H') : TTv g Φ EX a' σ H Q1 :=
  ⟨c, t, σ', G, S, Post.bind P fun w t' c' H' v e st G' rl P' => by
    have rl : w = v := rl
    subst rl
    exact k w t' c' H' st G' (S.step st G) P'⟩
theorem truth_bind {w : W} {v : V} {f : Bool → Stt → R γ} {E : XK} (G : Good g.toGv c t H) (r : WRel g.toGv c H w v) (P : Post g c H rel2 ((truth w t).bind f) Q E) : ∃ k, truth w t = .ok k t ∧ TruV g.K v H k ∧ Post g c H rel2 (f k t) Q E := by
  cases e : truth w t with
  | ok k t' =>
    rw [e] at P
    obtain ⟨rfl, h⟩ := truth_ok G r e
    exact ⟨k, rfl, h, P⟩
  | exc x t' => exact absurd e truth_noexc
  | stk => rw [e] at P; exact P.elim
/-! ### leaves -/
theorem ok_var {i : Nat} {x : Str} (hN : X.N[i]? = some x) (hv : Vis X.env.scope x) (hd : (x == ("__debug__" : Str)) = false) (hcd : (x == ("__classdict__" : Str)) = false) : PE X (.Name x pos) (TEv g Φ EX (.var i)) :=
  PE.to (pe_var hN hv hd hcd) fun σ H Q ⟨c, t, σ', G, S, P⟩ => by
    simp only [evE] at P
    split at P
    · rename_i w hw
      obtain ⟨v, e, r⟩ := S.2 i w hw
      exact ⟨v, e, P.ok G r⟩
    · exact P.elim
theorem ok_con {e : Expr} {v : V} {d : D} (h : PE X e (tC v)) (r : ∀ ρ Z H, RelD g.toGv ρ Z H d v) : PE X e (TEv g Φ EX (.con d)) :=
  PE.to h fun σ H Q ⟨c, t, σ', G, S, P⟩ => by
    simp only [evE] at P
    exact P.ok G (show WRel _ _ _ (.d d) v from r _ _ _)
/-! ### operators -/
theorem ok_bin (op : Bop) (ha : PE X a (TEv g Φ EX a')) (hb : PE X b (TEv g Φ EX b')) : PE X (.BinOp a (bopOf op) b pos) (TEv g Φ EX (.bin op a' b')) :=
  PE.to (pe_op (opS op) ha hb) fun σ H Q ⟨c, t, σ', G, S, P⟩ => by
    simp only [evE] at P
    exact TEv.to G S P fun w t1 c1 H1 v st1 G1 S1 r1 P1 => TEv.to G1 S1 P1 fun u t2 c2 H2 y st2 G2 S2 r2 P2 => ⟨c2, t2, w, u, _, G2, r1.step st2 G1, r2, P2⟩
theorem ok_cmp (op : Cop) (hu : X.A.units + 64 < cLine) (hK : X.K = g.K) (ha : PE X a (TEv g Φ EX a')) (hb : PE X b (TEv g Φ EX b')) (hm : behindInMarks (copOf op) b = false) : PE X (.Compare a [copOf op] [b] pos) (TEv g Φ EX (.cmp op a' b')) :=
  PE.to (pe_cmpR (copS hu hK op) ha hb hm) fun σ H Q ⟨c, t, σ', G, S, P⟩ => by
    simp only [evE] at P
    exact TEv.to G S P fun w t1 c1 H1 v st1 G1 S1 r1 P1 => TEv.to G1 S1 P1 fun u t2 c2 H2 y st2 G2 S2 r2 P2 => ⟨c2, t2, w, u, _, G2, r1.step st2 G1, r2, P2⟩
theorem cop_st {op : Cop} {x y : W} {k : Bool} {t' : Stt} (h : cop op x y t = .ok k t') : t' = t := by
  unfold cop at h
  split at h
  · split at h
    · cases h; rfl
    · cases h
  · cases h
theorem cop_noexc {op : Cop} {x y : W} {z : XD} {t' : Stt} : cop op x y t ≠ .exc z t' := by
  unfold cop
  intro h
  split at h
  · split at h <;> cases h
  · cases h
theorem ok_chain (op op' : Cop) (hu : X.A.units + 64 < cLine) (hK : X.K = g.K) (ha : PE X a (TEv g Φ EX a')) (hb : PE X b (TEv g Φ EX b')) (hd : PE X d (TEv g Φ EX d')) (hm : lastMarks [copOf op, copOf op'] [b, d] = false) :
    PE X (.Compare a [copOf op, copOf op'] [b, d] pos) (TEv g Φ EX (.chain op op' a' b' d')) :=
  PE.to (pe_chain (copS hu hK op) (copS hu hK op') ha hb hd hm) fun σ H Q ⟨c, t, σ', G, S, P⟩ => by
    simp only [evE] at P
    refine TEv.to G S P fun w t1 c1 H1 v st1 G1 S1 r1 P1 => TEv.to G1 S1 P1 fun u t2 c2 H2 y st2 G2 S2 r2 P2 => ?_
    cases e : cop op w u t2 with
    | ok k t3 =>
      rw [e, R.bind_ok] at P2
      have et := cop_st e
      subst et
      refine ⟨c2, t3, w, u, EX σ, G2, r1.step st2 G1, r2, ?_⟩
      unfold copW
      rw [e]
      intro c3 H3 z st3 G3 rz
      refine ⟨k, wbl rz, ?_⟩
      have P3 := Post.step st3 P2
      cases k with
      | true =>
        rw [if_pos rfl] at P3 ⊢
        exact TEv.to G3 (S2.step st3 G2) P3 fun w4 t4 c4 H4 v4 st4 G4 S4 r4 P4 => ⟨c4, t4, u, w4, _, G4, (r2.step st3 G2).step st4 G3, r4, P4⟩
      | false =>
        rw [if_neg (by decide)] at P3 ⊢
        exact P3.ok G3 (bl_w _)
    | exc x t3 => exact absurd e cop_noexc
    | stk => rw [e] at P2; exact P2.elim
theorem ok_and {rest : List Expr} (hK : X.K = g.K) (ha : PE X a (TEv g Φ EX a')) (hb : PE X (.BoolOp .And (b :: rest) pos) (TEv g Φ EX b')) : PE X (.BoolOp .And (a :: b :: rest) pos) (TEv g Φ EX (.and a' b')) :=
  PE.to (pe_andT ha hb) fun σ H Q ⟨c, t, σ', G, S, P⟩ => by
    simp only [evE] at P
    refine TEv.to G S P fun w t1 c1 H1 v st1 G1 S1 r1 P1 => ?_
    obtain ⟨k, _, h, P2⟩ := truth_bind G1 r1 P1
    refine ⟨k, by rw [hK]; exact h, ?_⟩
    cases k with
    | true => exact ⟨c1, t1, σ', G1, S1, P2⟩
    | false => exact P2.ok G1 r1
theorem ok_or {rest : List Expr} (hK : X.K = g.K) (ha : PE X a (TEv g Φ EX a')) (hb : PE X (.BoolOp .Or (b :: rest) pos) (TEv g Φ EX b')) : PE X (.BoolOp .Or (a :: b :: rest) pos) (TEv g Φ EX (.or a' b')) :=
  PE.to (pe_orT ha hb) fun σ H Q ⟨c, t, σ', G, S, P⟩ => by
    simp only [evE] at P
    refine TEv.to G S P fun w t1 c1 H1 v st1 G1 S1 r1 P1 => ?_
    obtain ⟨k, _, h, P2⟩ := truth_bind G1 r1 P1
    refine ⟨k, by rw [hK]; exact h, ?_⟩
    cases k with
    | true => exact P2.ok G1 r1
    | false => exact ⟨c1, t1, σ', G1, S1, P2⟩
theorem ok_not (hK : X.K = g.K) (ha : PE X a (TEv g Φ EX a')) : PE X (.UnaryOp .Not a pos) (TEv g Φ EX (.not a')) :=
  PE.to (pe_notT ha) fun σ H Q ⟨c, t, σ', G, S, P⟩ => by
    simp only [evE] at P
    refine TEv.to G S P fun w t1 c1 H1 v st1 G1 S1 r1 P1 => ?_
    obtain ⟨k, _, h, P2⟩ := truth_bind G1 r1 P1
    exact ⟨k, by rw [hK]; exact h, P2.ok G1 (bl_w _)⟩
theorem ok_neg (ha : PE X a (TEv g Φ EX a')) : PE X (.UnaryOp .USub a pos) (TEv g Φ EX (.neg a')) :=
  PE.to (pe_un un_neg ha) fun σ H Q ⟨c, t, σ', G, S, P⟩ => by
    simp only [evE] at P
    refine TEv.to G S P fun w t1 c1 H1 v st1 G1 S1 r1 P1 => ?_
    split at P1
    · rename_i i
      exact ⟨i, wint r1, P1.ok G1 (int_w _)⟩
    · exact P1.elim
theorem ok_ite (hc : PT X d (TTv g Φ EX d')) (ha : PE X a (TEv g Φ EX a')) (hb : PE X b (TEv g Φ EX b')) : PE X (.IfExp d a b pos) (TEv g Φ EX (.ite d' a' b')) :=
  PE.to (pe_ifExp hc ha hb) fun σ H Q ⟨c, t, σ', G, S, P⟩ => by
    simp only [evE] at P
    have P' : Post g c H (wR g) ((tst Φ d' σ' t).bind fun k t => if k = true then evE Φ a' σ' t else evE Φ b' σ' t) Q (EX σ) := by
      unfold tst
      rw [R.bind_assoc]
      exact P
    refine TTv.to G S P' fun k t1 c1 H1 st1 G1 S1 P1 => ?_
    cases k with
    | true => exact ⟨c1, t1, σ', G1, S1, P1⟩
    | false => exact ⟨c1, t1, σ', G1, S1, P1⟩
theorem ok_ix (hK : X.K = g.K) (ha : PE X a (TEv g Φ EX a')) (hb : PE X b (TEv g Φ EX b')) (hs : PlainIx b) : PE X (.Subscript a b pos) (TEv g Φ EX (.ix a' b')) :=
  PE.to (pe_ix (ixS hK) ha hb hs) fun σ H Q ⟨c, t, σ', G, S, P⟩ => by
    simp only [evE] at P
    exact TEv.to G S P fun w t1 c1 H1 v st1 G1 S1 r1 P1 => TEv.to G1 S1 P1 fun u t2 c2 H2 y st2 G2 S2 r2 P2 => ⟨c2, t2, w, u, _, G2, r1.step st2 G1, r2, P2⟩
/-! ### tests -/
theorem tt_truth (hK : X.K = g.K) (ha : PE X a (TEv g Φ EX a')) (he : ∀ whole, isTrue a X.env whole = (do let v ← whole; standAt a.pos; holding [v] (truthy v))) : PT X a (TTv g Φ EX a') :=
  PT.to (pt_truth ha he) fun σ H Q ⟨c, t, σ', G, S, P⟩ => by
    unfold tst at P
    refine TEv.to G S P fun w t1 c1 H1 v st1 G1 S1 r1 P1 => ?_
    have P1' : Post g c1 H1 bR ((truth w t1).bind fun k t => .ok k t) Q (EX σ) := by
      cases e : truth w t1 <;> rw [e] at P1 <;> exact P1
    obtain ⟨k, _, h, P2⟩ := truth_bind G1 r1 P1'
    exact ⟨k, by rw [hK]; exact h, P2.ok G1 rfl⟩
theorem tt_cmp (op : Cop) (hu : X.A.units + 64 < cLine) (hK : X.K = g.K) (ha : PE X a (TEv g Φ EX a')) (hb : PE X b (TEv g Φ EX b')) (hm : behindInMarks (copOf op) b = false) : PT X (.Compare a [copOf op] [b] pos) (TTv g Φ EX (.cmp op a' b')) :=
  PT.to (pt_cmpR (copS hu hK op) ha hb hm) fun σ H Q ⟨c, t, σ', G, S, P⟩ => by
    unfold tst at P
    simp only [evE, R.bind_assoc] at P
    refine TEv.to G S P fun w t1 c1 H1 v st1 G1 S1 r1 P1 => TEv.to G1 S1 P1 fun u t2 c2 H2 y st2 G2 S2 r2 P2 => ?_
    cases e : cop op w u t2 with
    | ok k t3 =>
      rw [e, R.bind_ok, R.bind_ok] at P2
      have et := cop_st e
      subst et
      refine ⟨c2, t3, w, u, EX σ, G2, r1.step st2 G1, r2, ?_⟩
      unfold copW
      rw [e]
      intro c3 H3 z st3 G3 rz
      exact ⟨k, wbl rz, (Post.step st3 P2).ok G3 rfl⟩
    | exc x t3 => exact absurd e cop_noexc
    | stk => rw [e] at P2; exact P2.elim
theorem tt_not (ha : PT X a (TTv g Φ EX a')) : PT X (.UnaryOp .Not a pos) (TTv g Φ EX (.not a')) :=
  PT.to (pt_not ha) fun σ H Q ⟨c, t, σ', G, S, P⟩ => by
    have P' : Post g c H bR ((tst Φ a' σ' t).bind fun k t => .ok (!k) t) Q (EX σ) := by
      unfold tst at P ⊢
      simp only [evE, R.bind_assoc] at P ⊢
      exact P
    exact TTv.to G S P' fun k t1 c1 H1 st1 G1 S1 P1 => P1.ok G1 rfl
theorem truth_st {w : W} {t t' : Stt} {k : Bool} (e : truth w t = .ok k t') : t' = t := by
  unfold truth at e
  split at e
  · injection e with _ h; exact h.symm
  · injection e with _ h; exact h.symm
  · injection e with _ h; exact h.symm
  · split at e
    · injection e with _ h; exact h.symm
    · cases e
  · split at e
    · injection e with _ h; exact h.symm
    · cases e
theorem tst_and {t : Stt} : tst Φ (.and a' b') σ' t = (tst Φ a' σ' t).bind fun k t => if k = true then tst Φ b' σ' t else .ok false t := by
  unfold tst
  simp only [evE, R.bind_assoc]
  congr 1
  funext w t1
  cases e : truth w t1 with
  | ok k t2 =>
    cases k with
    | true => rfl
    | false =>
      have := truth_st e
      subst this
      show (truth w t2) = _
      rw [e]
      rfl
  | exc x t2 => rfl
  | stk => rfl
theorem tst_or {t : Stt} : tst Φ (.or a' b') σ' t = (tst Φ a' σ' t).bind fun k t => if k = true then .ok true t else tst Φ b' σ' t := by
  unfold tst
  simp only [evE, R.bind_assoc]
  congr 1
  funext w t1
  cases e : truth w t1 with
  | ok k t2 =>
    cases k with
    | false => rfl
    | true =>
      have := truth_st e
      subst this
      show (truth w t2) = _
      rw [e]
      rfl
  | exc x t2 => rfl
  | stk => rfl
theorem tw_and {rest : List Expr} (ha : PT X a (TTv g Φ EX a')) (hb : PW X (.BoolOp .And (b :: rest) pos) (TTv g Φ EX b')) : PW X (.BoolOp .And (a :: b :: rest) pos) (TTv g Φ EX (.and a' b')) := by
  refine ⟨fun wh pins s σ H Q I h => (pw_and ha hb).run wh pins s σ H Q I ?_⟩
  obtain ⟨c, t, σ', G, S, P⟩ := h
  rw [tst_and] at P
  refine TTv.to G S P fun k t1 c1 H1 st1 G1 S1 P1 => ?_
  cases k with
  | true => exact ⟨c1, t1, σ', G1, S1, P1⟩
  | false => exact P1.ok G1 rfl
theorem tw_or {rest : List Expr} (ha : PT X a (TTv g Φ EX a')) (hb : PW X (.BoolOp .Or (b :: rest) pos) (TTv g Φ EX b')) : PW X (.BoolOp .Or (a :: b :: rest) pos) (TTv g Φ EX (.or a' b')) := by
  refine ⟨fun wh pins s σ H Q I h => (pw_or ha hb).run wh pins s σ H Q I ?_⟩
  obtain ⟨c, t, σ', G, S, P⟩ := h
  rw [tst_or] at P
  refine TTv.to G S P fun k t1 c1 H1 st1 G1 S1 P1 => ?_
  cases k with
  | true => exact P1.ok G1 rfl
  | false => exact ⟨c1, t1, σ', G1, S1, P1⟩
theorem tt_ite (hc : PT X d (TTv g Φ EX d')) (ha : PT X a (TTv g Φ EX a')) (hb : PT X b (TTv g Φ EX b')) : True := trivial
/-! ### lists of expressions -/
def noStar : Expr → Bool
  | .Starred _ _ => false
  | _ => true
theorem starOk {e : Expr} {es : List Expr} {env : Env} (h : noStar e = true) : starEach (e :: es) env = (false, eval e env) :: starEach es env := by
  cases e <;> first | rfl | cases h
theorem oks_nil : PA X [] (TAv g Φ EX .nil) := PA.to pa_nil fun σ H Q ⟨c, t, σ', G, S, P⟩ => by
  simp only [evEs] at P
  exact P.ok G (show WRels _ _ _ [] [] from rfl)
theorem oks_cons {e : Expr} {es : List Expr} {e' : E} {es' : Es} (ha : PE X e (TEv g Φ EX e')) (hr : PA X es (TAv g Φ EX es')) (hs : noStar e = true) : PA X (e :: es) (TAv g Φ EX (.cons e' es')) :=
  PA.to (pa_cons ha hr (starOk hs)) fun σ H Q ⟨c, t, σ', G, S, P⟩ => by
    simp only [evEs] at P
    exact TEv.to G S P fun w t1 c1 H1 v st1 G1 S1 r1 P1 => TAv.to G1 S1 P1 fun ws t2 c2 H2 vs _ st2 G2 S2 r2 P2 => P2.ok G2 (show WRels _ _ _ (w :: ws) (v :: vs) from ⟨v, vs, rfl, r1.step st2 G1, r2⟩)
end
end MP
end

/-! text MPI -/
section
set_option Elab.async false
set_option linter.all false
set_option maxRecDepth 100000
set_option maxHeartbeats 4000000
/-! MP, part I: displays, calls, fields, f-strings. -/
namespace MP
open PySem L2 PySem.Spec
open PyProof.Rows hiding St

def Es.len : Es → Nat
  | .nil => 0
  | .cons _ es => es.len + 1
section
variable {X : Cx} {g : Gx} {Φ : Fns} {EX : St → XK} {c : Cf} {t : Stt} {σ' : Sg} {σ : St} {H : Hp} {pos apos p : Pos} {a b d e o : Expr} {a' b' d' o' : E} {es : List Expr} {es' : Es} {x m : Str}
theorem evEs_len : ∀ {es : Es} {t t' : Stt} {ws : List W}, evEs Φ es σ' t = .ok ws t' → ws.length = es.len
  | .nil, t, t', ws, h => by
    simp only [evEs] at h
    cases h
    rfl
  | .cons e es, t, t', ws, h => by
    simp only [evEs] at h
    cases h1 : evE Φ e σ' t with
    | ok w t1 =>
      rw [h1, R.bind_ok] at h
      cases h2 : evEs Φ es σ' t1 with
      | ok us t2 =>
        rw [h2, R.bind_ok] at h
        cases h
        show us.length + 1 = _
        rw [evEs_len h2]
        rfl
      | exc z t2 => rw [h2] at h; cases h
      | stk => rw [h2] at h; cases h
    | exc z t1 => rw [h1] at h; cases h
    | stk => rw [h1] at h; cases h
/-- data out of several values -/
theorem toDs_bind {γ δ : Type} {rel2 : Cf → Hp → γ → δ → Prop} {Q : δ → Hp → Prop} {E : XK} {ws : List W} {vs : List V} {f : List D → Stt → R γ} (G : Good g.toGv c t H) (r : WRels g.toGv c H ws vs) (P : Post g c H rel2 ((toDs ws t).bind f) Q E) :
    ∃ ds t1 c1, toDs ws t = .ok ds t1 ∧ Step c H c1 H ∧ Good g.toGv c1 t1 H ∧ RelDs g.toGv c1.ρ c1.Z H ds vs ∧ Post g c1 H rel2 (f ds t1) Q E := by
  cases e : toDs ws t with
  | ok ds t1 =>
    obtain ⟨c1, st, G1, q⟩ := toDs_ok G r e
    rw [e] at P
    exact ⟨ds, t1, c1, rfl, st, G1, q, Post.step st P⟩
  | exc z t1 => exact absurd e toDs_noexc
  | stk => rw [e] at P; exact P.elim
theorem ok_tup {k : Nat} (h : PA X es (TAv g Φ EX es')) (hl : es'.len ≤ 1000) : PE X (.Tuple es k pos) (TEv g Φ EX (.tup es')) :=
  PE.to (pe_tup h) fun σ H Q ⟨c, t, σ', G, S, P⟩ => by
    simp only [evE] at P
    refine TAv.to G S P fun ws t1 c1 H1 vs ev st1 G1 S1 r1 P1 => ?_
    refine ⟨by rw [r1.length, evEs_len ev]; exact Nat.le_trans hl (by decide), fun q hq => ?_⟩
    cases e : toDs ws t1 with
    | ok ds t2 => rw [e] at P1; exact tup_new G1 r1 e P1 q hq
    | exc z t2 => exact absurd e toDs_noexc
    | stk => rw [e] at P1; exact P1.elim
theorem ok_lst {w : Own} (h : PA X es (TAv g Φ EX es')) (hl : es'.len ≤ 1000) : PE X (.List es pos) (TEv g Φ EX (.lst w es')) :=
  PE.to (pe_lst h) fun σ H Q ⟨c, t, σ', G, S, P⟩ => by
    simp only [evE] at P
    refine TAv.to G S P fun ws t1 c1 H1 vs ev st1 G1 S1 r1 P1 => ?_
    exact ⟨by rw [r1.length, evEs_len ev]; exact Nat.le_trans hl (by decide), fun q hq => mkLst_ok G1 r1 P1 q hq⟩
/-! ### fields -/
theorem ok_fld {i : Nat} (ha : PE X a (TEv g Φ EX a')) (hK : X.K = g.K) (hc : ∀ C, Cls X.K (g.cadr C) ∧ NoAttr X.K (g.cadr C) (g.fname i)) (hx : x = g.fname i) (hb : attributeBase a x X.env (eval a X.env) = eval a X.env) : PE X (.Attribute a x pos) (TEv g Φ EX (.fld a' i)) :=
  PE.to (pe_fld ha hb) fun σ H Q ⟨c, t, σ', G, S, P⟩ => by
    simp only [evE] at P
    refine TEv.to G S P fun w t1 c1 H1 v st1 G1 S1 r1 P1 => ?_
    split at P1
    · rename_i d hd
      unfold fldOf at hd
      split at hd
      · rename_i n
        obtain ⟨q, rfl, eq⟩ := wref r1
        split at hd
        · rename_i C fs hs
          obtain ⟨dx, fvs, h1, h2⟩ := G1.sc _ _ _ hs eq
          obtain ⟨v', h3, h4⟩ := h2.look hd
          obtain ⟨k1, k2⟩ := hc C
          rw [hx]
          exact ⟨q, _, dx, fvs, v', rfl, h1, k1, k2, h3, P1.ok G1 (show WRel _ _ _ (.d d) v' from h4)⟩
        · cases hd
      · cases hd
    · exact P1.elim
/-! ### built-in functions and methods -/
theorem backTo_plain {pos : Pos} {env : Env} : ∀ {es : List Expr}, es.all noStar = true → (backTo pos (starEach es env)).any (·.1) = false
  | [], _ => rfl
  | e :: es, h => by
    simp only [List.all_cons, Bool.and_eq_true] at h
    rw [starOk h.1]
    show (false || (backTo pos (starEach es env)).any (·.1)) = false
    rw [backTo_plain h.2]
    rfl
theorem ok_biB {id : String} {k : Bi} {es1 : List Expr} (hc : CallR X (.builtin id) (rSC g (bi k))) (hg : Gl X x) (hm : X.mg x = none) (hv : bootBuiltins x = some (.builtin id)) (ha : PA X (e :: es) (TAv g Φ EX es')) (hn : x ≠ "__name__") (hdb : (x == ("__debug__" : Str)) = false)
    (he : noStar e = true) (hpl : es.all noStar = true) : PE X (.Call (.Name x p) (e :: es) [] pos) (TEv g Φ EX (.bi k es')) :=
  PE.to (pe_callB hc hg hm hv ha hn hdb (starOk he) (backTo_plain hpl)) fun σ H Q ⟨c, t, σ', G, S, P⟩ => by
    simp only [evE] at P
    exact TAv.to G S P fun ws t1 c1 H1 vs ev st1 G1 S1 r1 P1 => ⟨c1, t1, ws, _, G1, r1, P1⟩
theorem ok_biT {id : String} {k : Bi} (hc : CallR X (.type id) (rSC g (bi k))) (hg : Gl X x) (hm : X.mg x = none) (hv : bootBuiltins x = some (.type id)) (ha : PA X (e :: es) (TAv g Φ EX es')) (hn : x ≠ "__name__") (hdb : (x == ("__debug__" : Str)) = false)
    (he : noStar e = true) (hpl : es.all noStar = true) : PE X (.Call (.Name x p) (e :: es) [] pos) (TEv g Φ EX (.bi k es')) :=
  PE.to (pe_callTy hc hg hm hv ha hn hdb (starOk he) (backTo_plain hpl)) fun σ H Q ⟨c, t, σ', G, S, P⟩ => by
    simp only [evE] at P
    exact TAv.to G S P fun ws t1 c1 H1 vs ev st1 G1 S1 r1 P1 => ⟨c1, t1, ws, _, G1, r1, P1⟩
theorem ok_isi {ty : Ty} {y : Str} {p2 : Pos} (hK : X.K = g.K) (hg : Gl X "isinstance") (hm : X.mg "isinstance" = none) (hgy : Gl X y) (hmy : X.mg y = none) (hvy : bootBuiltins y = some (.type (tyName ty))) (hny : y ≠ "__name__") (hdy : (y == ("__debug__" : Str)) = false)
    (ha : PE X e (TEv g Φ EX a')) (he : noStar e = true) : PE X (.Call (.Name "isinstance" p) [e, .Name y p2] [] pos) (TEv g Φ EX (.bi (.isi ty) (.cons a' .nil))) :=
  PE.to (pe_callB (callS_isi hK ty) hg hm PyProof.Rows.boot_isinstance (pa_cons ha (pa_cons (pe_bltn (v := .ty (tyName ty)) hgy hmy hvy rfl hny hdy) pa_nil rfl) (starOk he)) (by decide) (by decide) (starOk he) rfl) fun σ H Q ⟨c, t, σ', G, S, P⟩ => by
    simp only [evE, evEs, R.bind_assoc] at P
    exact TEv.to G S P fun w t1 c1 H1 v st1 G1 S1 r1 P1 => ⟨v, rfl, c1, t1, [w], _, G1, ⟨v, [], rfl, r1, rfl⟩, P1⟩
def bmId : Bm → String
  | .append => "list.append" | .extend => "list.extend" | .pop => "list.pop" | .popAt => "list.pop" | .join => "str.join" | .split => "str.split"
def bmT : Bm → String
  | .join => "str" | .split => "str" | _ => "list"
def bmN : Bm → Str
  | .append => "append" | .extend => "extend" | .pop => "pop" | .popAt => "pop" | .join => "join" | .split => "split"
theorem bm_rule (hK : X.K = g.K) : ∀ k : Bm, MtR X (bmId k) (rSM g (bm k))
  | .append => mtS_append | .extend => mtS_extend | .pop => mtS_pop | .popAt => mtS_popAt | .join => mtS_join hK | .split => mtS_split
theorem bm_pa : ∀ k : Bm, PlainAttrs (bmT k)
  | .append => F.plainAttrs_list | .extend => F.plainAttrs_list | .pop => F.plainAttrs_list | .popAt => F.plainAttrs_list | .join => F.plainAttrs_str | .split => F.plainAttrs_str
theorem bm_slot : ∀ k : Bm, PySem.Slot (bmT k) (bmN k) (bmId k)
  | .append => F.slot_list_append | .extend => F.slot_list_extend | .pop => F.slot_list_pop | .popAt => F.slot_list_pop | .join => F.slot_str_join | .split => F.slot_str_split
theorem bm_ty : ∀ k : Bm, typeOf (.builtin (bmId k)) = pure (.type "method_descriptor")
  | .append => F.type_list_append | .extend => F.type_list_extend | .pop => F.type_list_pop | .popAt => F.type_list_pop | .join => F.type_str_join | .split => F.type_str_split
theorem bmTy_loc {i : Nat} {v : V} {z : Bool} {ws : List W} (G : Good g.toGv c t H) (r : WRel g.toGv c H (.loc i) v) (h : t.L[i]? = some (.lst z ws)) : tyV X.K "list" v H := by
  obtain ⟨q, eq, rfl⟩ := r
  obtain ⟨vs, h1, _⟩ := G.lc _ _ _ h eq
  exact .inl ⟨rfl, vs, SqL.of h1⟩
theorem bmTy_ref {n : Nat} {v : V} {xs : List D} (G : Good g.toGv c t H) (r : WRel g.toGv c H (.d (.ref n)) v) (h : t.S[n]? = some (.lst xs)) : tyV X.K "list" v H := by
  obtain ⟨q, rfl, eq⟩ := wref r
  obtain ⟨vs, h1, _⟩ := G.sc _ _ _ h eq
  exact .inl ⟨rfl, vs, SqL.of h1⟩
def lsTy (t : Stt) (x : W) : Bool := match x with
    | .loc i => (match t.L[i]? with | some (.lst _ _) => true | _ => false)
    | .d (.ref n) => (match t.S[n]? with | some (.lst _) => true | _ => false)
    | _ => false
theorem lsTy_ok {w : W} {v : V} (G : Good g.toGv c t H) (r : WRel g.toGv c H w v) (h : lsTy t w = true) : tyV X.K "list" v H := by
  unfold lsTy at h
  split at h
  · rename_i i
    split at h
    · rename_i z ws hw; exact bmTy_loc G r hw
    · cases h
  · rename_i n
    split at h
    · rename_i xs hw; exact bmTy_ref G r hw
    · cases h
  · cases h
def stTy (x : W) : Bool := match x with | .d (.str _) => true | _ => false
theorem stTy_ok {w : W} {v : V} (r : WRel g.toGv c H w v) (h : stTy w = true) : tyV X.K "str" v H := by
  unfold stTy at h
  split at h
  · cases wstr r; exact rfl
  · cases h
theorem bmTy_ok {k : Bm} {w : W} {v : V} (hK : X.K = g.K) (G : Good g.toGv c t H) (r : WRel g.toGv c H w v) (h : bmTy t k w = true) : tyV X.K (bmT k) v H := by
  cases k with
  | append => exact lsTy_ok G r h
  | extend => exact lsTy_ok G r h
  | pop => exact lsTy_ok G r h
  | popAt => exact lsTy_ok G r h
  | join => exact stTy_ok r h
  | split => exact stTy_ok r h
theorem keyword_nil {env : Env} : keywordEach [] env = [] := rfl
theorem all_plain {pos : Pos} {env : Env} : ∀ {es : List Expr}, es.all noStar = true → (backTo pos (starEach es env)).all (fun x => !x.1) = true
  | [], _ => rfl
  | e :: es, h => by
    simp only [List.all_cons, Bool.and_eq_true] at h
    rw [starOk h.1]
    show (true && (backTo pos (starEach es env)).all (fun x => !x.1)) = true
    rw [all_plain h.2]
    rfl
theorem ok_bm0 (k : Bm) (hK : X.K = g.K) (ho : PE X o (TEv g Φ EX o')) (hx : x = bmN k) (hbase : attributeBase o x X.env (eval o X.env) = eval o X.env) (hline : (apos.endLine == pos.line) = true) : PE X (.Call (.Attribute o x apos) [] [] pos) (TEv g Φ EX (.bm k o' .nil)) := by
  subst hx
  refine PE.to (pe_bm0 (bm_pa k) (bm_slot k) (bm_ty k) (bm_rule hK k) ho hbase hline) fun σ H Q ⟨c, t, σ', G, S, P⟩ => ?_
  simp only [evE, evEs] at P
  refine TEv.to G S P fun w t1 c1 H1 v st1 G1 S1 r1 P1 => ?_
  split at P1
  · rename_i h
    exact ⟨bmTy_ok hK G1 r1 h, c1, t1, w, [], _, G1, r1, rfl, P1⟩
  · exact P1.elim
theorem ok_bm (k : Bm) (hK : X.K = g.K) (ho : PE X o (TEv g Φ EX o')) (ha : PA X (e :: es) (TAv g Φ EX es')) (hx : x = bmN k) (hbase : attributeBase o x X.env (eval o X.env) = eval o X.env) (hline : (apos.endLine == pos.line) = true)
    (he : noStar e = true) (hpl : es.all noStar = true) (hlen : (e :: es).length < 30) : PE X (.Call (.Attribute o x apos) (e :: es) [] pos) (TEv g Φ EX (.bm k o' es')) := by
  subst hx
  have few : ((backTo pos (starEach (e :: es) X.env)).all (fun x => !x.1) && (backToKw pos (keywordEach [] X.env)).all (fun x => x.1.isSome)
      && decide ((e :: es).length + ([] : List Keyword).length + (if ([] : List Keyword).isEmpty then 0 else 1) < 30)) = true := by
    rw [all_plain (by simp only [List.all_cons, he, hpl]; rfl)]
    show (true && true && decide _) = true
    rw [decide_eq_true]
    · rfl
    · exact hlen
  refine PE.to (pe_bm (bm_pa k) (bm_slot k) (bm_ty k) (bm_rule hK k) ho ha hbase few hline (starOk he) (backTo_plain hpl)) fun σ H Q ⟨c, t, σ', G, S, P⟩ => ?_
  simp only [evE] at P
  refine TEv.to G S P fun w t1 c1 H1 v st1 G1 S1 r1 P1 => ?_
  split at P1
  · rename_i h
    exact ⟨bmTy_ok hK G1 r1 h, TAv.to G1 S1 P1 fun ws t2 c2 H2 vs ev st2 G2 S2 r2 P2 => ⟨c2, t2, w, ws, _, G2, r1.step st2 G1, r2, P2⟩⟩
  · exact P1.elim
end
end MP
end

/-! text MPJ -/
section
set_option Elab.async false
set_option linter.all false
set_option maxRecDepth 100000
set_option maxHeartbeats 4000000
/-! MP, part J: calls of defs, methods, new instances, f-strings. -/
namespace MP
open PySem L2 PySem.Spec
open PyProof.Rows hiding St

section
variable {X : Cx} {g : Gx} {Φ : Fns} {EX : St → XK} {c : Cf} {t : Stt} {σ' : Sg} {σ : St} {H : Hp} {pos apos p : Pos} {a b d e o : Expr} {a' b' d' o' : E} {es : List Expr} {es' ks' : Es} {x m : Str}
  {CX : CXT} {k f np C : Nat} {fd : FuncData} {ps : List Str} {dfl : List D} {dvs : List V} {ds : List Value}
theorem call_len {sp : Sp} {f np : Nat} {vs : List V} {Q : VK} {E : XK} (h : spF g Φ np f vs H Q E) : vs.length = np := h.1
/-- from evaluated arguments to the promise -/
theorem callT {ws : List W} {vs : List V} {Q : VK} {E : XK} (G : Good g.toGv c t H) (r : WRels g.toGv c H ws vs) (hd : ∀ ρ Z H, RelDs g.toGv ρ Z H dfl dvs) (hn : (vs ++ dvs).length = np) (P : Post g c H (wR g) ((toDs ws t).bind fun ds t => fin t (Φ f (ds ++ dfl) t.S)) Q E) :
    spF g Φ np f (vs ++ dvs) H Q E := by
  obtain ⟨ds, t1, c1, e, st, G1, r1, P1⟩ := toDs_bind G r P
  exact call_ok G1 (r1.append (hd _ _ _)) hn P1
theorem ok_call0 (F : FnG X.prog X.w X.K X.mg X.base CX k (g.fadr f) fd ps (spF g Φ np f)) (hr : Room k X.A) (hgd : X.A.guards = some []) (hg : Gl X x) (hm : X.mg x = some (.ref (g.fadr f))) (hk : PySem.W.keepIn X.K (.ref (g.fadr f)) = true) (hb : Binds X.K fd ps ds) (hd : Vals dvs ds) (hx : ∀ σ, PassesAt CX X σ (EX σ))
    (hdb : (x == ("__debug__" : Str)) = false) (hD : ∀ ρ Z H, RelDs g.toGv ρ Z H dfl dvs) (hn : dfl.length = np) : PE X (.Call (.Name x p) [] [] pos) (TEv g Φ EX (.call f .nil dfl)) :=
  PE.to (pe_call0G F hr hgd hg hm hk hb hd hx hdb) fun σ H Q ⟨c, t, σ', G, S, P⟩ => by
    simp only [evE, evEs] at P
    exact callT (ws := []) (vs := []) G rfl hD (by rw [List.nil_append, (hD [] (fun _ => False) H).length, hn]) P
theorem ok_call (F : FnG X.prog X.w X.K X.mg X.base CX k (g.fadr f) fd ps (spF g Φ np f)) (hr : Room k X.A) (hgd : X.A.guards = some []) (hg : Gl X x) (hm : X.mg x = some (.ref (g.fadr f))) (hk : PySem.W.keepIn X.K (.ref (g.fadr f)) = true) (hb : Binds X.K fd ps ds) (hd : Vals dvs ds) (hx : ∀ σ, PassesAt CX X σ (EX σ))
    (ha : PA X (e :: es) (TAv g Φ EX es')) (hdb : (x == ("__debug__" : Str)) = false) (he : noStar e = true) (hpl : es.all noStar = true) (hD : ∀ ρ Z H, RelDs g.toGv ρ Z H dfl dvs) (hn : es'.len + dfl.length = np) : PE X (.Call (.Name x p) (e :: es) [] pos) (TEv g Φ EX (.call f es' dfl)) :=
  PE.to (pe_callG F hr hgd hg hm hk hb hd hx ha hdb (starOk he) (backTo_plain hpl)) fun σ H Q ⟨c, t, σ', G, S, P⟩ => by
    simp only [evE] at P
    exact TAv.to G S P fun ws t1 c1 H1 vs ev st1 G1 S1 r1 P1 => callT G1 r1 hD (by rw [List.length_append, r1.length, evEs_len ev, (hD [] (fun _ => False) H).length, hn]) P1
/-- f(.., k = v, ..): every parameter given, in order -/
def tCallKG (sp : Sp) (E : St → XK) (t tk : TA) : TE := fun σ H Q => t σ H fun vs H1 => tk σ H1 fun zs H2 => vs.length = 0 ∧ sp zs H2 Q (E σ)
theorem ok_callk {kws : List Keyword} {ks : List Str} {n : Nat} (F : FnG X.prog X.w X.K X.mg X.base CX k (g.fadr f) fd ps (spF g Φ np f)) (hr : Room k X.A) (hgd : X.A.guards = some []) (hg : Gl X x) (hm : X.mg x = some (.ref (g.fadr f))) (hk : PySem.W.keepIn X.K (.ref (g.fadr f)) = true) (hx : ∀ σ, PassesAt CX X σ (EX σ))
    (hb : ∀ (s : Shared) (ws : List Value), X.K.In s.heap → ws.length = ks.length → BindsTo s fd ⟨[], ks.zip ws⟩ (ps.zip ws)) (hkn : ks.length = np) (hn : ks'.len = np)
    (hkw : PK X kws (TAv g Φ EX ks')) (hall : ∀ env, (backToKw pos (keywordEach kws env)).all (·.1.isSome) = true) (hks : ∀ env, (backToKw pos (keywordEach kws env)).filterMap (·.1) = ks) (hnn : ∀ env, (backToKw pos (keywordEach kws env)).any (·.1.isNone) = false)
    (hdb : (x == ("__debug__" : Str)) = false) : PE X (.Call (.Name x p) [] kws pos) (TEv g Φ EX (.callk f .nil ks')) := by
  refine ⟨fun pins s σ H Q I h => ?_⟩
  obtain ⟨c, t, σ', G, S, P⟩ := h
  simp only [evE, evEs, R.bind_ok, List.nil_append] at P
  refine wpAny_Call_Name_kw (ld_glob I hg hm ?_ hdb)
  have hT : TAv g Φ EX ks' σ H fun vs H1 => vs.length = np ∧ spF g Φ np f vs H1 Q (EX σ) := TAv.to G S P fun ws t1 c1 H1 vs ev st1 G1 S1 r1 P1 => by
    obtain ⟨ds, t2, c2, e, st, G2, r2, P2⟩ := toDs_bind G1 r1 P1
    have hl : vs.length = np := by rw [r1.length, evEs_len ev, hn]
    exact ⟨hl, call_ok G2 r2 hl P2⟩
  refine PySem.W.callWith_KW0 (h₀ := X.base) (first := []) I.ok.mod.kin hk (hall _) (thn (hkw.run pos pins s σ H _ I hT) fun ws s2 ⟨zs, H2, I2, rz, hl, q2⟩ => ⟨I2.kIn, ?_⟩) (by rw [hnn]; rfl)
  rw [hks]
  have hlw : ws.length = ks.length := by rw [← rz.length, hl, hkn]
  refine wpAny_call (codeAny_mono (F.run X.A X.stack s2 H2 ⟨[], ks.zip ws⟩ ws zs Q (EX σ) hr hgd I2.env0 (hb s2 ws I2.kIn hlw) rz q2) fun r s' hq => ?_)
  cases r with
  | error e => exact hx σ pins H2 s2 e s' I2 hq
  | ok fl =>
    cases fl with
    | ret u => exact I2.after hq
    | next => exact False.elim hq
    | brk => exact False.elim hq
    | cont => exact False.elim hq
theorem ok_callv {i : Nat} {fs : List Nat} (F : ∀ f ∈ fs, ∃ (fd : FuncData) (ps : List Str), FnG X.prog X.w X.K X.mg X.base CX k (g.fadr f) fd ps (spF g Φ es'.len f) ∧ PySem.W.keepIn X.K (.ref (g.fadr f)) = true ∧ Binds X.K fd ps []) (hr : Room k X.A) (hgd : X.A.guards = some []) (hN : X.N[i]? = some x) (hv : Vis X.env.scope x) (hx : ∀ σ, PassesAt CX X σ (EX σ)) (ha : PA X (e :: es) (TAv g Φ EX es'))
    (hdb : (x == ("__debug__" : Str)) = false) (hcd : (x == ("__classdict__" : Str)) = false) (he : noStar e = true) (hpl : es.all noStar = true) : PE X (.Call (.Name x p) (e :: es) [] pos) (TEv g Φ EX (.callv i fs es')) :=
  PE.to (pe_callV (S := fun a s => ∃ f ∈ fs, a = g.fadr f ∧ s = spF g Φ es'.len f) (fun a s ⟨f, hf, e1, e2⟩ => by subst e1; subst e2; exact F f hf) hr hgd hN hv hx ha hdb hcd (starOk he) (backTo_plain hpl)) fun σ H Q ⟨c, t, σ', G, S, P⟩ => by
    simp only [evE] at P
    split at P
    · rename_i f hf
      split at P
      · rename_i hm
        obtain ⟨v, ev, rv⟩ := S.2 i _ hf
        have rv : v = .ref (g.fadr f) := RelD.fn_iff.mp (show RelD g.toGv c.ρ c.Z H (.fn f) v from rv)
        subst rv
        refine ⟨_, _, ev, ⟨f, hm, rfl, rfl⟩, TAv.to G S P fun ws t1 c1 H1 vs ev st1 G1 S1 r1 P1 => ?_⟩
        obtain ⟨ds, t2, c2, e, st, G2, r2, P2⟩ := toDs_bind G1 r1 P1
        exact call_ok G2 r2 (by rw [r1.length, evEs_len ev]) P2
      · exact P.elim
    · exact P.elim
/-! ### methods, new instances -/
theorem ins_ok {n : Nat} {v : V} {fs : List (Nat × D)} (G : Good g.toGv c t H) (r : WRel g.toGv c H (.d (.ref n)) v) (h : t.S[n]? = some (.ins C fs)) (hm : ∀ i, g.fname i ≠ m) : ∃ q dx fvs, v = .ref q ∧ H q = some (.ins (g.cadr C) dx fvs) ∧ fvs.lookup m = none := by
  obtain ⟨q, rfl, eq⟩ := wref r
  obtain ⟨dx, fvs, h1, h2⟩ := G.sc _ _ _ h eq
  refine ⟨q, dx, fvs, rfl, h1, ?_⟩
  clear h h1
  induction fs generalizing fvs with
  | nil => have h' : fvs = [] := h2; subst h'; rfl
  | cons z zs ih =>
    obtain ⟨y, d⟩ := z
    obtain ⟨v, fr, e, h3, h4⟩ := h2
    subst e
    rw [List.lookup_cons]
    have : (m == g.fname y) = false := by simp; exact fun q => hm y q.symm
    rw [this]
    exact ih fr h4
theorem ok_meth (hc : Cls X.K (g.cadr C)) (hM : Meth X.K (g.cadr C) m (g.fadr f)) (hmn : ∀ i, g.fname i ≠ m) (F : FnG X.prog X.w X.K X.mg X.base CX k (g.fadr f) fd ps (spF g Φ np f)) (hr : Room k X.A) (hgd : X.A.guards = some []) (hb : Binds X.K fd ps ds) (hd : Vals dvs ds) (hx : ∀ σ, PassesAt CX X σ (EX σ))
    (ho : PE X o (TEv g Φ EX o')) {pl : Sem Bool} (hD : ∀ ρ Z H, RelDs g.toGv ρ Z H dfl dvs) (ha : PA X (e :: es) (TAv g Φ EX es')) (he : noStar e = true) (hpl : es.all noStar = true) (hn : es'.len + dfl.length + 1 = np)
    (ht : eval (.Call (.Attribute o m apos) (e :: es) [] pos) X.env = (do
      let ov ← eval o X.env
      standAt apos.atName
      let (f, first) ← holding [ov] (getMethod ov m pl)
      callWith pos f first (backTo pos (starEach (e :: es) X.env)) (backToKw pos (keywordEach [] X.env)))) :
    PE X (.Call (.Attribute o m apos) (e :: es) [] pos) (TEv g Φ EX (.meth C f o' es' dfl)) :=
  PE.to (pe_methG ho hc hM F hr hgd hb hd hx ha (starOk he) (backTo_plain hpl) ht) fun σ H Q ⟨c, t, σ', G, S, P⟩ => by
    simp only [evE] at P
    refine TEv.to G S P fun w t1 c1 H1 v st1 G1 S1 r1 P1 => ?_
    split at P1
    · rename_i n
      split at P1
      · rename_i C' fs hs
        split at P1
        · rename_i hC
          subst hC
          obtain ⟨q, dx, fvs, rfl, h1, h2⟩ := ins_ok G1 r1 hs hmn
          refine ⟨q, dx, fvs, rfl, h1, h2, TAv.to G1 S1 P1 fun ws t2 c2 H2 vs ev st2 G2 S2 r2 P2 => ?_⟩
          obtain ⟨ds, t3, c3, e, st3, G3, r3, P3⟩ := toDs_bind G2 r2 P2
          have rq : RelD g.toGv c3.ρ c3.Z H2 (.ref n) (.ref q) := (r1.step st2 G1).step st3 G2
          exact call_ok G3 (.cons rq (r3.append (hD _ _ _))) (by rw [List.length_cons, List.length_append, r2.length, evEs_len ev, (hD [] (fun _ => False) H).length, hn]) P3
        · exact P1.elim
      · exact P1.elim
    · exact P1.elim
theorem ok_meth0 (hc : Cls X.K (g.cadr C)) (hM : Meth X.K (g.cadr C) m (g.fadr f)) (hmn : ∀ i, g.fname i ≠ m) (F : FnG X.prog X.w X.K X.mg X.base CX k (g.fadr f) fd ps (spF g Φ np f)) (hr : Room k X.A) (hgd : X.A.guards = some []) (hb : Binds X.K fd ps ds) (hd : Vals dvs ds) (hx : ∀ σ, PassesAt CX X σ (EX σ))
    (ho : PE X o (TEv g Φ EX o')) {pl : Sem Bool} (hD : ∀ ρ Z H, RelDs g.toGv ρ Z H dfl dvs) (hn : dfl.length + 1 = np)
    (ht : eval (.Call (.Attribute o m apos) [] [] pos) X.env = (do
      let ov ← eval o X.env
      standAt apos.atName
      let (f, first) ← holding [ov] (getMethod ov m pl)
      callWith pos f first (backTo pos (starEach [] X.env)) (backToKw pos (keywordEach [] X.env)))) :
    PE X (.Call (.Attribute o m apos) [] [] pos) (TEv g Φ EX (.meth C f o' .nil dfl)) :=
  PE.to (pe_meth0G ho hc hM F hr hgd hb hd hx ht) fun σ H Q ⟨c, t, σ', G, S, P⟩ => by
    simp only [evE, evEs] at P
    refine TEv.to G S P fun w t1 c1 H1 v st1 G1 S1 r1 P1 => ?_
    split at P1
    · rename_i n
      split at P1
      · rename_i C' fs hs
        split at P1
        · rename_i hC
          subst hC
          obtain ⟨q, dx, fvs, rfl, h1, h2⟩ := ins_ok G1 r1 hs hmn
          refine ⟨q, dx, fvs, rfl, h1, h2, ?_⟩
          exact call_ok (ds := .ref n :: ([] ++ dfl)) G1 (.cons r1 (hD _ _ _)) (by show (_ :: ([] ++ dvs)).length = _; rw [List.length_cons, List.nil_append, (hD [] (fun _ => False) H).length, hn]) P1
        · exact P1.elim
      · exact P1.elim
    · exact P1.elim
/-- a new instance, still without fields -/
theorem makeT {ws : List W} {vs : List V} {Q : VK} {E : XK} (G : Good g.toGv c t H) (r : WRels g.toGv c H ws vs) (hd : ∀ ρ Z H, RelDs g.toGv ρ Z H dfl dvs) (hn : (vs ++ dvs).length + 1 = np)
    (P : Post g c H (wR g) ((toDs ws t).bind fun ds t => match Φ f (.ref t.S.length :: (ds ++ dfl)) (t.S ++ [.ins C []]) with
      | .ok .non S => .ok (.d (.ref t.S.length)) { t with S := S }
      | .ok _ _ => .stk
      | .exc x S => .exc x { t with S := S }
      | .stk => .stk) Q E) (x dx : Addr) (hx : H x = none) (hdx : H dx = none) (ne : dx ≠ x) :
    spF g Φ np f (.ref x :: (vs ++ dvs)) (upd (upd H dx (.own x)) x (.ins (g.cadr C) dx [])) (fun v H2 => v = .non ∧ Q (.ref x) H2) E := by
  obtain ⟨ds, t1, c1, e, st, G1, r1, P1⟩ := toDs_bind G r P
  obtain ⟨n1, n2, n3⟩ := G1.fresh hdx
  have i1 : Irr c1 H (upd H dx (.own x)) dx := ⟨fun a q => upd_ne q, fun vs q => by rcases q with q | ⟨o, q⟩ <;> (rw [hdx] at q; cases q), n1, n2, n3⟩
  have G2 := G1.irr i1
  have st2 : Step c1 H c1 (upd H dx (.own x)) := (Step.refl c1 H).irr hdx i1
  have hx2 : upd H dx (.own x) x = none := by rw [upd_ne (Ne.symm ne)]; exact hx
  obtain ⟨st3, G3⟩ := G2.newS (s := .ins C []) (o := .ins (g.cadr C) dx []) hx2 (.inr ⟨_, _, _, rfl⟩) fun c' H' _ e => ⟨dx, [], e, rfl⟩
  have st4 := st2.trans st3
  have rx : RelD g.toGv (c1.ρ ++ [x]) c1.Z (upd (upd H dx (.own x)) x (.ins (g.cadr C) dx [])) (.ref t1.S.length) (.ref x) := by
    refine RelD.ref_iff.mpr ⟨x, rfl, ?_⟩
    rw [← G1.lρ, List.getElem?_append_right (Nat.le_refl _)]
    simp
  refine call_ok (t := ⟨t1.L, t1.S ++ [.ins C []]⟩) G3 (.cons rx (RelDs.append (RelDs.mon (st4.mon G1) r1) (hd _ _ _))) (by rw [List.length_cons]; exact hn) ?_
  unfold fin
  show Post g _ _ (wR g) (match Φ f (.ref t1.S.length :: (ds ++ dfl)) (t1.S ++ [.ins C []]) with
      | .ok d S => .ok (.d d) _
      | .exc x S => .exc x _
      | .stk => .stk) _ E
  cases ep : Φ f (.ref t1.S.length :: (ds ++ dfl)) (t1.S ++ [.ins C []]) with
  | ok d S =>
    rw [ep] at P1
    cases d with
    | non =>
      intro c' H' v st5 G5 rv
      refine ⟨wnon rv, ?_⟩
      refine P1.okS (st4.trans st5) G5 ?_
      show RelD g.toGv c'.ρ c'.Z H' (.ref t1.S.length) (.ref x)
      exact RelD.mon (st5.mon G3) rx
    | _ => exact P1.elim
  | exc z S =>
    rw [ep] at P1
    intro c' H' cls dx' st5 G5 xr
    exact P1 c' H' cls dx' (st4.trans st5) G5 xr
  | stk => rw [ep] at P1; exact P1.elim
theorem ok_make0 (M : Mk X.K (g.cadr C) (g.fadr f)) (F : FnG X.prog X.w X.K X.mg X.base CX k (g.fadr f) fd ps (spF g Φ np f)) (hr : Room (k + 1) X.A) (hgd : X.A.guards = some []) (hg : Gl X x) (hm : X.mg x = some (.ref (g.cadr C))) (hb : Binds X.K fd ps ds) (hd : Vals dvs ds) (hx : ∀ σ, PassesAt CX X σ (EX σ))
    (hdb : (x == ("__debug__" : Str)) = false) (hD : ∀ ρ Z H, RelDs g.toGv ρ Z H dfl dvs) (hn : dfl.length + 1 = np) : PE X (.Call (.Name x p) [] [] pos) (TEv g Φ EX (.make C f .nil dfl)) :=
  PE.to (pe_make0G M F hr hgd hg hm hb hd hx hdb) fun σ H Q ⟨c, t, σ', G, S, P⟩ => by
    simp only [evE, evEs] at P
    exact fun z dz h1 h2 h3 => makeT (ws := []) (vs := []) G rfl hD (by rw [List.nil_append, (hD [] (fun _ => False) H).length, hn]) P z dz h1 h2 h3
theorem ok_make (M : Mk X.K (g.cadr C) (g.fadr f)) (F : FnG X.prog X.w X.K X.mg X.base CX k (g.fadr f) fd ps (spF g Φ np f)) (hr : Room (k + 1) X.A) (hgd : X.A.guards = some []) (hg : Gl X x) (hm : X.mg x = some (.ref (g.cadr C))) (hb : Binds X.K fd ps ds) (hd : Vals dvs ds) (hx : ∀ σ, PassesAt CX X σ (EX σ))
    (ha : PA X (e :: es) (TAv g Φ EX es')) (hdb : (x == ("__debug__" : Str)) = false) (he : noStar e = true) (hpl : es.all noStar = true) (hD : ∀ ρ Z H, RelDs g.toGv ρ Z H dfl dvs) (hn : es'.len + dfl.length + 1 = np) : PE X (.Call (.Name x p) (e :: es) [] pos) (TEv g Φ EX (.make C f es' dfl)) :=
  PE.to (pe_makeG M F hr hgd hg hm hb hd hx ha hdb (starOk he) (backTo_plain hpl)) fun σ H Q ⟨c, t, σ', G, S, P⟩ => by
    simp only [evE] at P
    exact TAv.to G S P fun ws t1 c1 H1 vs ev st1 G1 S1 r1 P1 => fun z dz h1 h2 h3 => makeT G1 r1 hD (by rw [List.length_append, r1.length, evEs_len ev, (hD [] (fun _ => False) H).length, hn]) P1 z dz h1 h2 h3
end
end MP
end

/-! text MPK -/
section
set_option Elab.async false
set_option linter.all false
set_option maxRecDepth 100000
set_option maxHeartbeats 4000000
/-! MP, part K: f-strings, what is walked, comprehensions. -/
namespace MP
open PySem L2 PySem.Spec
open PyProof.Rows hiding St

section
variable {X : Cx} {g : Gx} {Φ : Fns} {EX : St → XK} {c : Cf} {t : Stt} {σ' : Sg} {σ : St} {H : Hp} {pos apos p : Pos} {a b d e o : Expr} {a' b' d' o' e' : E} {es : List Expr} {es' ks' : Es} {x m : Str}
/-! ### f-strings -/
theorem fmt_bind {γ δ : Type} {rel2 : Cf → Hp → γ → δ → Prop} {Q : δ → Hp → Prop} {E : XK} {w : W} {f : Tx → Stt → R γ} (P : Post g c H rel2 ((fmtM w t).bind f) Q E) : ∃ x, fmtOf w = some x ∧ Post g c H rel2 (f x t) Q E := by
  unfold fmtM at P
  split at P
  · rename_i x hx; exact ⟨x, hx, P⟩
  · exact P.elim
theorem fm_str {z : Tx} (h : PE X e (tC (.str (toS z)))) : PE X e (TFm g Φ EX (.con (.str z))) :=
  PE.to h fun σ H Q ⟨c, t, σ', G, S, P⟩ => by
    simp only [evE, R.bind_ok] at P
    unfold fmtM fmtOf at P
    by_cases hz : z.length ≤ LIM
    · simp only [if_pos hz] at P
      exact P.ok G rfl
    · simp only [if_neg hz] at P
      exact P.elim
theorem fm_val (h : PE X e (TEv g Φ EX e')) : PE X (.FormattedValue e (-1) none pos) (TFm g Φ EX e') :=
  PE.to (pe_fmt h) fun σ H Q ⟨c, t, σ', G, S, P⟩ => by
    refine TEv.to G S P fun w t1 c1 H1 v st1 G1 S1 r1 P1 => ?_
    unfold fmtM at P1
    split at P1
    · rename_i z hz
      unfold fmtOf at hz
      split at hz
      · rename_i y
        split at hz
        · rename_i hl
          cases hz
          cases wstr r1
          exact .inl ⟨_, rfl, by rw [toS_len]; exact Nat.le_trans hl lim_line, P1.ok G1 rfl⟩
        · cases hz
      · split at hz
        · rename_i i hi
          cases hz
          cases wint r1
          exact .inr ⟨i, rfl, hi, by show Q (.str (Str.ofString (toString i))) H1; rw [toS_ofString]; exact P1.ok G1 rfl⟩
        · cases hz
      · cases hz
    · exact P1.elim
/-- the parts -/
inductive PFm (X : Cx) (g : Gx) (Φ : Fns) (EX : St → XK) : List Expr → Es → Prop where
  | nil : PFm X g Φ EX [] .nil
  | cons {e : Expr} {e' : E} {es : List Expr} {es' : Es} (h : PE X e (TFm g Φ EX e')) (r : PFm X g Φ EX es es') : PFm X g Φ EX (e :: es) (.cons e' es')
def tfms (g : Gx) (Φ : Fns) (EX : St → XK) : Es → List TE
  | .nil => []
  | .cons e es => TFm g Φ EX e :: tfms g Φ EX es
theorem PFm.pj : ∀ {es : List Expr} {es' : Es}, PFm X g Φ EX es es' → PJ X es (tfms g Φ EX es')
  | _, _, .nil => .nil
  | _, _, .cons h r => .cons h (PFm.pj r)
theorem fms_run : ∀ {es' : Es} {acc : Tx} {c : Cf} {t : Stt} {H : Hp} {Q : VK}, acc.length ≤ LIM → Good g.toGv c t H → SRel g c H σ' σ → Post g c H (wR g) (evFs Φ es' acc σ' t) Q (EX σ) → tJs (tfms g Φ EX es') (toS acc) σ H fun out H1 => Q (.str out) H1
  | .nil, acc, c, t, H, Q, hz, G, S, P => by
    simp only [evFs] at P
    exact P.ok G (str_w _)
  | .cons e' es', acc, c, t, H, Q, hz, G, S, P => by
    simp only [evFs] at P
    show TFm g Φ EX e' σ H _
    refine ⟨c, t, σ', G, S, ?_⟩
    have P' : Post g c H (wR g) (((evE Φ e' σ' t).bind fun w t => fmtM w t).bind fun x t => if acc.length + x.length ≤ LIM then evFs Φ es' (acc ++ x) σ' t else .stk) Q (EX σ) := by
      rw [R.bind_assoc]; exact P
    refine Post.bind P' fun z t1 c1 H1 v e st1 G1 rl P1 => ?_
    have ev : v = .str (toS z) := rl
    subst ev
    split at P1
    · rename_i hl
      refine ⟨toS z, rfl, by rw [toS_append, toS_len, List.length_append]; exact Nat.le_trans hl lim_line, ?_⟩
      rw [toS_append]
      exact fms_run (by rw [List.length_append]; exact hl) G1 (S.step st1 G) P1
    · exact P1.elim
theorem ok_fstr {v1 v2 : Expr} {rest : List Expr} (h : PFm X g Φ EX (v1 :: v2 :: rest) es') : PE X (.JoinedStr (v1 :: v2 :: rest) pos) (TEv g Φ EX (.fstr es')) :=
  PE.to (pe_joined h.pj) fun σ H Q ⟨c, t, σ', G, S, P⟩ => by
    simp only [evE] at P
    exact fms_run (acc := []) (Nat.zero_le _) G S P
/-! ### what is walked -/
/-- a walk J goes over src -/
inductive SrcR (g : Gx) (c : Cf) (H : Hp) : Src → L2.It → Prop where
  | lst {xs : List W} {q : Addr} {vs : List V} (h : FrzL g.toGv c.Z H q vs) (r : WRels g.toGv c H xs vs) : SrcR g c H (.fix xs) (Itl g.K q)
  | tup {xs : List W} {q : Addr} {vs : List V} (h : SqT g.K H q vs) (r : WRels g.toGv c H xs vs) : SrcR g c H (.fix xs) (Itt g.K q)
  | rng {lo : Int} {n : Nat} : SrcR g c H (.fix (rngItems lo n)) (Itr lo n)
  | str {x : Tx} : SrcR g c H (.fix ((signsOf x).map .d)) (Its (toS x))
  | loc {i : Nat} {xs : List W} {q : Addr} (h : c.l[i]? = some q) : SrcR g c H (.loc i xs) (Itl g.K q)
  | shr {n : Nat} {xs : List D} {q : Addr} (h : c.ρ[n]? = some q) : SrcR g c H (.shr n xs) (Itl g.K q)
theorem SrcR.step {c' : Cf} {H' : Hp} {src : Src} {J : L2.It} (st : Step c H c' H') (G : Good g.toGv c t H) (h : SrcR g c H src J) : SrcR g c' H' src J := by
  cases h with
  | lst h r => exact .lst (FrzL.mon (st.mon G) h) (r.step st G)
  | tup h r => exact .tup (SqT.mon (st.mon G) h) (r.step st G)
  | rng => exact .rng
  | str => exact .str
  | loc h => exact .loc (st.l _ _ h)
  | shr h => exact .shr (st.ρ _ _ h)
theorem SrcR.irr {H' : Hp} {src : Src} {J : L2.It} {D : Addr} (i : Irr c H H' D) (h : SrcR g c H src J) : SrcR g c H' src J := by
  cases h with
  | lst h r => exact .lst (FrzL.mon i.mon h) (r.irr i)
  | tup h r => exact .tup (SqT.mon i.mon h) (r.irr i)
  | rng => exact .rng
  | str => exact .str
  | loc h => exact .loc h
  | shr h => exact .shr h
/-- one turn of a walk -/
theorem turn_ok {src : Src} {J : L2.It} (G : Good g.toGv c t H) (h : SrcR g c H src J) (hs : src.still t = true) (i : Nat) :
    (∀ w, src.items[i]? = some w → J.go i H ∧ ∀ x H', J.yld i H x H' → H' = H ∧ WRel g.toGv c H w x) ∧ (src.items.length ≤ i → J.stop i H) := by
  have seqL : ∀ {q : Addr} {vs : List V} {xs : List W}, SqL g.K H q vs → WRels g.toGv c H xs vs →
      (∀ w, xs[i]? = some w → (Itl g.K q).go i H ∧ ∀ x H', (Itl g.K q).yld i H x H' → H' = H ∧ WRel g.toGv c H w x) ∧ (xs.length ≤ i → (Itl g.K q).stop i H) := by
    intro q vs xs h1 r
    refine ⟨fun w hw => ?_, fun hl => ⟨vs, h1, by rw [r.length]; exact hl⟩⟩
    obtain ⟨v, e, rv⟩ := r.get hw
    refine ⟨⟨vs, v, h1, e⟩, fun x H' y => ⟨y.1, ?_⟩⟩
    have := y.2 vs h1
    rw [e] at this
    cases this
    exact rv
  cases h with
  | lst h r => exact seqL h.sq r
  | tup h r =>
    rename_i xs q vs
    refine ⟨fun w hw => ?_, fun hl => ⟨vs, h, by rw [r.length]; exact hl⟩⟩
    obtain ⟨v, e, rv⟩ := r.get hw
    refine ⟨⟨vs, v, h, e⟩, fun x H' y => ⟨y.1, ?_⟩⟩
    have := y.2 vs h
    rw [e] at this
    cases this
    exact rv
  | rng =>
    rename_i lo n
    refine ⟨fun w hw => ?_, fun hl => ?_⟩
    · have hw : (rngItems lo n)[i]? = some w := hw
      unfold rngItems at hw
      rw [List.getElem?_map] at hw
      cases hi : (List.range n)[i]? with
      | none => rw [hi] at hw; cases hw
      | some j =>
        rw [hi] at hw
        cases hw
        obtain ⟨h1, h2⟩ := List.getElem?_eq_some_iff.mp hi
        rw [List.length_range] at h1
        rw [List.getElem_range] at h2
        subst h2
        refine ⟨h1, fun x H' y => ⟨y.1, ?_⟩⟩
        rw [y.2]
        exact int_w _
    · have hl : (rngItems lo n).length ≤ i := hl
      unfold rngItems at hl
      rw [List.length_map, List.length_range] at hl
      exact hl
  | str =>
    rename_i x
    have hsz : (toS x).cps.size = x.length := toS_len x
    refine ⟨fun w hw => ?_, fun hl => ?_⟩
    · have hw : ((signsOf x).map W.d)[i]? = some w := hw
      unfold signsOf at hw
      rw [List.getElem?_map, List.getElem?_map] at hw
      cases hi : x[i]? with
      | none => rw [hi] at hw; cases hw
      | some ch =>
        rw [hi] at hw
        cases hw
        have h1 := (List.getElem?_eq_some_iff.mp hi).1
        refine ⟨by show i < (toS x).cps.size; rw [hsz]; exact h1, fun v H' y => ⟨y.1, ?_⟩⟩
        obtain ⟨cc, e1, e2⟩ := y.2
        have : (toS x).cps[i]? = some ch.toNat := by
          show ((x.map Char.toNat).toArray)[i]? = _
          rw [List.getElem?_toArray, List.getElem?_map, hi]; rfl
        rw [this] at e1
        cases e1
        rw [e2]
        exact str_w [ch]
    · have hl : ((signsOf x).map W.d).length ≤ i := hl
      unfold signsOf at hl
      rw [List.length_map, List.length_map] at hl
      show (toS x).cps.size ≤ i
      rw [hsz]; exact hl
  | loc h =>
    rename_i j xs q
    unfold Src.still at hs
    simp only at hs
    split at hs
    · rename_i z ys hy
      obtain rfl := of_decide_eq_true hs
      obtain ⟨vs, h1, h2, _⟩ := G.lc _ _ _ hy h
      exact seqL (SqL.of h1) h2
    · cases hs
  | shr h =>
    rename_i n xs q
    unfold Src.still at hs
    simp only at hs
    split at hs
    · rename_i ys hy
      obtain rfl := of_decide_eq_true hs
      obtain ⟨vs, h1, h2⟩ := G.sc _ _ _ hy h
      exact seqL (SqL.of h1) (.ofD h2)
    · cases hs
end
section
variable (g : Gx) (Φ : Fns) (EX : St → XK)
def TIv (it : It) : TI := fun σ H R => ∃ c t σ', Good g.toGv c t H ∧ SRel g c H σ' σ ∧ Post g c H (SrcR g) (evIt Φ it σ' t) R (EX σ)
def Pat.slots : Pat → List Nat
  | .name i => [i]
  | .tup is => is
/-- a target -/
def TGv (p : Pat) : TG := fun v σ H Q => ∃ c t σ' w σ2, Good g.toGv c t H ∧ SRel g c H σ' σ ∧ WRel g.toGv c H w v ∧ putP p w σ' t = .ok σ2 t ∧
  ∀ σV, SRel g c H σ2 σV → (∀ vs : List Nat, (∀ i ∈ p.slots, i ∈ vs) → wipe σV vs = wipe σ vs) → Q σV H
def TFv (es : Es) : TT := fun σ H Q => ∃ c t σ', Good g.toGv c t H ∧ SRel g c H σ' σ ∧ Post g c H bR (evIfs Φ es σ' t) Q (EX σ)
end
section
variable {X : Cx} {g : Gx} {Φ : Fns} {EX : St → XK} {c : Cf} {t : Stt} {σ' : Sg} {σ : St} {H : Hp} {pos apos p : Pos} {a b d e o : Expr} {a' b' d' o' e' : E} {es : List Expr} {es' ks' : Es} {x m : Str} {tg : Expr}
theorem pi_seq {l : Expr} {tl : TE} (hl : PE X l tl) : PI X tg l (fun σ H R => tl σ H fun x H1 => ∃ a, x = .ref a ∧ (((∃ xs, SqL X.K H1 a xs) ∧ R (Itl X.K a) H1) ∨ ((∃ xs, SqT X.K H1 a xs) ∧ R (Itt X.K a) H1))) := by
  refine ⟨fun pins s σ H R I h => ?_⟩
  refine thn (hl.run pins s σ H _ I h) fun v s1 ⟨x, H1, I1, r1, q1⟩ => ?_
  obtain ⟨a, e, q⟩ := q1
  subst e
  cases r1
  rcases q with ⟨⟨xs, hq⟩, q⟩ | ⟨⟨xs, hq⟩, q⟩
  · obtain ⟨its, rv, p, hz⟩ := I1.list hq
    refine wpAny_pyIter_list p.isList ?_
    refine ⟨s1.heap.objs.size, [s1.heap.objs.size], _, _, H1, rfl, I1.kept (t' := s1.toks) fun b o e => Heap.get?_push_of_some _ e, turn_list a _, ⟨_, Heap.get?_push_size _ rfl, rfl, rfl⟩, fun b hb => ?_, q⟩
    have e : b = s1.heap.objs.size := by simpa using hb
    subst e
    exact I1.fpOk (Nat.le_refl _) (I1.hok.fresh (Nat.le_refl _))
  · obtain ⟨its, rv, p, hz⟩ := I1.tuple hq
    refine wpAny_pyIter_tuple (show s1.heap.IsTuple a its.toArray from p) ?_
    refine ⟨s1.heap.objs.size, [s1.heap.objs.size], _, _, H1, rfl, I1.kept (t' := s1.toks) fun b o e => Heap.get?_push_of_some _ e, turn_tuple a _, ⟨_, Heap.get?_push_size _ rfl, rfl, rfl⟩, fun b hb => ?_, q⟩
    have e : b = s1.heap.objs.size := by simpa using hb
    subst e
    exact I1.fpOk (Nat.le_refl _) (I1.hok.fresh (Nat.le_refl _))
theorem PI.to {e : Expr} {T T' : TI} (h : PI X tg e T) (k : ∀ σ H Q, T' σ H Q → T σ H Q) : PI X tg e T' := ⟨fun pins s σ H Q I q => h.run pins s σ H Q I (k σ H Q q)⟩
theorem oi_seq (hK : X.K = g.K) (h : PE X e (TEv g Φ EX e')) : PI X tg e (TIv g Φ EX (.seq e')) :=
  PI.to (pi_seq h) fun σ H R ⟨c, t, σ', G, S, P⟩ => by
    simp only [evIt] at P
    refine TEv.to G S P fun w t1 c1 H1 v st1 G1 S1 r1 P1 => ?_
    rw [hK]
    unfold srcOf at P1
    split at P1
    · rename_i s hs
      split at hs
      · rename_i xs
        cases hs
        obtain ⟨q, vs, rfl, h1, h2⟩ := wlst r1
        exact ⟨q, rfl, .inl ⟨⟨vs, SqL.of h1.1⟩, P1.ok G1 (.lst (.inl ⟨.inl h1.1, h1.2⟩) (.ofD h2))⟩⟩
      · rename_i xs
        cases hs
        obtain ⟨q, vs, rfl, h1, h2⟩ := wtup r1
        exact ⟨q, rfl, .inr ⟨⟨vs, h1⟩, P1.ok G1 (.tup h1 (.ofD h2))⟩⟩
      · rename_i xs
        cases hs
        obtain ⟨q, vs, rfl, h1, h2⟩ := RelD.klst_iff.mp (show RelD g.toGv c1.ρ c1.Z H1 (.klst xs) v from r1)
        exact ⟨q, rfl, .inl ⟨⟨vs, h1.sq⟩, P1.ok G1 (.lst h1 (.ofD h2))⟩⟩
      · rename_i n
        obtain ⟨q, rfl, eq⟩ := wref r1
        split at hs
        · rename_i xs hx
          cases hs
          obtain ⟨vs, h1, h2⟩ := G1.sc _ _ _ hx eq
          exact ⟨q, rfl, .inl ⟨⟨vs, SqL.of h1⟩, P1.ok G1 (.shr eq)⟩⟩
        · cases hs
      · rename_i i
        obtain ⟨q, eq, rfl⟩ := r1
        split at hs
        · rename_i z ws hx
          cases hs
          obtain ⟨vs, h1, h2, _⟩ := G1.lc _ _ _ hx eq
          exact ⟨q, rfl, .inl ⟨⟨vs, SqL.of h1⟩, P1.ok G1 (.loc eq)⟩⟩
        · cases hs
      · cases hs
    · exact P1.elim
theorem oi_str (h : PE X e (TEv g Φ EX e')) : PI X tg e (TIv g Φ EX (.str e')) :=
  PI.to (pi_str h) fun σ H R ⟨c, t, σ', G, S, P⟩ => by
    simp only [evIt] at P
    refine TEv.to G S P fun w t1 c1 H1 v st1 G1 S1 r1 P1 => ?_
    split at P1
    · split at P1
      · exact ⟨_, wstr r1, P1.ok G1 .str⟩
      · exact P1.elim
    · exact P1.elim
theorem oi_range1 (hg : Gl X "range") (hm : X.mg "range" = none) (h : PE X a (TEv g Φ EX a')) (hs : noStar a = true) : PI X tg (.Call (.Name "range" p) [a] [] pos) (TIv g Φ EX (.range1 a')) :=
  PI.to (pi_range1 hg hm (oks_cons h oks_nil hs) (starOk hs)) fun σ H R ⟨c, t, σ', G, S, P⟩ => by
    simp only [evIt] at P
    refine ⟨c, t, σ', G, S, ?_⟩
    cases e : evE Φ a' σ' t with
    | ok w t1 =>
      rw [e, MP.R.bind_ok] at P
      simp only [evEs, e, MP.R.bind_ok]
      intro c1 H1 vs st1 G1 r1
      obtain ⟨v, rfl, rv⟩ := ws1 r1
      have P1 := Post.step st1 P
      split at P1
      · split at P1
        · rename_i n hn
          refine ⟨n, by rw [wint rv], by omega, by omega, P1.ok G1 .rng⟩
        · exact P1.elim
      · exact P1.elim
    | exc x t1 =>
      rw [e] at P
      simp only [evEs, e, MP.R.bind_exc]
      exact P
    | stk => rw [e] at P; exact P.elim
theorem oi_range2 (hg : Gl X "range") (hm : X.mg "range" = none) (ha : PE X a (TEv g Φ EX a')) (hb : PE X b (TEv g Φ EX b')) (hs : noStar a = true) (hs2 : noStar b = true) : PI X tg (.Call (.Name "range" p) [a, b] [] pos) (TIv g Φ EX (.range2 a' b')) :=
  PI.to (pi_range2 hg hm (oks_cons ha (oks_cons hb oks_nil hs2) hs) (by rw [starOk hs, starOk hs2]; rfl) (starOk hs2)) fun σ H R ⟨c, t, σ', G, S, P⟩ => by
    simp only [evIt] at P
    refine ⟨c, t, σ', G, S, ?_⟩
    cases e : evE Φ a' σ' t with
    | ok w t1 =>
      rw [e, MP.R.bind_ok] at P
      cases e2 : evE Φ b' σ' t1 with
      | ok u t2 =>
        rw [e2, MP.R.bind_ok] at P
        simp only [evEs, e, e2, MP.R.bind_ok]
        intro c1 H1 vs st1 G1 r1
        obtain ⟨v, y, rfl, rv, ry⟩ := ws2 r1
        have P1 := Post.step st1 P
        split at P1
        · split at P1
          · rename_i m n hn
            refine ⟨m, n, by rw [wint rv, wint ry], by omega, P1.ok G1 .rng⟩
          · exact P1.elim
        · exact P1.elim
      | exc x t2 =>
        rw [e2] at P
        simp only [evEs, e, e2, MP.R.bind_ok, MP.R.bind_exc]
        exact P
      | stk => rw [e2] at P; exact P.elim
    | exc x t1 =>
      rw [e] at P
      simp only [evEs, e, MP.R.bind_exc]
      exact P
    | stk => rw [e] at P; exact P.elim
/-! ### targets -/
theorem wipe_get (σ : St) (j : Nat) : ∀ vs : List Nat, (wipe σ vs)[j]? = if j ∈ vs then (if j < σ.length then some none else none) else σ[j]?
  | [] => by simp [wipe]
  | v :: vs => by
    unfold wipe
    rw [List.getElem?_set, wipe_get σ j vs, wipe_length]
    by_cases h : v = j
    · subst h
      simp
    · rw [if_neg h]
      by_cases h2 : j ∈ vs
      · simp [h2]
      · have : j ∉ v :: vs := by simp [h2]; exact fun q => h q.symm
        rw [if_neg h2, if_neg this]
theorem wipe_same {σ σ2 : St} {vs : List Nat} (hl : σ2.length = σ.length) (h : ∀ j, j ∉ vs → σ2[j]? = σ[j]?) : wipe σ2 vs = wipe σ vs := by
  apply List.ext_getElem?
  intro j
  rw [wipe_get, wipe_get, hl]
  by_cases q : j ∈ vs
  · rw [if_pos q, if_pos q]
  · rw [if_neg q, if_neg q, h j q]
theorem wipe_idem (σ : St) (vs : List Nat) : wipe (wipe σ vs) vs = wipe σ vs := wipe_same (wipe_length σ vs) fun j h => by rw [wipe_get, if_neg h]
theorem og_name {i : Nat} {x : Str} (h : PG X (.Name x pos) (gName i)) : PG X (.Name x pos) (TGv g (.name i)) := by
  refine ⟨fun pins s σ H v u Q I r q => h.run pins s σ H v u Q I r ?_⟩
  obtain ⟨c, t, σ', w, σ2, G, S, rw', e, k⟩ := q
  simp only [putP] at e
  cases e
  refine k _ (S.set rw') fun vs hv => wipe_same (by simp) fun j hj => ?_
  rw [List.getElem?_set_ne]
  intro e
  exact hj (e ▸ hv i (by simp [Pat.slots]))
/-- names one behind the other -/
def gsN : List Nat → TGs
  | [] => gNil
  | i :: is => gCons (gName i) (gsN is)
def setsV : List Nat → List V → St → St
  | i :: is, v :: vs, σ => setsV is vs (σ.set i (some v))
  | _, _, σ => σ
theorem gsN_run : ∀ {is : List Nat} {xs : List V} {σ : St} {H : Hp} {Q : St → Hp → Prop}, xs.length = is.length → Q (setsV is xs σ) H → gsN is xs σ H Q
  | [], [], σ, H, Q, _, q => ⟨rfl, q⟩
  | [], _ :: _, _, _, _, h, _ => by simp at h
  | _ :: _, [], _, _, _, h, _ => by simp at h
  | i :: is, x :: xs, σ, H, Q, h, q => ⟨x, xs, rfl, gsN_run (by simpa using h) q⟩
theorem setsV_rel : ∀ {is : List Nat} {ds : List D} {xs : List V} {σ' : Sg} {σ : St}, SRel g c H σ' σ → RelDs g.toGv c.ρ c.Z H ds xs → SRel g c H ((is.zip ds).foldl (fun σ q => σ.set q.1 (some (.d q.2))) σ') (setsV is xs σ)
  | [], ds, xs, σ', σ, S, r => by
    cases ds with
    | nil => exact S
    | cons d ds =>
      simp only [RelDs] at r
      obtain ⟨v, vr, rfl, _⟩ := r
      exact S
  | i :: is, [], xs, σ', σ, S, r => by
    simp only [RelDs] at r
    subst r
    exact S
  | i :: is, d :: ds, xs, σ', σ, S, r => by
    simp only [RelDs] at r
    obtain ⟨v, vr, rfl, h1, h2⟩ := r
    exact setsV_rel (is := is) (S.set (w := .d d) h1) h2
theorem setsV_len : ∀ (is : List Nat) (xs : List V) (σ : St), (setsV is xs σ).length = σ.length
  | [], _, _ => by unfold setsV; rfl
  | _ :: _, [], _ => by unfold setsV; rfl
  | i :: is, x :: xs, σ => by unfold setsV; rw [setsV_len is xs]; simp
theorem setsV_get : ∀ (is : List Nat) (xs : List V) (σ : St) (j : Nat), j ∉ is → (setsV is xs σ)[j]? = σ[j]?
  | [], _, _, _, _ => by unfold setsV; rfl
  | _ :: _, [], _, _, _ => by unfold setsV; rfl
  | i :: is, x :: xs, σ, j, h => by
    unfold setsV
    rw [setsV_get is xs _ j fun q => h (by simp [q]), List.getElem?_set_ne]
    intro e
    exact h (by simp [e])
theorem og_tup {is : List Nat} {k : Nat} (hK : X.K = g.K) (h : PG X (.Tuple es k pos) (gTup X.K is.length (gsN is))) : PG X (.Tuple es k pos) (TGv g (.tup is)) := by
  refine ⟨fun pins s σ H v u Q I r q => h.run pins s σ H v u Q I r ?_⟩
  obtain ⟨c, t, σ', w, σ2, G, S, rw', e, k⟩ := q
  simp only [putP] at e
  split at e
  · rename_i ds
    split at e
    · rename_i hl
      cases e
      obtain ⟨q, xs, rfl, h1, h2⟩ := wtup rw'
      refine ⟨q, xs, rfl, by rw [hK]; exact h1, by rw [h2.length, hl], gsN_run (by rw [h2.length, hl]) (k _ (setsV_rel S h2) fun vs hv => wipe_same (setsV_len _ _ _) fun j hj => setsV_get _ _ _ _ fun q => hj (hv j q))⟩
    · cases e
  · cases e
end
end MP
end

/-! text MPL -/
section
set_option Elab.async false
set_option linter.all false
set_option maxRecDepth 100000
set_option maxHeartbeats 4000000
/-! MP, part L: comprehensions; statements. -/
namespace MP
open PySem L2 PySem.Spec
open PyProof.Rows hiding St

def noE : St → XK := fun _ _ _ _ => False
section
variable {X : Cx} {g : Gx} {Φ : Fns} {EX : St → XK} {c : Cf} {t : Stt} {σ' : Sg} {σ : St} {H : Hp} {pos apos p : Pos} {a b d e o : Expr} {a' b' d' o' e' : E} {es : List Expr} {es' ks' : Es} {x m : Str} {tg : Expr}
theorem of_nil : PTs X [] (TFv g Φ EX .nil) := ⟨fun pins s σ H Q I ⟨c, t, σ', G, S, P⟩ => by
  simp only [evIfs] at P
  exact pts_nil.run pins s σ H Q I (P.ok G rfl)⟩
theorem of_one (h : PT X a (TTv g Φ EX a')) : PTs X [a] (TFv g Φ EX (.cons a' .nil)) := ⟨fun pins s σ H Q I ⟨c, t, σ', G, S, P⟩ => by
  refine (pts_one h).run pins s σ H Q I ⟨c, t, σ', G, S, ?_⟩
  unfold tst
  simp only [evIfs] at P
  have e : ∀ (w : W) (t1 : Stt), ((truth w t1).bind fun k t => if k = true then MP.R.ok true t else .ok false t) = truth w t1 := fun w t1 => by
    cases e : truth w t1 with
    | ok k t2 => cases k <;> rfl
    | exc z t2 => rfl
    | stk => rfl
  simp only [e] at P
  exact P⟩
theorem comp_ok {w : Own} {own : List Nat} {pt : Pat} {it : It} {ifs : Es} (hpo : ∀ i ∈ pt.slots, i ∈ own) {σ : St} {H : Hp} {Q : VK} (h : TEv g Φ EX (.comp w own pt it ifs e') σ H Q) :
    tLc (TIv g Φ EX it) (TGv g pt) (TFv g Φ noE ifs) (TEv g Φ noE e') own σ H Q := by
  obtain ⟨c0, t0, σ', G0, S0, P0⟩ := h
  simp only [evE] at P0
  refine ⟨c0, t0, σ', G0, S0, Post.bind P0 fun src t1 c1 H1 J _ st1 G1 rs P1 => ?_⟩
  have S1 := S0.step st1 G0
  generalize hB : (fun (x : W) (t : Stt) => noX ((putP pt x (wipeS σ' own) t).bind fun σ t => (evIfs Φ ifs σ t).bind fun k t => if k = true then (evE Φ e' σ t).bind fun y t => MP.R.ok (some y) t else .ok none t)) = body at P1
  intro D hD
  have n1 := G1.fresh hD
  refine ⟨fun i m H => ∃ c t rest acc accV, rest = src.items.drop i ∧ m = rest.length ∧ Step c1 H1 c H ∧ Good g.toGv c t H ∧ SrcR g c H src J ∧ SRel g c H (wipeS σ' own) (wipe σ own) ∧ D ∉ c.ρ ∧ D ∉ c.l ∧ ¬ c.Z D ∧ H D = some (.lst accV) ∧ WRels g.toGv c H acc accV ∧
    Post g c1 H1 (wR g) ((compL src body rest acc t).bind fun ws t => mkLst w ws t) Q (EX σ), ⟨src.items.length, ?_⟩, ?_⟩
  · have i1 : Irr c1 H1 (upd H1 D (.lst [])) D := ⟨fun a q => upd_ne q, fun vs q => by rcases q with q | ⟨o, q⟩ <;> (rw [hD] at q; cases q), n1.1, n1.2.1, n1.2.2⟩
    exact ⟨c1, t1, src.items, [], [], rfl, rfl, (Step.refl c1 H1).irr hD i1, G1.irr i1, rs.irr i1, (S1.wipe own).irr i1, n1.1, n1.2.1, n1.2.2, upd_same, rfl, P1⟩
  · rintro i m H ⟨c, t, rest, acc, accV, er, em, st, G, sr, S, d1, d2, d3, hDl, ra, P⟩
    cases hr : rest with
    | nil =>
      rw [hr] at P er em
      have hlen : src.items.length ≤ i := by
        have := congrArg List.length er
        rw [List.length_drop] at this
        simp at this
        omega
      unfold compL at P
      cases hst : src.still t with
      | false => rw [hst, if_neg (by decide)] at P; exact P.elim
      | true =>
        rw [hst, if_pos rfl, MP.R.bind_ok] at P
        refine .inl ⟨(turn_ok G sr hst i).2 hlen, ?_⟩
        have hi : Irr c H (fun a => if a = D then none else H a) D := ⟨fun a q => by show (if a = D then none else H a) = _; rw [if_neg q], fun vs q => by rcases q with q | ⟨o, q⟩ <;> (rw [hDl] at q; cases q), d1, d2, d3⟩
        have q := mkLst_ok (G.irr hi) (ra.irr hi) (Post.step (st.irr hD hi) P) D (by show (if D = D then none else H D) = none; rw [if_pos rfl])
        have eH : upd (fun a => if a = D then none else H a) D (.lst accV) = H := by
          funext a
          by_cases q : a = D
          · subst q; rw [upd_same, hDl]
          · rw [upd_ne q]; show (if a = D then none else H a) = _; rw [if_neg q]
        rw [eH] at q
        exact q
    | cons y r =>
      rw [hr] at P er em
      have hi : src.items[i]? = some y := by
        have := congrArg (fun l => l[0]?) er
        simp at this
        exact this.symm
      have er2 : r = src.items.drop (i + 1) := by
        have := congrArg List.tail er
        simp at this
        exact this
      unfold compL at P
      cases hst : (src.still t && decide (acc.length < LIM)) with
      | false => rw [hst, if_neg (by decide)] at P; exact P.elim
      | true =>
        rw [hst, if_pos rfl] at P
        rw [Bool.and_eq_true] at hst
        obtain ⟨hst, hal⟩ := hst
        have hal := of_decide_eq_true hal
        obtain ⟨go, yl⟩ := (turn_ok G sr hst i).1 y hi
        refine .inr ⟨go, fun H' => ∃ c t acc accV, Step c1 H1 c H' ∧ Good g.toGv c t H' ∧ SrcR g c H' src J ∧ SRel g c H' (wipeS σ' own) (wipe σ own) ∧ D ∉ c.ρ ∧ D ∉ c.l ∧ ¬ c.Z D ∧ H' D = some (.lst accV) ∧ WRels g.toGv c H' acc accV ∧
          Post g c1 H1 (wR g) ((compL src body r acc t).bind fun ws t => mkLst w ws t) Q (EX σ), fun H' ⟨c, t, acc, accV, q⟩ => ⟨r.length, by rw [em]; exact Nat.lt_succ_self _, c, t, r, acc, accV, er2, rfl, q⟩, fun x H' hy => ?_⟩
        obtain ⟨rfl, rx⟩ := yl x H' hy
        -- the turn
        rw [← hB] at P
        simp only at P
        cases e1 : putP pt y (wipeS σ' own) t with
        | exc z t2 => rw [e1] at P; exact P.elim
        | stk => rw [e1] at P; exact P.elim
        | ok σ2 t2 =>
          have et : t2 = t := by
            unfold putP at e1
            split at e1
            · cases e1; rfl
            · split at e1
              · split at e1
                · cases e1; rfl
                · cases e1
              · cases e1
          subst et
          rw [e1, MP.R.bind_ok] at P
          refine ⟨c, t2, wipeS σ' own, y, σ2, G, S, rx, e1, fun σV S2 hw => ⟨by rw [hw own hpo, wipe_idem], ?_⟩⟩
          cases e2 : evIfs Φ ifs σ2 t2 with
          | exc z t3 => rw [e2] at P; exact P.elim
          | stk => rw [e2] at P; exact P.elim
          | ok k t3 =>
            rw [e2, MP.R.bind_ok] at P
            refine ⟨c, t2, σ2, G, S2, ?_⟩
            rw [e2]
            intro c3 H3 b st3 G3 rb
            have rb : k = b := rb
            subst rb
            have H3D : H3 D = some (.lst accV) := st3.fr D _ hDl d1 d2
            have off3 : D ∉ c3.ρ ∧ D ∉ c3.l ∧ ¬ c3.Z D := by
              refine ⟨fun q => ?_, fun q => ?_, fun q => ?_⟩
              · rcases st3.nρ D q with q | q
                · exact d1 q
                · rw [hDl] at q; cases q
              · rcases st3.nl D q with q | q
                · exact d2 q
                · rw [hDl] at q; cases q
              · rcases st3.nz D q with q | q | q
                · exact d3 q
                · exact d2 q
                · rw [hDl] at q; cases q
            cases k with
            | false =>
              rw [if_neg (by decide)] at P ⊢
              rw [noX_ok, MP.R.bind_ok, hB] at P
              exact ⟨c3, t3, acc, accV, st.trans st3, G3, sr.step st3 G, S.step st3 G, off3.1, off3.2.1, off3.2.2, H3D, ra.step st3 G, P⟩
            | true =>
              rw [if_pos rfl] at P ⊢
              cases e3 : evE Φ e' σ2 t3 with
              | exc z t4 => rw [e3] at P; exact P.elim
              | stk => rw [e3] at P; exact P.elim
              | ok z t4 =>
                rw [e3, MP.R.bind_ok, noX_ok, MP.R.bind_ok, hB] at P
                refine ⟨c3, t3, σ2, G3, S2.step st3 G, ?_⟩
                rw [e3]
                intro c4 H4 u st4 G4 ru
                have H4D : H4 D = some (.lst accV) := st4.fr D _ H3D off3.1 off3.2.1
                have off4 : D ∉ c4.ρ ∧ D ∉ c4.l ∧ ¬ c4.Z D := by
                  refine ⟨fun q => ?_, fun q => ?_, fun q => ?_⟩
                  · rcases st4.nρ D q with q | q
                    · exact off3.1 q
                    · rw [H3D] at q; cases q
                  · rcases st4.nl D q with q | q
                    · exact off3.2.1 q
                    · rw [H3D] at q; cases q
                  · rcases st4.nz D q with q | q | q
                    · exact off3.2.2 q
                    · exact off3.2.1 q
                    · rw [H3D] at q; cases q
                have ra4 := (ra.step st3 G).step st4 G3
                refine ⟨accV, H4D, by rw [ra4.length]; exact Nat.lt_of_lt_of_le hal lim_line, ?_⟩
                have i5 : Irr c4 H4 (upd H4 D (.lst (accV ++ [u]))) D := ⟨fun a q => upd_ne q, fun vs q => by rcases q with q | ⟨o, q⟩ <;> (rw [H4D] at q; cases q), off4.1, off4.2.1, off4.2.2⟩
                exact ⟨c4, t4, acc ++ [z], accV ++ [u], ((st.trans st3).trans st4).irr hD i5, G4.irr i5, ((sr.step st3 G).step st4 G3).irr i5, ((S.step st3 G).step st4 G3).irr i5, off4.1, off4.2.1, off4.2.2, upd_same, (WRels.append ra4 (show WRels g.toGv c4 H4 [z] [u] from ⟨u, [], rfl, ru, rfl⟩)).irr i5, P⟩
theorem ok_comp {w : Own} {own : List (Str × Nat)} {ownN : List Nat} {pt : Pat} {it : It} {ifs : Es} {elt iter : Expr} {ifsE : List Expr} {scope : Scope} (hpo : ∀ i ∈ pt.slots, i ∈ ownN) (hon : own.map (·.2) = ownN) (hc : X.calm = true) (hN : X.N.Nodup) (hi : PI X tg iter (TIv g Φ EX it)) (ok : BlkOk X.N X.env.scope scope own)
    (hg : ∀ (s : Shared) (H : Hp) (C : Addr) (cl : List (Str × Addr)) (fp : List Addr), PG (X.blk s H scope (compEnvC scope cl C X.env) fp) tg (TGv g pt)) (ht : ∀ (s : Shared) (H : Hp) (C : Addr) (cl : List (Str × Addr)) (fp : List Addr), PTs (X.blk s H scope (compEnvC scope cl C X.env) fp) ifsE (TFv g Φ noE ifs))
    (he : ∀ (s : Shared) (H : Hp) (C : Addr) (cl : List (Str × Addr)) (fp : List Addr), PE (X.blk s H scope (compEnvC scope cl C X.env) fp) elt (TEv g Φ noE e')) (hs : ∀ x, foldedSetIterable iter X.env x = pure x) :
    PE X (.ListComp elt [⟨tg, iter, ifsE, 0⟩] scope pos) (TEv g Φ EX (.comp w ownN pt it ifs e')) :=
  PE.to (pe_lc hc hN hi ok hg ht he hs) fun σ H Q h => by rw [hon]; exact comp_ok hpo h
end
/-! ### statements -/
def PostS (g : Gx) (EX : St → XK) (c : Cf) (H : Hp) (r : RS) (D : Ends) : Prop := match r with
  | .next σ t => ∀ c' H' σV, Step c H c' H' → Good g.toGv c' t H' → SRel g c' H' σ σV → D.nx σV H'
  | .brk σ t => ∀ c' H' σV, Step c H c' H' → Good g.toGv c' t H' → SRel g c' H' σ σV → D.bk σV H'
  | .cnt σ t => ∀ c' H' σV, Step c H c' H' → Good g.toGv c' t H' → SRel g c' H' σ σV → D.ct σV H'
  | .ret w t => ∀ c' H' v, Step c H c' H' → Good g.toGv c' t H' → WRel g.toGv c' H' w v → D.rt v H'
  | .exc x σ t => ∀ c' H' σV cls dx, Step c H c' H' → Good g.toGv c' t H' → SRel g c' H' σ σV → XRel g.toGv g.xa g.fx c' H' x cls dx → EX σV cls dx H'
  | .stk => False
def TSv (g : Gx) (Φ : Fns) (EX : St → XK) (s : S) : TS := fun D σ H => ∃ c t σ', Good g.toGv c t H ∧ SRel g c H σ' σ ∧ PostS g EX c H (evS Φ s σ' t) D
def TSs (g : Gx) (Φ : Fns) (EX : St → XK) (s : List S) : TS := fun D σ H => ∃ c t σ', Good g.toGv c t H ∧ SRel g c H σ' σ ∧ PostS g EX c H (evSs Φ s σ' t) D
section
variable {X : Cx} {g : Gx} {Φ : Fns} {EX : St → XK} {c : Cf} {t : Stt} {σ' : Sg} {σ : St} {H : Hp} {D : Ends}
theorem PostS.step {r : RS} {c1 : Cf} {H1 : Hp} (st : Step c H c1 H1) (h : PostS g EX c H r D) : PostS g EX c1 H1 r D := by
  cases r with
  | next σ t => exact fun c' H' σV s => h c' H' σV (st.trans s)
  | brk σ t => exact fun c' H' σV s => h c' H' σV (st.trans s)
  | cnt σ t => exact fun c' H' σV s => h c' H' σV (st.trans s)
  | ret w t => exact fun c' H' v s => h c' H' v (st.trans s)
  | exc x σ t => exact fun c' H' σV cls dx s => h c' H' σV cls dx (st.trans s)
  | stk => exact h
theorem stm_to {α β : Type} {rel : Cf → Hp → α → β → Prop} {r : MP.R α} {f : α → Stt → RS} {Q1 : β → Hp → Prop} (G : Good g.toGv c t H) (S : SRel g c H σ' σ) (P : PostS g EX c H (r.stm σ' f) D)
    (k : ∀ w t' c' H' v, r = .ok w t' → Step c H c' H' → Good g.toGv c' t' H' → SRel g c' H' σ' σ → rel c' H' w v → PostS g EX c' H' (f w t') D → Q1 v H') : Post g c H rel r Q1 (EX σ) := by
  cases r with
  | ok w t' => exact fun c' H' v st G' rl => k w t' c' H' v rfl st G' (S.step st G) rl (PostS.step st P)
  | exc x t' => exact fun c' H' cls dx st G' xr => P c' H' σ cls dx st G' (S.step st G) xr
  | stk => exact P
theorem PS.to {st : Stmt} {T T' : TS} (h : PS X st T) (k : ∀ D σ H, T' D σ H → T D σ H) : PS X st T' := ⟨fun pins s σ H D I q => h.run pins s σ H D I (k D σ H q)⟩
theorem PSs.to {st : List Stmt} {T T' : TS} (h : PSs X st T) (k : ∀ D σ H, T' D σ H → T D σ H) : PSs X st T' := ⟨fun pins s σ H D I q => h.run pins s σ H D I (k D σ H q)⟩
variable {pos pos' apos p : Pos} {a b d e o : Expr} {a' b' d' o' e' : E} {x : Str} {tg : Expr} {st : Stmt} {rest : List Stmt} {s' : S} {r' : List S}
theorem os_nil : PSs X [] (TSs g Φ EX []) := PSs.to pss_nil fun D σ H ⟨c, t, σ', G, S, P⟩ => by
  simp only [evSs] at P
  exact P c H σ (Step.refl c H) G S
theorem os_cons (h : PS X st (TSv g Φ EX s')) (hr : PSs X rest (TSs g Φ EX r')) : PSs X (st :: rest) (TSs g Φ EX (s' :: r')) :=
  PSs.to (pss_cons h hr) fun D σ H ⟨c, t, σ', G, S, P⟩ => by
    simp only [evSs] at P
    refine ⟨c, t, σ', G, S, ?_⟩
    cases e : evS Φ s' σ' t with
    | next σ2 t2 =>
      rw [e, RS.seq_next] at P
      exact fun c' H' σV st G' S' => ⟨c', t2, σ2, G', S', PostS.step st P⟩
    | brk σ2 t2 => rw [e] at P; exact P
    | cnt σ2 t2 => rw [e] at P; exact P
    | ret w t2 => rw [e] at P; exact P
    | exc z σ2 t2 => rw [e] at P; exact P
    | stk => rw [e] at P; exact P
def notComp : Expr → Bool
  | .ListComp .. => false
  | .SetComp .. => false
  | .DictComp .. => false
  | _ => true
theorem swaps_no {tg : Option Expr} {l : Nat} {env : Env} (h : notComp e = true) : swapsWith e tg l env = pure false := by
  cases e <;> first | rfl | cases h
theorem put_st {p : Pat} {w : W} {σ' σ2 : Sg} {t t2 : Stt} (e1 : putP p w σ' t = .ok σ2 t2) : t2 = t := by
  unfold putP at e1
  split at e1
  · cases e1; rfl
  · split at e1
    · split at e1
      · cases e1; rfl
      · cases e1
    · cases e1
/-- a target, an expression -/
theorem asgT {pt : Pat} {D : Ends} (h : TSv g Φ EX (.set pt e') D σ H) : TEv g Φ EX e' σ H fun x H1 => TGv g pt x σ H1 D.nx := by
  obtain ⟨c, t, σ', G, S, P⟩ := h
  simp only [evS] at P
  refine ⟨c, t, σ', G, S, stm_to G S P fun w t1 c1 H1 v _ st1 G1 S1 r1 P1 => ?_⟩
  cases e1 : putP pt w σ' t1 with
  | ok σ2 t2 =>
    have et := put_st e1
    subst et
    rw [e1] at P1
    exact ⟨c1, t2, σ', w, σ2, G1, S1, r1, e1, fun σV S2 _ => P1 c1 H1 σV (Step.refl _ _) G1 S2⟩
  | exc z t2 =>
    exfalso
    unfold putP at e1
    split at e1
    · cases e1
    · split at e1
      · split at e1 <;> cases e1
      · cases e1
  | stk => rw [e1] at P1; exact P1.elim
theorem os_asg {pt : Pat} (he : PE X e (TEv g Φ EX e')) (hg : PG X tg (TGv g pt)) (hs : swapsWithSole [tg] e pos.line X.env = pure false) (hw : swappedStores [tg] e X.env = pure none)
    (h1 : (assignEach [tg] X.env).map (·.2) = [assign tg X.env]) : PS X (.Assign [tg] e pos) (TSv g Φ EX (.set pt e')) :=
  PS.to (ps_asg he hg hs hw h1) fun D σ H h => asgT h
theorem os_set {i : Nat} (hN : X.N.Nodup) (hi : X.N[i]? = some x) (hx : Loc X.env.scope x) (hf : X.fn x = true ∨ X.env.scope.names.lookup x = some .local) (he : PE X e (TEv g Φ EX e')) (hs : swapsWith e (some (.Name x pos')) pos.line X.env = pure false) :
    PS X (.Assign [.Name x pos'] e pos) (TSv g Φ EX (.set (.name i) e')) :=
  PS.to (ps_set hN hi hx he hs hf) fun D σ H ⟨c, t, σ', G, S, P⟩ => by
    simp only [evS] at P
    refine ⟨c, t, σ', G, S, stm_to G S P fun w t1 c1 H1 v _ st1 G1 S1 r1 P1 => ?_⟩
    simp only [putP, MP.R.stm_ok] at P1
    exact P1 c1 H1 _ (Step.refl _ _) G1 (S1.set r1)
theorem os_setLc {i : Nat} {w : Own} {own : List (Str × Nat)} {ownN : List Nat} {pt : Pat} {it : It} {ifs : Es} {elt iter : Expr} {ifsE : List Expr} {scope : Scope} {spos : Pos} (hpo : ∀ i ∈ pt.slots, i ∈ ownN) (hon : own.map (·.2) = ownN) (hc : X.calm = true) (hN : X.N.Nodup) (hi : PI X tg iter (TIv g Φ EX it)) (ok : BlkOk X.N X.env.scope scope own)
    (hg : ∀ (s : Shared) (H : Hp) (C : Addr) (cl : List (Str × Addr)) (fp : List Addr), PG (X.blk s H scope (compEnvC scope cl C X.env) fp) tg (TGv g pt)) (ht : ∀ (s : Shared) (H : Hp) (C : Addr) (cl : List (Str × Addr)) (fp : List Addr), PTs (X.blk s H scope (compEnvC scope cl C X.env) fp) ifsE (TFv g Φ noE ifs))
    (he : ∀ (s : Shared) (H : Hp) (C : Addr) (cl : List (Str × Addr)) (fp : List Addr), PE (X.blk s H scope (compEnvC scope cl C X.env) fp) elt (TEv g Φ noE e')) (hs : ∀ x, foldedSetIterable iter X.env x = pure x)
    (hy : X.N[i]? = some x) (hyl : X.env.scope.names.lookup x = some .local) (hsw : swapsWith (.ListComp elt [⟨tg, iter, ifsE, 0⟩] scope pos) (some (.Name x pos')) spos.line X.env = pure true) :
    PS X (.Assign [.Name x pos'] (.ListComp elt [⟨tg, iter, ifsE, 0⟩] scope pos) spos) (TSv g Φ EX (.set (.name i) (.comp w ownN pt it ifs e'))) :=
  PS.to (ps_setLc hc hN hy hyl hsw hi ok hg ht he hs) fun D σ H ⟨c, t, σ', G, S, P⟩ => by
    rw [hon]
    simp only [evS] at P
    refine comp_ok (w := w) hpo ⟨c, t, σ', G, S, stm_to G S P fun w t1 c1 H1 v _ st1 G1 S1 r1 P1 => ?_⟩
    simp only [putP, MP.R.stm_ok] at P1
    exact P1 c1 H1 _ (Step.refl _ _) G1 (S1.set r1)
theorem os_par {i j : Nat} {y : Str} {px py pt : Pos} {kt k2 : Nat} {pt2 : Pos} (hc : X.calm = true) (hN : X.N.Nodup) (hi : X.N[i]? = some x) (hj : X.N[j]? = some y) (hij : i ≠ j)
    (hx : X.env.scope.names.lookup x = some .local) (hy : X.env.scope.names.lookup y = some .local) (ha : PE X a (TEv g Φ EX a')) (hb : PE X b (TEv g Φ EX b')) (sa : noStar a = true) (sb : noStar b = true)
    (hw : swappedStores [.Tuple [.Name x px, .Name y py] kt pt] (.Tuple [a, b] k2 pt2) X.env = pure (some [x, y])) :
    PS X (.Assign [.Tuple [.Name x px, .Name y py] kt pt] (.Tuple [a, b] k2 pt2) pos) (TSv g Φ EX (.par i j a' b')) :=
  PS.to (ps_par hc hN hi hj hij hx hy (oks_cons ha (oks_cons hb oks_nil sb) sa) hw) fun D σ H ⟨c, t, σ', G, S, P⟩ => by
    simp only [evS] at P
    refine ⟨c, t, σ', G, S, ?_⟩
    cases e : evE Φ a' σ' t with
    | ok w t1 =>
      rw [e, MP.R.stm_ok] at P
      cases e2 : evE Φ b' σ' t1 with
      | ok u t2 =>
        rw [e2, MP.R.stm_ok] at P
        simp only [evEs, e, e2, MP.R.bind_ok]
        intro c1 H1 vs st1 G1 r1
        obtain ⟨v, y, rfl, rv, ry⟩ := ws2 r1
        exact ⟨v, y, rfl, P c1 H1 _ st1 G1 (((S.step st1 G).set rv).set ry)⟩
      | exc x t2 =>
        rw [e2] at P
        simp only [evEs, e, e2, MP.R.bind_ok, MP.R.bind_exc]
        exact fun c' H' cls dx st G' xr => P c' H' σ cls dx st G' (S.step st G) xr
      | stk => rw [e2] at P; exact P.elim
    | exc x t1 =>
      rw [e] at P
      simp only [evEs, e, MP.R.bind_exc]
      exact fun c' H' cls dx st G' xr => P c' H' σ cls dx st G' (S.step st G) xr
    | stk => rw [e] at P; exact P.elim
theorem os_fld {i : Nat} (hK : X.K = g.K) (ho : PE X o (TEv g Φ EX o')) (he : PE X e (TEv g Φ EX e')) (hc : ∀ C, Cls X.K (g.cadr C) ∧ NoAttr X.K (g.cadr C) (g.fname i)) (hx : x = g.fname i) (hs : notComp e = true) : PS X (.Assign [.Attribute o x pos'] e pos) (TSv g Φ EX (.setf o' i e')) := by
  subst hx
  refine PS.to (ps_fld ho he (swaps_no hs)) fun D σ H ⟨c, t, σ', G, S, P⟩ => ?_
  simp only [evS] at P
  refine ⟨c, t, σ', G, S, stm_to G S P fun w t1 c1 H1 v _ st1 G1 S1 r1 P1 => ?_⟩
  cases ed : toD w t1 with
  | exc z t2 => exact absurd ed toD_noexc
  | stk => rw [ed] at P1; exact P1.elim
  | ok d t2 =>
    rw [ed, MP.R.stm_ok] at P1
    obtain ⟨c2, st2, G2, rd⟩ := toD_ok G1 r1 ed
    have S2 := S1.step st2 G1
    refine ⟨c2, t2, σ', G2, S2, stm_to G2 S2 (PostS.step st2 P1) fun u t3 c3 H3 y _ st3 G3 S3 r3 P3 => ?_⟩
    split at P3
    · rename_i n
      split at P3
      · rename_i C fs hfs
        split at P3
        · rename_i hl
          obtain ⟨q, rfl, eq⟩ := wref r3
          obtain ⟨dx, fvs, h1, h2⟩ := G3.sc _ _ _ hfs eq
          obtain ⟨k1, k2⟩ := hc C
          refine ⟨q, _, dx, fvs, rfl, h1, k1, k2, by rw [h2.length]; omega, ?_⟩
          have rd3 := RelD.mon (st3.mon G2) rd
          obtain ⟨st4, G4⟩ := G3.writeS (s' := .ins C (putFl i d fs)) (o' := .ins (g.cadr C) dx (putF (g.fname i) v fvs)) hfs eq (.inr ⟨_, _, _, rfl⟩) fun st => ⟨dx, _, upd_same, FRel.mon (st.mon G3) (FRel.put rd3 h2)⟩
          exact P3 c3 _ σ st4 G4 (S3.step st4 G3)
        · exact P3.elim
      · exact P3.elim
    · exact P3.elim
/-- o[i] = v by values -/
def rSet3 (g : Gx) : TSet := fun o i v H Q => ∃ c t w1 w2 w3 E, Good g.toGv c t H ∧ WRel g.toGv c H w1 o ∧ WRel g.toGv c H w2 i ∧ WRel g.toGv c H w3 v ∧ Post g c H (fun _ _ (_ : Unit) (_ : Unit) => True) (subsSet w1 w2 w3 t) (fun _ H' => Q H') E
theorem setS : PSet X (rSet3 g) := by
  intro pins s σ H o i v ov iv u Q I ro ri rv h
  obtain ⟨c, t, w1, w2, w3, E, G, r1, r2, r3, P⟩ := h
  unfold subsSet at P
  split at P
  · rename_i k
    cases wint r2
    have P' : Post g c H (wR g) (writeL w1 (fun xs => match idx xs.length k with
      | some j => some (xs.set j w3, .d .non)
      | none => none) t) (fun _ H' => Q H') E := Post.bind P fun w t' c' H' v e st G' rl P1 => P1.ok (v := ()) G' trivial
    obtain ⟨l, xs, ws, ys, rw', rfl, h1, h2, hf, hl, kk⟩ := writeL_ok G r1 P'
    split at hf
    · rename_i j hj
      cases hf
      exact set_list pins s σ H _ _ v ov iv u Q I ro ri rv ⟨l, xs, _, j, rfl, rfl, h1, by rw [h2.length]; exact idx_ok hj, kk _ _ (WRels.set r3 j h2) non_w⟩
    · cases hf
  · exact P.elim
def notSlice : Expr → Bool
  | .Slice .. => false
  | _ => true
theorem os_sub (hsl : notSlice a = true) (ho : PE X o (TEv g Φ EX o')) (hi : PE X a (TEv g Φ EX a')) (he : PE X e (TEv g Φ EX e')) (hs : notComp e = true) : PS X (.Assign [.Subscript o a pos'] e pos) (TSv g Φ EX (.seti o' a' e')) :=
  PS.to (ps_asg he (pg_sub ho hi setS (fun v => by cases a <;> first | rfl | cases hsl)) (show swapsWith e (some (.Subscript o a pos')) pos.line X.env = pure false from swaps_no hs) (by cases e <;> rfl)) fun D σ H ⟨c, t, σ', G, S, P⟩ => by
    simp only [evS] at P
    refine ⟨c, t, σ', G, S, stm_to G S P fun w t1 c1 H1 v _ st1 G1 S1 r1 P1 => ?_⟩
    refine ⟨c1, t1, σ', G1, S1, stm_to G1 S1 P1 fun u t2 c2 H2 y _ st2 G2 S2 r2 P2 => ?_⟩
    refine ⟨c2, t2, σ', G2, S2, stm_to G2 S2 P2 fun z t3 c3 H3 y3 _ st3 G3 S3 r3 P3 => ?_⟩
    refine ⟨c3, t3, u, z, w, EX σ, G3, r2.step st3 G2, r3, (r1.step st2 G1).step st3 G2, stm_to G3 S3 P3 fun _ t4 c4 H4 _ _ st4 G4 S4 _ P4 => ?_⟩
    exact P4 c4 H4 σ (Step.refl _ _) G4 S4
theorem os_ex (he : PE X e (TEv g Φ EX e')) (hs : notComp e = true) : PS X (.Expr e pos) (TSv g Φ EX (.ex e')) :=
  PS.to (ps_expr he (swaps_no hs)) fun D σ H ⟨c, t, σ', G, S, P⟩ => by
    simp only [evS] at P
    exact ⟨c, t, σ', G, S, stm_to G S P fun w t1 c1 H1 v _ st1 G1 S1 r1 P1 => P1 c1 H1 σ (Step.refl _ _) G1 S1⟩
theorem os_ret (he : PE X e (TEv g Φ EX e')) : PS X (.Return (some e) pos) (TSv g Φ EX (.ret e')) :=
  PS.to (ps_ret he) fun D σ H ⟨c, t, σ', G, S, P⟩ => by
    simp only [evS] at P
    exact ⟨c, t, σ', G, S, stm_to G S P fun w t1 c1 H1 v _ st1 G1 S1 r1 P1 => P1 c1 H1 v (Step.refl _ _) G1 r1⟩
theorem os_retN : PS X (.Return none pos) (TSv g Φ EX .retN) :=
  PS.to ps_retN fun D σ H ⟨c, t, σ', G, S, P⟩ => by
    simp only [evS] at P
    exact P c H .non (Step.refl _ _) G non_w
theorem os_if {sa sb : List Stmt} {ra rb : List S} (hc : PT X d (TTv g Φ EX d')) (ha : PSs X sa (TSs g Φ EX ra)) (hb : PSs X sb (TSs g Φ EX rb)) : PS X (.If d sa sb pos) (TSv g Φ EX (.ife d' ra rb)) :=
  PS.to (ps_if hc ha hb) fun D σ H ⟨c, t, σ', G, S, P⟩ => by
    simp only [evS] at P
    refine ⟨c, t, σ', G, S, stm_to G S P fun k t1 c1 H1 v _ st1 G1 S1 r1 P1 => ?_⟩
    have r1 : k = v := r1
    subst r1
    cases k with
    | true => exact ⟨c1, t1, σ', G1, S1, P1⟩
    | false => exact ⟨c1, t1, σ', G1, S1, P1⟩
theorem os_pass : PS X (.Pass pos) (TSv g Φ EX .pas) := PS.to ps_pass fun D σ H ⟨c, t, σ', G, S, P⟩ => by
  simp only [evS] at P
  exact P c H σ (Step.refl _ _) G S
theorem os_break : PS X (.Break pos) (TSv g Φ EX .brk) := PS.to ps_break fun D σ H ⟨c, t, σ', G, S, P⟩ => by
  simp only [evS] at P
  exact P c H σ (Step.refl _ _) G S
theorem os_cont : PS X (.Continue pos) (TSv g Φ EX .cnt) := PS.to ps_continue fun D σ H ⟨c, t, σ', G, S, P⟩ => by
  simp only [evS] at P
  exact P c H σ (Step.refl _ _) G S
theorem os_nev : PS X st (TSv g Φ EX .nev) := PS.to ps_never fun D σ H ⟨c, t, σ', G, S, P⟩ => by
  simp only [evS] at P
  exact P.elim
/-- a loop's body -/
theorem loop_body {r : RS} {f : Sg → Stt → RS} {N : St → Hp → Prop} (P : PostS g EX c H (match r with | .next σ t => f σ t | .cnt σ t => f σ t | .brk σ t => .next σ t | o => o) D)
    (k : ∀ σ2 t2 c' H' σV, Step c H c' H' → Good g.toGv c' t2 H' → SRel g c' H' σ2 σV → PostS g EX c' H' (f σ2 t2) D → N σV H') : PostS g EX c H r { D with nx := N, ct := N, bk := D.nx } := by
  cases r with
  | next σ2 t2 => exact fun c' H' σV st G' S' => k σ2 t2 c' H' σV st G' S' (PostS.step st P)
  | cnt σ2 t2 => exact fun c' H' σV st G' S' => k σ2 t2 c' H' σV st G' S' (PostS.step st P)
  | brk σ2 t2 => exact P
  | ret w t2 => exact P
  | exc z σ2 t2 => exact P
  | stk => exact P
theorem os_while {sb : List Stmt} {rb : List S} (hp : PassesOwn (model X.prog X.w) X.A X.env X.xe) (hc : PT X d (TTv g Φ EX d')) (hb : PSs X sb (TSs g Φ EX rb)) : PS X (.While d sb [] pos) (TSv g Φ EX (.whl d' rb)) :=
  PS.to (ps_while hp hc hb) fun D σ H ⟨c, t, σ', G, S, P⟩ => by
    simp only [evS] at P
    refine ⟨fun m σ H => ∃ c t σ', Good g.toGv c t H ∧ SRel g c H σ' σ ∧ PostS g EX c H (whlL (tst Φ d') (evSs Φ rb) m σ' t) D, ⟨FUEL, c, t, σ', G, S, P⟩, ?_⟩
    rintro m σ H ⟨c, t, σ', G, S, P⟩
    cases m with
    | zero => exact False.elim P
    | succ n =>
      unfold whlL at P
      refine ⟨c, t, σ', G, S, stm_to G S P fun k t1 c1 H1 v _ st1 G1 S1 r1 P1 => ?_⟩
      have r1 : k = v := r1
      subst r1
      cases k with
      | false => exact P1 c1 H1 σ (Step.refl _ _) G1 S1
      | true =>
        rw [if_pos rfl] at P1 ⊢
        refine ⟨fun σ H => ∃ c t σ', Good g.toGv c t H ∧ SRel g c H σ' σ ∧ PostS g EX c H (whlL (tst Φ d') (evSs Φ rb) n σ' t) D, fun σ2 H2 q => ⟨n, Nat.lt_succ_self n, q⟩, c1, t1, σ', G1, S1, ?_⟩
        exact loop_body P1 fun σ2 t2 c' H' σV st G' S' P' => ⟨c', t2, σ2, G', S', P'⟩
theorem os_for {it : It} {pt : Pat} {iter : Expr} {sb : List Stmt} {rb : List S} (hp : PassesOwn (model X.prog X.w) X.A X.env X.xe) (hc : X.calm = true) (hi : PI X tg iter (TIv g Φ EX it)) (hg : PG X tg (TGv g pt)) (hb : PSs X sb (TSs g Φ EX rb)) (hs : ∀ x, foldedSetIterable iter X.env x = pure x) :
    PS X (.For tg iter sb [] pos) (TSv g Φ EX (.fr pt it rb)) :=
  PS.to (ps_for hp hc hi hg hb hs) fun D σ H ⟨c, t, σ', G, S, P⟩ => by
    simp only [evS] at P
    refine ⟨c, t, σ', G, S, stm_to G S P fun src t1 c1 H1 J _ st1 G1 S1 rs P1 => ?_⟩
    refine ⟨fun i m σ H => ∃ c t σ' rest, rest = src.items.drop i ∧ m = rest.length ∧ Good g.toGv c t H ∧ SRel g c H σ' σ ∧ SrcR g c H src J ∧ PostS g EX c H (forL src pt (evSs Φ rb) rest σ' t) D, ⟨src.items.length, c1, t1, σ', src.items, rfl, rfl, G1, S1, rs, P1⟩, ?_⟩
    rintro i m σ H ⟨c, t, σ', rest, er, em, G, S, sr, P⟩
    cases hr : rest with
    | nil =>
      rw [hr] at P er em
      have hlen : src.items.length ≤ i := by
        have := congrArg List.length er
        rw [List.length_drop] at this
        simp at this
        omega
      unfold forL at P
      cases hst : src.still t with
      | false => rw [hst, if_neg (by decide)] at P; exact P.elim
      | true =>
        rw [hst, if_pos rfl] at P
        exact .inl ⟨(turn_ok G sr hst i).2 hlen, P c H σ (Step.refl _ _) G S⟩
    | cons y r =>
      rw [hr] at P er em
      have hiy : src.items[i]? = some y := by
        have := congrArg (fun l => l[0]?) er
        simp at this
        exact this.symm
      have er2 : r = src.items.drop (i + 1) := by
        have := congrArg List.tail er
        simp at this
        exact this
      unfold forL at P
      cases hst : src.still t with
      | false => rw [hst, if_neg (by decide)] at P; exact P.elim
      | true =>
        rw [hst, if_pos rfl] at P
        obtain ⟨go, yl⟩ := (turn_ok G sr hst i).1 y hiy
        refine .inr ⟨go, fun σ H => ∃ c t σ', Good g.toGv c t H ∧ SRel g c H σ' σ ∧ SrcR g c H src J ∧ PostS g EX c H (forL src pt (evSs Φ rb) r σ' t) D,
          fun σ2 H2 ⟨c, t, σ', q1, q2, q3, q4⟩ => ⟨r.length, by rw [em]; exact Nat.lt_succ_self _, c, t, σ', r, er2, rfl, q1, q2, q3, q4⟩, fun x H' hy => ?_⟩
        obtain ⟨rfl, rx⟩ := yl x H' hy
        cases e1 : putP pt y σ' t with
        | exc z t2 =>
          exfalso
          unfold putP at e1
          split at e1
          · cases e1
          · split at e1
            · split at e1 <;> cases e1
            · cases e1
        | stk => rw [e1] at P; exact P.elim
        | ok σ2 t2 =>
          have et := put_st e1
          subst et
          rw [e1, MP.R.stm_ok] at P
          refine ⟨c, t2, σ', y, σ2, G, S, rx, e1, fun σV S2 _ => ⟨c, t2, σ2, G, S2, ?_⟩⟩
          exact loop_body P fun σ3 t3 c' H' σV3 st G' S' P' => ⟨c', t3, σ3, G', S', sr.step st G, P'⟩
end
end MP
end

/-! text MPM -/
section
set_option Elab.async false
set_option linter.all false
set_option maxRecDepth 100000
set_option maxHeartbeats 4000000
/-! MP, part M: a checker: the text's expression is this one of ours. -/
namespace MP
open PySem L2 PySem.Spec
open PyProof.Rows hiding St

/-- what the program's names are -/
structure Tab where
  fns : List (Str × Nat)
  nps : List (Nat × Nat)
  dfl : List (Nat × List (List D))
  kws : List (Nat × List Str)
  con : List (Str × D)
  blt : List Str
  cls : List (Str × Nat)
  ini : List (Nat × Nat)
  mth : List ((Nat × Str) × Nat)
  fld : List Str
/-- a list of defaults that calls of f leave -/
def Tab.dB (T : Tab) (f : Nat) (dfl : List D) : Bool := match T.dfl.lookup f with
  | some l => decide (dfl ∈ l)
  | none => false
structure Nfo where
  t : Tab
  N : List Str
  sc : Scope
  top : Bool
structure Glob (P : Program) (w : World) (K : PySem.W.Frag) (mg : Str → Option Value) (base : Heap) (CX : CXT) (k : Nat) (g : Gx) (Φ : Fns) (T : Tab) : Prop where
  fn : ∀ x f, T.fns.lookup x = some f → mg x = some (.ref (g.fadr f))
  call : ∀ f np, T.nps.lookup f = some np → ∃ fd ps, FnG P w K mg base CX k (g.fadr f) fd ps (spF g Φ np f) ∧ PySem.W.keepIn K (.ref (g.fadr f)) = true ∧
    (∀ dfl, T.dB f dfl = true → ∃ dvs ds, Binds K fd ps ds ∧ Vals dvs ds ∧ ∀ ρ Z H, RelDs g.toGv ρ Z H dfl dvs) ∧
    (∀ ks, T.kws.lookup f = some ks → ks.length = np ∧ ∀ (s : Shared) (ws : List Value), K.In s.heap → ws.length = ks.length → BindsTo s fd ⟨[], ks.zip ws⟩ (ps.zip ws))
  con : ∀ x d, T.con.lookup x = some d → ∃ u v, mg x = some u ∧ RelV v u ∧ ∀ ρ Z H, RelD g.toGv ρ Z H d v
  blt : ∀ x, x ∈ T.blt → mg x = none
  cls : ∀ x c, T.cls.lookup x = some c → mg x = some (.ref (g.cadr c))
  ini : ∀ c f, T.ini.lookup c = some f → Mk K (g.cadr c) (g.fadr f)
  clk : T.fld ≠ [] → ∀ c, Cls K (g.cadr c)
  nat : ∀ c i x, T.fld[i]? = some x → g.fname i = x ∧ NoAttr K (g.cadr c) (g.fname i)
  mth : ∀ c m f, T.mth.lookup (c, m) = some f → Cls K (g.cadr c) ∧ Meth K (g.cadr c) m (g.fadr f) ∧ ∀ i, g.fname i ≠ m
structure Ctx (X : Cx) (g : Gx) (Φ : Fns) (CX : CXT) (k : Nat) (EX : St → XK) (nf : Nfo) : Prop where
  N : X.N = nf.N
  nd : X.N.Nodup
  sc : X.env.scope = nf.sc
  top : nf.top = true → ∀ x, X.fn x = true
  K : X.K = g.K
  calm : X.calm = true
  gd : X.A.guards = some []
  room : Room (k + 1) X.A
  pass : ∀ σ, PassesAt CX X σ (EX σ)
  gl : Glob X.prog X.w X.K X.mg X.base CX k g Φ nf.t
  nox : ∀ outer H s e s', CX outer H s (fun _ _ _ => False) e s' → False
def Nfo.blk (nf : Nfo) (scope : Scope) : Nfo := { nf with sc := relS scope nf.sc, top := false }
section
variable {X : Cx} {g : Gx} {Φ : Fns} {CX : CXT} {k : Nat} {EX : St → XK} {nf : Nfo}
theorem Ctx.blk (C : Ctx X g Φ CX k EX nf) (scope : Scope) (s : Shared) (H : Hp) (Ca : Addr) (cl : List (Str × Addr)) (fp : List Addr) : Ctx (X.blk s H scope (compEnvC scope cl Ca X.env) fp) g Φ CX k noE (nf.blk scope) where
  N := C.N
  nd := C.nd
  sc := by
    show relS scope X.env.scope = relS scope nf.sc
    rw [C.sc]
  top := fun h => by cases h
  K := C.K
  calm := C.calm
  gd := C.gd
  room := C.room
  pass := fun σ pins H s e s' I h => (C.nox _ _ _ _ _ h).elim
  gl := C.gl
  nox := C.nox
def vis (nf : Nfo) (x : Str) : Bool := match nf.sc.names.lookup x with
  | some .local => true
  | some .cell => true
  | some .free => true
  | _ => false
def locN (nf : Nfo) (x : Str) : Bool := match nf.sc.names.lookup x with
  | some .local => true
  | some .cell => nf.top
  | _ => false
def glN (nf : Nfo) (x : Str) : Bool := decide (nf.sc.names.lookup x = some .globalImplicit) && !(x == ("__debug__" : Str))
theorem vis_ok (C : Ctx X g Φ CX k EX nf) {x : Str} (h : vis nf x = true) : Vis X.env.scope x := by
  unfold vis at h
  unfold Vis
  rw [C.sc]
  split at h
  · rename_i q; exact .inl q
  · rename_i q; exact .inr (.inl q)
  · rename_i q; exact .inr (.inr q)
  · cases h
theorem loc_ok (C : Ctx X g Φ CX k EX nf) {x : Str} (h : locN nf x = true) : L2.Loc X.env.scope x ∧ (X.fn x = true ∨ X.env.scope.names.lookup x = some .local) := by
  unfold locN at h
  unfold L2.Loc
  rw [C.sc]
  split at h
  · rename_i q; exact ⟨.inl q, .inr q⟩
  · rename_i q; exact ⟨.inr q, .inl (C.top h x)⟩
  · cases h
theorem gl_ok (C : Ctx X g Φ CX k EX nf) {x : Str} (h : glN nf x = true) : Gl X x ∧ (x == ("__debug__" : Str)) = false := by
  unfold glN at h
  rw [Bool.and_eq_true] at h
  refine ⟨?_, by simpa using h.2⟩
  have q := of_decide_eq_true h.1
  show X.env.kindOf x = _
  show X.env.scope.names.lookup x = _
  rw [C.sc]
  exact q
/-! ### shapes -/
def noSup : Expr → Bool
  | .Call (.Name _ _) [] [] _ => false
  | _ => true
theorem sup_ok {o : Expr} {name : Str} {env : Env} {whole : Sem Value} (h : noSup o = true) : attributeBase o name env whole = whole := by
  unfold attributeBase
  split
  · cases h
  · rfl
def noSet : Expr → Bool
  | .Set .. => false
  | _ => true
theorem fold_ok {iter : Expr} {env : Env} (h : noSet iter = true) : ∀ x, foldedSetIterable iter env x = pure x := by
  intro x
  cases iter <;> first | rfl | cases h
theorem ix_ok {b : Expr} (h : notSlice b = true) : PlainIx b := by
  intro o i
  cases b <;> first | rfl | cases h
def plainT : Expr → Bool
  | .UnaryOp .Not _ _ => false
  | .BoolOp .. => false
  | .IfExp .. => false
  | .Compare .. => false
  | _ => true
theorem plain_ok {e : Expr} {env : Env} (h : plainT e = true) : ∀ whole, isTrue e env whole = (do let v ← whole; standAt e.pos; holding [v] (truthy v)) := by
  intro whole
  cases e <;> first | rfl | (cases h; done) | skip
  rename_i op a p
  cases op <;> first | rfl | cases h
theorem few_ok {pos : Pos} {env : Env} {es : List Expr} (hp : es.all noStar = true) (hl : es.length < 30) : methodCallForm (es.length + ([] : List Keyword).length) (backTo pos (starEach es env)) (backToKw pos (keywordEach [] env)) = true := by
  unfold methodCallForm
  rw [all_plain hp]
  show (true && true && decide _) = true
  rw [decide_eq_true]
  · rfl
  · exact hl
theorem meth_eval {o : Expr} {m : Str} {apos pos : Pos} {es : List Expr} {env : Env} (hs : noSup o = true) (hp : es.all noStar = true) (hl : es.length < 30) (hline : (apos.endLine == pos.line) = true) :
    eval (.Call (.Attribute o m apos) es [] pos) env = (do
      let ov ← eval o env
      standAt apos.atName
      let (f, first) ← holding [ov] (getMethod ov m (do return (← importBound o env).getD true))
      callWith pos f first (backTo pos (starEach es env)) (backToKw pos (keywordEach [] env))) := by
  rw [arm_eval_Call, sup_ok hs]
  congr 1
  funext ov
  congr 1
  funext _
  unfold methodCall
  rw [few_ok hp hl]
  congr 1
  funext x
  obtain ⟨f, first⟩ := x
  show (methodCallPos true o env apos pos >>= fun callPos => callWith callPos f first _ _) = _
  have e : methodCallPos true o env apos pos = pure pos := by
    unfold methodCallPos
    rw [hline]
    rfl
  rw [e, pure_bind]
/-! ### the checker of expressions -/
def chkVar (i : Nat) (nf : Nfo) (x : Str) : Bool := decide (nf.N[i]? = some x) && vis nf x && !(x == ("__debug__" : Str)) && !(x == ("__classdict__" : Str))
def chkCon (d : D) (nf : Nfo) : Expr → Bool
  | .Constant (.int i) _ _ => decide (d = .int i)
  | .Constant (.bool b) _ _ => decide (d = .bl b)
  | .Constant .none _ _ => decide (d = .non)
  | .Constant (.str x) _ _ => match d with
    | .str y => decide (toS y = x)
    | _ => false
  | .Name x _ => glN nf x && (decide (nf.t.con.lookup x = some d) || match d with
    | .fn f => decide (nf.t.fns.lookup x = some f)
    | _ => false)
  | _ => false
/-- a call of a global def with a default list -/
def chkFn (f : Nat) (n : Nat) (dfl : List D) (nf : Nfo) (x : Str) : Bool := glN nf x && decide (nf.t.fns.lookup x = some f) && decide (nf.t.nps.lookup f = some (n + dfl.length)) && nf.t.dB f dfl
def biB : Bi → Option String
  | .len => some "len" | .all => some "all" | .sorted _ => some "sorted" | .max2 => some "max" | .min2 => some "min" | .repr => some "repr" | _ => none
def biT : Bi → Option String
  | .str => some "str" | .int => some "int" | .list _ => some "list" | .tuple => some "tuple" | .bool => some "bool" | _ => none
def bltN (nf : Nfo) (x : Str) : Bool := glN nf x && decide (x ∈ nf.t.blt) && decide (x ≠ "__name__")
def chkBi (b : Bi) (nf : Nfo) (x : Str) : Bool := bltN nf x && (match biB b with
  | some id => decide (bootBuiltins x = some (.builtin id))
  | none => match biT b with
    | some id => decide (bootBuiltins x = some (.type id))
    | none => false)
def tgtOk (p : Pat) (nf : Nfo) : Expr → Bool
  | .Name x _ => match p with
    | .name i => decide (nf.N[i]? = some x) && locN nf x
    | _ => false
  | .Tuple es _ _ => match p with
    | .tup is => go is es
    | _ => false
  | _ => false
where go : List Nat → List Expr → Bool
  | [], [] => true
  | i :: is, .Name x _ :: es => decide (nf.N[i]? = some x) && locN nf x && go is es
  | _, _ => false
def blkOk (N : List Str) (sc scope : Scope) (own : List (Str × Nat)) : Bool :=
  decide (scope.kind = .function) && scope.names.all (fun y => decide (scope.names.lookup y.1 = some y.2)) && own.all (fun p => decide (N[p.2]? = some p.1)) &&
  scope.names.all (fun y => !decide (y.2 = .free) || decide (sc.names.lookup y.1 = some .cell) || decide (sc.names.lookup y.1 = some .free)) &&
  scope.names.all (fun y => !(decide (y.2 = .local) || decide (y.2 = .cell)) || decide (y.1 ∈ own.map (·.1)) || decide (y.1 ∉ N))
def ownOf (N : List Str) (own : List Nat) : List (Str × Nat) := own.map fun i => (N.getD i Str.empty, i)
mutual
def chkE : E → Nfo → Expr → Bool
  | .var i, nf, e => match e with
    | .Name x _ => chkVar i nf x
    | _ => false
  | .con d, nf, e => chkCon d nf e
  | .bin op a b, nf, e => match e with
    | .BinOp x o y _ => decide (o = bopOf op) && chkE a nf x && chkE b nf y
    | _ => false
  | .cmp op a b, nf, e => match e with
    | .Compare x [o] [y] _ => decide (o = copOf op) && chkE a nf x && chkE b nf y && !(behindInMarks o y)
    | _ => false
  | .chain op op' a b c, nf, e => match e with
    | .Compare x [o, o'] [y, z] _ => decide (o = copOf op) && decide (o' = copOf op') && chkE a nf x && chkE b nf y && chkE c nf z && !(lastMarks [o, o'] [y, z])
    | _ => false
  | .and a b, nf, e => match e with
    | .BoolOp .And [x, y] _ => chkE a nf x && chkE b nf y
    | .BoolOp .And (x :: y :: z :: rest) p => chkE a nf x && chkE b nf (.BoolOp .And (y :: z :: rest) p)
    | _ => false
  | .or a b, nf, e => match e with
    | .BoolOp .Or [x, y] _ => chkE a nf x && chkE b nf y
    | .BoolOp .Or (x :: y :: z :: rest) p => chkE a nf x && chkE b nf (.BoolOp .Or (y :: z :: rest) p)
    | _ => false
  | .not a, nf, e => match e with
    | .UnaryOp .Not x _ => chkE a nf x
    | _ => false
  | .neg a, nf, e => match e with
    | .UnaryOp .USub x _ => chkE a nf x
    | _ => false
  | .ite c a b, nf, e => match e with
    | .IfExp z x y _ => chkE c nf z && chkE a nf x && chkE b nf y
    | _ => false
  | .tup es, nf, e => match e with
    | .Tuple l _ _ => chkEs es nf l && decide (es.len ≤ 1000)
    | _ => false
  | .lst _ es, nf, e => match e with
    | .List l _ => chkEs es nf l && decide (es.len ≤ 1000)
    | _ => false
  | .ix a i, nf, e => match e with
    | .Subscript x y _ => chkE a nf x && chkE i nf y && notSlice y
    | _ => false
  | .call f es dfl, nf, e => match e with
    | .Call (.Name x _) l [] _ => chkEs es nf l && chkFn f es.len dfl nf x
    | _ => false
  | .callk f es ks, nf, e => match e with
    | .Call (.Name x _) [] kws _ => (match es with | .nil => true | _ => false) && chkKs ks nf kws && glN nf x && decide (nf.t.fns.lookup x = some f) && decide (nf.t.nps.lookup f = some ks.len) && decide ((nf.t.kws.lookup f).map (·.map some) = some (kws.map (·.arg)))
    | _ => false
  | .callv i fs es, nf, e => match e with
    | .Call (.Name x _) (y :: l) [] _ => chkEs es nf (y :: l) && chkVar i nf x && fs.all (fun f => decide (nf.t.nps.lookup f = some es.len) && nf.t.dB f [])
    | _ => false
  | .meth c f o es dfl, nf, e => match e with
    | .Call (.Attribute x m ap) l [] p => chkE o nf x && chkEs es nf l && decide (nf.t.mth.lookup (c, m) = some f) && decide (nf.t.nps.lookup f = some (es.len + dfl.length + 1)) && nf.t.dB f dfl && noSup x && decide (l.length < 30) && (ap.endLine == p.line)
    | _ => false
  | .make c f es dfl, nf, e => match e with
    | .Call (.Name x _) l [] _ => chkEs es nf l && glN nf x && decide (nf.t.cls.lookup x = some c) && decide (nf.t.ini.lookup c = some f) && decide (nf.t.nps.lookup f = some (es.len + dfl.length + 1)) && nf.t.dB f dfl
    | _ => false
  | .fld o i, nf, e => match e with
    | .Attribute x m _ => chkE o nf x && decide (nf.t.fld[i]? = some m) && noSup x
    | _ => false
  | .bi b es, nf, e => match b with
    | .isi ty => (match es, e with
      | .cons a .nil, .Call (.Name x _) [y, .Name z _] [] _ => chkE a nf y && decide (x = ("isinstance" : Str)) && bltN nf x && bltN nf z && decide (bootBuiltins z = some (.type (tyName ty))) && noStar y
      | _, _ => false)
    | b => match e with
      | .Call (.Name x _) (y :: l) [] _ => chkEs es nf (y :: l) && chkBi b nf x
      | _ => false
  | .bm m o es, nf, e => match e with
    | .Call (.Attribute x n ap) l [] p => chkE o nf x && chkEs es nf l && decide (n = bmN m) && noSup x && (ap.endLine == p.line) && decide (l.length < 30)
    | _ => false
  | .comp _ own p it ifs elt, nf, e => match e with
    | .ListComp el [⟨tg, iter, ifsE, k⟩] scope _ => decide (k = 0) && chkIt it nf iter && blkOk nf.N nf.sc scope (ownOf nf.N own) && tgtOk p (nf.blk scope) tg && decide (∀ i ∈ p.slots, i ∈ own) && chkIfs ifs (nf.blk scope) ifsE && chkE elt (nf.blk scope) el && noSet iter
    | _ => false
  | .fstr es, nf, e => match e with
    | .JoinedStr (x :: y :: l) _ => chkFs es nf (x :: y :: l)
    | _ => false
def chkEs : Es → Nfo → List Expr → Bool
  | .nil, _, l => match l with
    | [] => true
    | _ => false
  | .cons e' es', nf, l => match l with
    | e :: es => chkE e' nf e && noStar e && chkEs es' nf es
    | _ => false
def chkKs : Es → Nfo → List Keyword → Bool
  | .nil, _, l => match l with
    | [] => true
    | _ => false
  | .cons e' es', nf, l => match l with
    | ⟨a, e, _⟩ :: es => chkE e' nf e && a.isSome && chkKs es' nf es
    | _ => false
def chkFs : Es → Nfo → List Expr → Bool
  | .nil, _, l => match l with
    | [] => true
    | _ => false
  | .cons e' es', nf, l => match l with
    | .FormattedValue e k none _ :: es => chkE e' nf e && decide (k = -1) && chkFs es' nf es
    | .Constant (.str x) _ _ :: es => (match e' with | .con (.str y) => decide (toS y = x) | _ => false) && chkFs es' nf es
    | _ => false
def chkIfs : Es → Nfo → List Expr → Bool
  | .nil, _, l => match l with
    | [] => true
    | _ => false
  | .cons e' es', nf, l => match l with
    | [e] => chkE e' nf e && (match es' with | .nil => true | _ => false)
    | _ => false
def chkIt : It → Nfo → Expr → Bool
  | .seq e', nf, e => chkE e' nf e
  | .str e', nf, e => chkE e' nf e
  | .range1 a, nf, e => match e with
    | .Call (.Name x _) [y] [] _ => decide (x = ("range" : Str)) && bltN nf x && chkE a nf y && noStar y
    | _ => false
  | .range2 a b, nf, e => match e with
    | .Call (.Name x _) [y, z] [] _ => decide (x = ("range" : Str)) && bltN nf x && chkE a nf y && chkE b nf z && noStar y && noStar z
    | _ => false
end
end
end MP
end

/-! text MPN -/
section
set_option Elab.async false
set_option linter.all false
set_option maxRecDepth 100000
set_option maxHeartbeats 4000000
/-! MP, part N: what the checker accepts is so. -/
namespace MP
open PySem L2 PySem.Spec
open PyProof.Rows hiding St

section
variable {X : Cx} {g : Gx} {Φ : Fns} {CX : CXT} {k : Nat} {EX : St → XK} {nf : Nfo}
theorem Ctx.hu (C : Ctx X g Φ CX k EX nf) : X.A.units + 64 < cLine := C.room.units
theorem Ctx.rk (C : Ctx X g Φ CX k EX nf) : Room k X.A := C.room.mono (Nat.le_succ k)
def boolE : Expr → Bool
  | .BoolOp .. => true
  | _ => false
def Ok3 (X : Cx) (g : Gx) (Φ : Fns) (EX : St → XK) (e : Expr) (e' : E) : Prop := PE X e (TEv g Φ EX e') ∧ PT X e (TTv g Φ EX e') ∧ (boolE e = true → PW X e (TTv g Φ EX e'))
theorem both {e : Expr} {e' : E} (C : Ctx X g Φ CX k EX nf) (h : PE X e (TEv g Φ EX e')) (p : plainT e = true) : Ok3 X g Φ EX e e' := ⟨h, tt_truth C.K h (plain_ok p), fun q => by cases e <;> first | (cases q; done) | (cases p; done)⟩
theorem var_ok (C : Ctx X g Φ CX k EX nf) {i : Nat} {x : Str} (h : chkVar i nf x = true) : X.N[i]? = some x ∧ Vis X.env.scope x ∧ (x == ("__debug__" : Str)) = false ∧ (x == ("__classdict__" : Str)) = false := by
  unfold chkVar at h
  simp only [Bool.and_eq_true] at h
  obtain ⟨⟨⟨h1, h2⟩, h3⟩, h4⟩ := h
  exact ⟨by rw [C.N]; exact of_decide_eq_true h1, vis_ok C h2, by simpa using h3, by simpa using h4⟩
theorem con_ok (C : Ctx X g Φ CX k EX nf) {d : D} {e : Expr} (h : chkCon d nf e = true) : PE X e (TEv g Φ EX (.con d)) ∧ plainT e = true := by
  unfold chkCon at h
  split at h
  · obtain rfl := of_decide_eq_true h
    exact ⟨ok_con pe_int fun _ _ _ => RelD.int_iff.mpr rfl, rfl⟩
  · obtain rfl := of_decide_eq_true h
    exact ⟨ok_con pe_bl fun _ _ _ => RelD.bl_iff.mpr rfl, rfl⟩
  · obtain rfl := of_decide_eq_true h
    exact ⟨ok_con pe_non fun _ _ _ => RelD.non_iff.mpr rfl, rfl⟩
  · split at h
    · rename_i y
      obtain rfl := of_decide_eq_true h
      exact ⟨ok_con pe_str fun _ _ _ => RelD.str_iff.mpr rfl, rfl⟩
    · cases h
  · rename_i x p
    rw [Bool.and_eq_true] at h
    obtain ⟨h1, h2⟩ := h
    obtain ⟨g1, g2⟩ := gl_ok C h1
    rw [Bool.or_eq_true] at h2
    refine ⟨?_, rfl⟩
    rcases h2 with h2 | h2
    · obtain ⟨u, v, m, r, rd⟩ := C.gl.con _ _ (of_decide_eq_true h2)
      exact ok_con (pe_glob g1 m r g2) rd
    · split at h2
      · rename_i f
        exact ok_con (v := .ref (g.fadr f)) (pe_glob g1 (C.gl.fn _ _ (of_decide_eq_true h2)) rfl g2) fun _ _ _ => RelD.fn_iff.mpr rfl
      · cases h2
  · cases h
theorem blt_ok (C : Ctx X g Φ CX k EX nf) {x : Str} (h : bltN nf x = true) : Gl X x ∧ (x == ("__debug__" : Str)) = false ∧ X.mg x = none ∧ x ≠ "__name__" := by
  unfold bltN at h
  simp only [Bool.and_eq_true] at h
  obtain ⟨⟨h1, h2⟩, h3⟩ := h
  obtain ⟨g1, g2⟩ := gl_ok C h1
  exact ⟨g1, g2, C.gl.blt _ (of_decide_eq_true h2), of_decide_eq_true h3⟩
theorem biB_ok (C : Ctx X g Φ CX k EX nf) {b : Bi} {id : String} (h : biB b = some id) : CallR X (.builtin id) (rSC g (bi b)) := by
  cases b <;> simp only [biB] at h <;> first | (cases h; done) | skip
  · cases h; exact callS_len C.K
  · cases h; exact callS_all C.K C.calm
  · cases h; exact callS_sorted C.K C.hu _
  · cases h; exact callS_max2 C.calm
  · cases h; exact callS_min2 C.calm
  · cases h; exact callS_repr C.K C.gd C.hu
theorem biT_ok (C : Ctx X g Φ CX k EX nf) {b : Bi} {id : String} (h : biT b = some id) : CallR X (.type id) (rSC g (bi b)) := by
  cases b <;> simp only [biT] at h <;> first | (cases h; done) | skip
  · cases h; exact callS_str
  · cases h; exact callS_int
  · cases h; exact callS_list C.K C.calm _
  · cases h; exact callS_tuple C.K
  · cases h; exact callS_bool C.K
theorem tgo_ok (C : Ctx X g Φ CX k EX nf) : ∀ {is : List Nat} {es : List Expr}, tgtOk.go nf is es = true → PGs X es (gsN is) ∧ es.length = is.length ∧ (assignEach es X.env).length = is.length ∧ (assignEach es X.env).findIdx? (·.1) = none
  | [], [], _ => ⟨pgs_nil, rfl, rfl, rfl⟩
  | [], _ :: _, h => by unfold tgtOk.go at h; cases h
  | i :: is, [], h => by unfold tgtOk.go at h; cases h
  | i :: is, e :: es, h => by
    cases e <;> first | (unfold tgtOk.go at h; cases h; done) | skip
    rename_i x p
    unfold tgtOk.go at h
    simp only [Bool.and_eq_true] at h
    obtain ⟨⟨h1, h2⟩, h3⟩ := h
    obtain ⟨a1, a2, a3, a4⟩ := tgo_ok C h3
    obtain ⟨l1, l2⟩ := loc_ok C h2
    refine ⟨pgs_cons (pg_name C.nd (by rw [C.N]; exact of_decide_eq_true h1) l1 l2) a1 rfl, by simp [a2], ?_, ?_⟩
    · show (assignEach es X.env).length + 1 = _
      rw [a3]; rfl
    · show ((false, _) :: assignEach es X.env).findIdx? (·.1) = none
      rw [List.findIdx?_cons, a4]
      rfl
theorem tgt_ok (C : Ctx X g Φ CX k EX nf) {p : Pat} {tg : Expr} (h : tgtOk p nf tg = true) : PG X tg (TGv g p) := by
  unfold tgtOk at h
  split at h
  · rename_i x pos
    split at h
    · rename_i i
      rw [Bool.and_eq_true] at h
      obtain ⟨l1, l2⟩ := loc_ok C h.2
      exact og_name (pg_name C.nd (by rw [C.N]; exact of_decide_eq_true h.1) l1 l2)
    · cases h
  · rename_i es kk pos
    split at h
    · rename_i is
      obtain ⟨a1, a2, a3, a4⟩ := tgo_ok C h
      exact og_tup C.K (pg_tup C.calm a1 a3 a4)
    · cases h
  · cases h
theorem blkOk_ok {N : List Str} {sc scope : Scope} {own : List (Str × Nat)} (h : blkOk N sc scope own = true) : BlkOk N sc scope own := by
  unfold blkOk at h
  simp only [Bool.and_eq_true, List.all_eq_true] at h
  obtain ⟨⟨⟨⟨h1, h2⟩, h3⟩, h4⟩, h5⟩ := h
  refine ⟨of_decide_eq_true h1, fun y hy => of_decide_eq_true (h2 y hy), fun p hp => of_decide_eq_true (h3 p hp), fun y hy e => ?_, fun y hy e => ?_⟩
  · have q := h4 y hy
    rw [e] at q
    simp only [decide_true, Bool.not_true, Bool.false_or, Bool.or_eq_true] at q
    rcases q with q | q
    · exact .inl (of_decide_eq_true q)
    · exact .inr (of_decide_eq_true q)
  · have q := h5 y hy
    rw [Bool.or_eq_true, Bool.or_eq_true] at q
    rcases q with (q | q) | q
    · exfalso
      rcases e with e | e <;> (rw [e] at q; simp at q)
    · exact .inl (of_decide_eq_true q)
    · exact .inr (of_decide_eq_true q)
theorem ownOf_snd (N : List Str) (own : List Nat) : (ownOf N own).map (·.2) = own := by
  unfold ownOf
  rw [List.map_map]
  exact List.map_id _
/-- a def that the table knows -/
theorem fn_ok (C : Ctx X g Φ CX k EX nf) {f n : Nat} {dfl : List D} {x : Str} (h : chkFn f n dfl nf x = true) : Gl X x ∧ (x == ("__debug__" : Str)) = false ∧ X.mg x = some (.ref (g.fadr f)) ∧
    ∃ fd ps dvs ds, FnG X.prog X.w X.K X.mg X.base CX k (g.fadr f) fd ps (spF g Φ (n + dfl.length) f) ∧ PySem.W.keepIn X.K (.ref (g.fadr f)) = true ∧ Binds X.K fd ps ds ∧ Vals dvs ds ∧ ∀ ρ Z H, RelDs g.toGv ρ Z H dfl dvs := by
  unfold chkFn at h
  simp only [Bool.and_eq_true] at h
  obtain ⟨⟨⟨h1, h2⟩, h3⟩, h4⟩ := h
  obtain ⟨g1, g2⟩ := gl_ok C h1
  obtain ⟨fd, ps, F, kp, hd, _⟩ := C.gl.call _ _ (of_decide_eq_true h3)
  obtain ⟨dvs, ds, b1, b2, b3⟩ := hd dfl h4
  exact ⟨g1, g2, C.gl.fn _ _ (of_decide_eq_true h2), fd, ps, dvs, ds, F, kp, b1, b2, b3⟩
theorem kw_all {pos : Pos} {env : Env} : ∀ {kws : List Keyword}, (∀ q ∈ kws, q.arg.isSome = true) → (backToKw pos (keywordEach kws env)).all (·.1.isSome) = true ∧ (backToKw pos (keywordEach kws env)).any (·.1.isNone) = false ∧ (backToKw pos (keywordEach kws env)).filterMap (·.1) = kws.filterMap (·.arg)
  | [], _ => ⟨rfl, rfl, rfl⟩
  | ⟨a, e, p⟩ :: kws, h => by
    obtain ⟨h1, h2, h3⟩ := kw_all (pos := pos) (env := env) (kws := kws) fun q hq => h q (List.mem_cons_of_mem _ hq)
    have ha := h _ List.mem_cons_self
    cases a with
    | none => cases ha
    | some a =>
      refine ⟨?_, ?_, ?_⟩
      · show (true && _) = true
        rw [Bool.true_and]; exact h1
      · show (false || _) = false
        rw [Bool.false_or]; exact h2
      · exact congrArg (a :: ·) h3
/-- PT of a conditional expression -/
theorem pt_ite {d a b : Expr} {td ta tb : TT} {pos : Pos} (hd : PT X d td) (ha : PT X a ta) (hb : PT X b tb) : PT X (.IfExp d a b pos) (fun σ H Q => td σ H fun k H1 => if k = true then ta σ H1 Q else tb σ H1 Q) := by
  refine ⟨fun pins s σ H Q I h => ?_⟩
  show wpAny _ _ (isTrue d X.env (eval d X.env) >>= fun k => if k = true then isTrue a X.env (eval a X.env) else isTrue b X.env (eval b X.env)) _ _ _
  refine wpAny_bind (thn (hd.run pins s σ H _ I h) fun k s1 ⟨H1, I1, q1⟩ => ?_)
  cases k with
  | true => exact ha.run pins s1 σ H1 Q I1 q1
  | false => exact hb.run pins s1 σ H1 Q I1 q1
theorem tst_ite {d a b : E} {σ' : Sg} {t : Stt} : tst Φ (.ite d a b) σ' t = (tst Φ d σ' t).bind fun k t => if k = true then tst Φ a σ' t else tst Φ b σ' t := by
  unfold tst
  simp only [evE, R.bind_assoc]
  congr 1
  funext w t1
  congr 1
  funext k t2
  cases k <;> rfl
theorem tt_iteT {d a b : Expr} {d' a' b' : E} {pos : Pos} (hd : PT X d (TTv g Φ EX d')) (ha : PT X a (TTv g Φ EX a')) (hb : PT X b (TTv g Φ EX b')) : PT X (.IfExp d a b pos) (TTv g Φ EX (.ite d' a' b')) :=
  PT.to (pt_ite hd ha hb) fun σ H Q ⟨c, t, σ', G, S, P⟩ => by
    rw [tst_ite] at P
    refine TTv.to G S P fun k t1 c1 H1 st1 G1 S1 P1 => ?_
    cases k with
    | true => exact ⟨c1, t1, σ', G1, S1, P1⟩
    | false => exact ⟨c1, t1, σ', G1, S1, P1⟩
theorem tt_chain {a b d : Expr} {a' b' d' : E} {pos : Pos} (op op' : Cop) (hu : X.A.units + 64 < cLine) (hK : X.K = g.K) (ha : PE X a (TEv g Φ EX a')) (hb : PE X b (TEv g Φ EX b')) (hd : PE X d (TEv g Φ EX d')) (hm : lastMarks [copOf op, copOf op'] [b, d] = false) :
    PT X (.Compare a [copOf op, copOf op'] [b, d] pos) (TTv g Φ EX (.chain op op' a' b' d')) :=
  PT.to (pt_chain (copS hu hK op) (copS hu hK op') ha hb hd hm) fun σ H Q ⟨c, t, σ', G, S, P⟩ => by
    unfold tst at P
    simp only [evE, R.bind_assoc] at P
    refine TEv.to G S P fun w t1 c1 H1 v st1 G1 S1 r1 P1 => TEv.to G1 S1 P1 fun u t2 c2 H2 y st2 G2 S2 r2 P2 => ?_
    cases e : cop op w u t2 with
    | ok k t3 =>
      rw [e, MP.R.bind_ok] at P2
      have et := cop_st e
      subst et
      refine ⟨c2, t3, w, u, EX σ, G2, r1.step st2 G1, r2, ?_⟩
      unfold copW
      rw [e]
      intro c3 H3 z st3 G3 rz
      refine ⟨k, wbl rz, ?_⟩
      have P3 := Post.step st3 P2
      cases k with
      | true =>
        rw [if_pos rfl] at P3 ⊢
        rw [R.bind_assoc] at P3
        refine TEv.to G3 (S2.step st3 G2) P3 fun w4 t4 c4 H4 v4 st4 G4 S4 r4 P4 => ?_
        cases e4 : cop op' u w4 t4 with
        | ok k4 t5 =>
          rw [e4, MP.R.bind_ok, MP.R.bind_ok] at P4
          have et4 := cop_st e4
          subst et4
          refine ⟨c4, t5, u, w4, EX σ, G4, (r2.step st3 G2).step st4 G3, r4, ?_⟩
          show Post g c4 H4 (wR g) ((cop op' u w4 t5).bind fun k t => MP.R.ok (W.d (D.bl k)) t) _ _
          rw [e4]
          intro c5 H5 z5 st5 G5 rz5
          exact ⟨k4, wbl rz5, (Post.step st5 P4).ok G5 rfl⟩
        | exc x t5 => exact absurd e4 cop_noexc
        | stk => rw [e4] at P4; exact P4.elim
      | false =>
        rw [if_neg (by decide)] at P3 ⊢
        exact ⟨false, rfl, P3.ok G3 rfl⟩
    | exc x t3 => exact absurd e cop_noexc
    | stk => rw [e] at P2; exact P2.elim
theorem meth_tab (C : Ctx X g Φ CX k EX nf) {c f n : Nat} {m : Str} {dfl : List D} (h1 : nf.t.mth.lookup (c, m) = some f) (h2 : nf.t.nps.lookup f = some n) (h3 : nf.t.dB f dfl = true) :
    Cls X.K (g.cadr c) ∧ Meth X.K (g.cadr c) m (g.fadr f) ∧ (∀ i, g.fname i ≠ m) ∧ ∃ fd ps dvs ds, FnG X.prog X.w X.K X.mg X.base CX k (g.fadr f) fd ps (spF g Φ n f) ∧ Binds X.K fd ps ds ∧ Vals dvs ds ∧ ∀ ρ Z H, RelDs g.toGv ρ Z H dfl dvs := by
  obtain ⟨a1, a2, a3⟩ := C.gl.mth _ _ _ h1
  obtain ⟨fd, ps, F, kp, hd, _⟩ := C.gl.call _ _ h2
  obtain ⟨dvs, ds, b1, b2, b3⟩ := hd dfl h3
  exact ⟨a1, a2, a3, fd, ps, dvs, ds, F, b1, b2, b3⟩
theorem fld_tab (C : Ctx X g Φ CX k EX nf) {i : Nat} {x : Str} (h : nf.t.fld[i]? = some x) : x = g.fname i ∧ ∀ c, Cls X.K (g.cadr c) ∧ NoAttr X.K (g.cadr c) (g.fname i) := by
  have ne : nf.t.fld ≠ [] := fun e => by rw [e] at h; simp at h
  exact ⟨(C.gl.nat 0 i x h).1.symm, fun c => ⟨C.gl.clk ne c, (C.gl.nat c i x h).2⟩⟩
theorem held_ok (C : Ctx X g Φ CX k EX nf) : True := trivial
mutual
theorem chkE_ok : ∀ (e' : E) {X : Cx} {EX : St → XK} {nf : Nfo} {e : Expr}, Ctx X g Φ CX k EX nf → chkE e' nf e = true → Ok3 X g Φ EX e e'
  | .var i, X, EX, nf, e, C, h => by
    simp only [chkE] at h
    split at h
    · obtain ⟨h1, h2, h3, h4⟩ := var_ok C h
      exact both C (ok_var h1 h2 h3 h4) rfl
    · cases h
  | .con d, X, EX, nf, e, C, h => by
    simp only [chkE] at h
    obtain ⟨h1, h2⟩ := con_ok (EX := EX) C h
    exact both C h1 h2
  | .bin op a b, X, EX, nf, e, C, h => by
    simp only [chkE] at h
    split at h
    · simp only [Bool.and_eq_true] at h
      obtain ⟨⟨h1, h2⟩, h3⟩ := h
      obtain rfl := of_decide_eq_true h1
      exact both C (ok_bin op (chkE_ok a C h2).1 (chkE_ok b C h3).1) rfl
    · cases h
  | .cmp op a b, X, EX, nf, e, C, h => by
    simp only [chkE] at h
    split at h
    · simp only [Bool.and_eq_true] at h
      obtain ⟨⟨⟨h1, h2⟩, h3⟩, h4⟩ := h
      obtain rfl := of_decide_eq_true h1
      have hm := by simpa using h4
      have ha := (chkE_ok a C h2).1
      have hb := (chkE_ok b C h3).1
      exact ⟨ok_cmp op C.hu C.K ha hb hm, tt_cmp op C.hu C.K ha hb hm, fun q => by cases q⟩
    · cases h
  | .chain op op' a b c, X, EX, nf, e, C, h => by
    simp only [chkE] at h
    split at h
    · simp only [Bool.and_eq_true] at h
      obtain ⟨⟨⟨⟨⟨h1, h2⟩, h3⟩, h4⟩, h5⟩, h6⟩ := h
      obtain rfl := of_decide_eq_true h1
      obtain rfl := of_decide_eq_true h2
      have hm := by simpa using h6
      have ha := (chkE_ok a C h3).1
      have hb := (chkE_ok b C h4).1
      have hc := (chkE_ok c C h5).1
      exact ⟨ok_chain op op' C.hu C.K ha hb hc hm, tt_chain op op' C.hu C.K ha hb hc hm, fun q => by cases q⟩
    · cases h
  | .and a b, X, EX, nf, e, C, h => by
    simp only [chkE] at h
    split at h
    · rw [Bool.and_eq_true] at h
      have A := chkE_ok a C h.1
      have B := chkE_ok b C h.2
      exact ⟨ok_and C.K A.1 (pe_one B.1), (tw_and A.2.1 (pw_and1 B.2.1)).pt, fun _ => tw_and A.2.1 (pw_and1 B.2.1)⟩
    · rw [Bool.and_eq_true] at h
      have A := chkE_ok a C h.1
      have B := chkE_ok b C h.2
      exact ⟨ok_and C.K A.1 B.1, (tw_and A.2.1 (B.2.2 rfl)).pt, fun _ => tw_and A.2.1 (B.2.2 rfl)⟩
    · cases h
  | .or a b, X, EX, nf, e, C, h => by
    simp only [chkE] at h
    split at h
    · rw [Bool.and_eq_true] at h
      have A := chkE_ok a C h.1
      have B := chkE_ok b C h.2
      exact ⟨ok_or C.K A.1 (pe_one B.1), (tw_or A.2.1 (pw_or1 B.2.1)).pt, fun _ => tw_or A.2.1 (pw_or1 B.2.1)⟩
    · rw [Bool.and_eq_true] at h
      have A := chkE_ok a C h.1
      have B := chkE_ok b C h.2
      exact ⟨ok_or C.K A.1 B.1, (tw_or A.2.1 (B.2.2 rfl)).pt, fun _ => tw_or A.2.1 (B.2.2 rfl)⟩
    · cases h
  | .not a, X, EX, nf, e, C, h => by
    simp only [chkE] at h
    split at h
    · have A := chkE_ok a C h
      exact ⟨ok_not C.K A.1, tt_not A.2.1, fun q => by cases q⟩
    · cases h
  | .neg a, X, EX, nf, e, C, h => by
    simp only [chkE] at h
    split at h
    · exact both C (ok_neg (chkE_ok a C h).1) rfl
    · cases h
  | .ite c a b, X, EX, nf, e, C, h => by
    simp only [chkE] at h
    split at h
    · simp only [Bool.and_eq_true] at h
      have A := chkE_ok c C h.1.1
      have B := chkE_ok a C h.1.2
      have D := chkE_ok b C h.2
      exact ⟨ok_ite A.2.1 B.1 D.1, tt_iteT A.2.1 B.2.1 D.2.1, fun q => by cases q⟩
    · cases h
  | .tup es, X, EX, nf, e, C, h => by
    simp only [chkE] at h
    split at h
    · rw [Bool.and_eq_true] at h
      exact both C (ok_tup (chkEs_ok es C h.1).1 (of_decide_eq_true h.2)) rfl
    · cases h
  | .lst o es, X, EX, nf, e, C, h => by
    simp only [chkE] at h
    split at h
    · rw [Bool.and_eq_true] at h
      exact both C (ok_lst (chkEs_ok es C h.1).1 (of_decide_eq_true h.2)) rfl
    · cases h
  | .ix a i, X, EX, nf, e, C, h => by
    simp only [chkE] at h
    split at h
    · simp only [Bool.and_eq_true] at h
      exact both C (ok_ix C.K (chkE_ok a C h.1.1).1 (chkE_ok i C h.1.2).1 (ix_ok h.2)) rfl
    · cases h
  | .call f es dfl, X, EX, nf, e, C, h => by
    simp only [chkE] at h
    split at h
    · rename_i x p l pos
      rw [Bool.and_eq_true] at h
      obtain ⟨a1, a2⟩ := chkEs_ok es C h.1
      obtain ⟨g1, g2, g3, fd, ps, dvs, ds, F, kp, b1, b2, b3⟩ := fn_ok C h.2
      cases l with
      | nil =>
        cases es with
        | nil => exact both C (ok_call0 F C.rk C.gd g1 g3 kp b1 b2 C.pass g2 b3 (by simp [Es.len])) rfl
        | cons e' es' => simp [chkEs] at h
      | cons y l =>
        simp only [List.all_cons, Bool.and_eq_true] at a2
        exact both C (ok_call F C.rk C.gd g1 g3 kp b1 b2 C.pass a1 g2 a2.1 a2.2 b3 rfl) rfl
    · cases h
  | .callk f es ks, X, EX, nf, e, C, h => by
    simp only [chkE] at h
    split at h
    · rename_i x p kws pos
      simp only [Bool.and_eq_true] at h
      obtain ⟨⟨⟨⟨⟨h0, h1⟩, h2⟩, h3⟩, h4⟩, h5⟩ := h
      cases es with
      | cons e' es' => cases h0
      | nil =>
        obtain ⟨k1, k2⟩ := chkKs_ok ks C h1
        obtain ⟨g1, g2⟩ := gl_ok C h2
        obtain ⟨fd, ps, F, kp, _, hk⟩ := C.gl.call _ _ (of_decide_eq_true h4)
        have h5 := of_decide_eq_true h5
        cases ek : nf.t.kws.lookup f with
        | none => rw [ek] at h5; cases h5
        | some ns =>
          rw [ek] at h5
          obtain ⟨q1, q2⟩ := hk ns ek
          have en : kws.filterMap (·.arg) = ns := by
            have h5 : ns.map some = kws.map (·.arg) := Option.some.inj h5
            have : (kws.map (·.arg)).filterMap id = ns := by rw [← h5]; simp
            rw [← this, List.filterMap_map]
            rfl
          exact both C (ok_callk (ks := ns) (n := 0) F C.rk C.gd g1 (C.gl.fn _ _ (of_decide_eq_true h3)) kp C.pass q2 q1 rfl k1 (fun env => (kw_all k2).1) (fun env => by rw [(kw_all k2).2.2, en]) (fun env => (kw_all k2).2.1) g2) rfl
    · cases h
  | .callv i fs es, X, EX, nf, e, C, h => by
    simp only [chkE] at h
    split at h
    · simp only [Bool.and_eq_true] at h
      obtain ⟨⟨h1, h2⟩, h3⟩ := h
      obtain ⟨a1, a2⟩ := chkEs_ok es C h1
      obtain ⟨v1, v2, v3, v4⟩ := var_ok C h2
      simp only [List.all_cons, Bool.and_eq_true] at a2
      rw [List.all_eq_true] at h3
      refine both C (ok_callv (fun f hf => ?_) C.rk C.gd v1 v2 C.pass a1 v3 v4 a2.1 a2.2) rfl
      have q := h3 f hf
      rw [Bool.and_eq_true] at q
      obtain ⟨fd, ps, F, kp, hd, _⟩ := C.gl.call _ _ (of_decide_eq_true q.1)
      obtain ⟨dvs, ds, b1, b2, b3⟩ := hd [] q.2
      have e0 := b3 [] (fun _ => False) (fun _ => none)
      simp only [RelDs] at e0
      subst e0
      cases b2
      exact ⟨fd, ps, F, kp, b1⟩
    · cases h
  | .meth c f o es dfl, X, EX, nf, e, C, h => by
    simp only [chkE] at h
    split at h
    · rename_i x m ap l p
      simp only [Bool.and_eq_true] at h
      obtain ⟨⟨⟨⟨⟨⟨⟨h1, h2⟩, h3⟩, h4⟩, h5⟩, h6⟩, h7⟩, h8⟩ := h
      obtain ⟨a1, a2⟩ := chkEs_ok es C h2
      have O := (chkE_ok o C h1).1
      obtain ⟨m1, m2, m3, fd, ps, dvs, ds, F, b1, b2, b3⟩ := meth_tab C (of_decide_eq_true h3) (of_decide_eq_true h4) h5
      have ev := meth_eval (m := m) (env := X.env) h6 a2 (of_decide_eq_true h7) h8
      cases l with
      | nil =>
        cases es with
        | nil => exact both C (ok_meth0 m1 m2 m3 F C.rk C.gd b1 b2 C.pass O b3 (by simp [Es.len]) ev) rfl
        | cons e' es' => simp [chkEs] at h2
      | cons y l =>
        simp only [List.all_cons, Bool.and_eq_true] at a2
        exact both C (ok_meth m1 m2 m3 F C.rk C.gd b1 b2 C.pass O b3 a1 a2.1 a2.2 rfl ev) rfl
    · cases h
  | .make c f es dfl, X, EX, nf, e, C, h => by
    simp only [chkE] at h
    split at h
    · rename_i x p l pos
      simp only [Bool.and_eq_true] at h
      obtain ⟨⟨⟨⟨⟨h1, h2⟩, h3⟩, h4⟩, h5⟩, h6⟩ := h
      obtain ⟨a1, a2⟩ := chkEs_ok es C h1
      obtain ⟨g1, g2⟩ := gl_ok C h2
      obtain ⟨fd, ps, F, kp, hd, _⟩ := C.gl.call _ _ (of_decide_eq_true h5)
      obtain ⟨dvs, ds, b1, b2, b3⟩ := hd dfl h6
      have M := C.gl.ini _ _ (of_decide_eq_true h4)
      have hm := C.gl.cls _ _ (of_decide_eq_true h3)
      cases l with
      | nil =>
        cases es with
        | nil => exact both C (ok_make0 M F C.room C.gd g1 hm b1 b2 C.pass g2 b3 (by simp [Es.len])) rfl
        | cons e' es' => simp [chkEs] at h1
      | cons y l =>
        simp only [List.all_cons, Bool.and_eq_true] at a2
        exact both C (ok_make M F C.room C.gd g1 hm b1 b2 C.pass a1 g2 a2.1 a2.2 b3 rfl) rfl
    · cases h
  | .fld o i, X, EX, nf, e, C, h => by
    simp only [chkE] at h
    split at h
    · simp only [Bool.and_eq_true] at h
      obtain ⟨f1, f2⟩ := fld_tab C (of_decide_eq_true h.1.2)
      exact both C (ok_fld (chkE_ok o C h.1.1).1 C.K f2 f1 (sup_ok h.2)) rfl
    · cases h
  | .bi b es, X, EX, nf, e, C, h => by
    have gen : ∀ {x : Str} {p : Pos} {y : Expr} {l : List Expr} {pos : Pos}, (chkEs es nf (y :: l) && chkBi b nf x) = true → Ok3 X g Φ EX (.Call (.Name x p) (y :: l) [] pos) (.bi b es) := fun {x p y l pos} h => by
      rw [Bool.and_eq_true] at h
      obtain ⟨a1, a2⟩ := chkEs_ok es C h.1
      simp only [List.all_cons, Bool.and_eq_true] at a2
      have hb := h.2
      unfold chkBi at hb
      rw [Bool.and_eq_true] at hb
      obtain ⟨g1, g2, g3, g4⟩ := blt_ok C hb.1
      have hb := hb.2
      split at hb
      · rename_i id hid
        exact both C (ok_biB (es1 := []) (biB_ok C hid) g1 g3 (of_decide_eq_true hb) a1 g4 g2 a2.1 a2.2) rfl
      · split at hb
        · rename_i id hid
          exact both C (ok_biT (biT_ok C hid) g1 g3 (of_decide_eq_true hb) a1 g4 g2 a2.1 a2.2) rfl
        · cases hb
    unfold chkE at h
    split at h
    · rename_i ty
      split at h
      · rename_i a x p y z p2 pos
        simp only [Bool.and_eq_true] at h
        obtain ⟨⟨⟨⟨⟨h1, h2⟩, h3⟩, h4⟩, h5⟩, h6⟩ := h
        obtain rfl := of_decide_eq_true h2
        obtain ⟨g1, g2, g3, g4⟩ := blt_ok C h3
        obtain ⟨k1, k2, k3, k4⟩ := blt_ok C h4
        exact both C (ok_isi C.K g1 g3 k1 k3 (of_decide_eq_true h5) k4 k2 (chkE_ok a C h1).1 h6) rfl
      · cases h
    · split at h
      · exact gen h
      · cases h
  | .bm m o es, X, EX, nf, e, C, h => by
    simp only [chkE] at h
    split at h
    · rename_i x n ap l p
      simp only [Bool.and_eq_true] at h
      obtain ⟨⟨⟨⟨⟨h1, h2⟩, h3⟩, h4⟩, h5⟩, h6⟩ := h
      have O := (chkE_ok o C h1).1
      obtain ⟨a1, a2⟩ := chkEs_ok es C h2
      cases l with
      | nil =>
        cases es with
        | nil => exact both C (ok_bm0 m C.K O (of_decide_eq_true h3) (sup_ok h4) h5) rfl
        | cons e' es' => simp [chkEs] at h2
      | cons y l =>
        simp only [List.all_cons, Bool.and_eq_true] at a2
        exact both C (ok_bm m C.K O a1 (of_decide_eq_true h3) (sup_ok h4) h5 a2.1 a2.2 (of_decide_eq_true h6)) rfl
    · cases h
  | .comp w own p it ifs elt, X, EX, nf, e, C, h => by
    simp only [chkE] at h
    split at h
    · rename_i el tg iter ifsE kk scope pos
      simp only [Bool.and_eq_true] at h
      obtain ⟨⟨⟨⟨⟨⟨⟨h0, h1⟩, h2⟩, h3⟩, h4⟩, h5⟩, h6⟩, h7⟩ := h
      obtain rfl := of_decide_eq_true h0
      refine both C (ok_comp (of_decide_eq_true h4) (ownOf_snd nf.N own) C.calm C.nd (chkIt_ok it C h1 tg) (by rw [C.N, C.sc]; exact blkOk_ok h2) (fun s H Ca cl fp => tgt_ok (C.blk scope s H Ca cl fp) h3) (fun s H Ca cl fp => chkIfs_ok ifs (C.blk scope s H Ca cl fp) h5)
        (fun s H Ca cl fp => (chkE_ok elt (C.blk scope s H Ca cl fp) h6).1) (fold_ok h7)) rfl
    · cases h
  | .fstr es, X, EX, nf, e, C, h => by
    simp only [chkE] at h
    split at h
    · exact both C (ok_fstr (chkFs_ok es C h)) rfl
    · cases h
theorem chkEs_ok : ∀ (es' : Es) {X : Cx} {EX : St → XK} {nf : Nfo} {es : List Expr}, Ctx X g Φ CX k EX nf → chkEs es' nf es = true → PA X es (TAv g Φ EX es') ∧ es.all noStar = true
  | .nil, X, EX, nf, es, C, h => by
    simp only [chkEs] at h
    split at h
    · exact ⟨oks_nil, rfl⟩
    · cases h
  | .cons e' es', X, EX, nf, es, C, h => by
    simp only [chkEs] at h
    split at h
    · simp only [Bool.and_eq_true] at h
      obtain ⟨a1, a2⟩ := chkEs_ok es' C h.2
      exact ⟨oks_cons (chkE_ok e' C h.1.1).1 a1 h.1.2, by simp only [List.all_cons, h.1.2, a2]; rfl⟩
    · cases h
theorem chkKs_ok : ∀ (es' : Es) {X : Cx} {EX : St → XK} {nf : Nfo} {es : List Keyword}, Ctx X g Φ CX k EX nf → chkKs es' nf es = true → PK X es (TAv g Φ EX es') ∧ ∀ q ∈ es, q.arg.isSome = true
  | .nil, X, EX, nf, es, C, h => by
    simp only [chkKs] at h
    split at h
    · refine ⟨⟨fun pos pins s σ H Q I ⟨c, t, σ', G, S, P⟩ => ?_⟩, fun q hq => absurd hq List.not_mem_nil⟩
      simp only [evEs] at P
      exact pk_nil.run pos pins s σ H Q I (P.ok G (show WRels _ _ _ [] [] from rfl))
    · cases h
  | .cons e' es', X, EX, nf, es, C, h => by
    simp only [chkKs] at h
    split at h
    · rename_i a e p es
      simp only [Bool.and_eq_true] at h
      obtain ⟨a1, a2⟩ := chkKs_ok es' C h.2
      refine ⟨⟨fun pos pins s σ H Q I ⟨c, t, σ', G, S, P⟩ => ?_⟩, fun q hq => ?_⟩
      · simp only [evEs] at P
        exact (pk_cons (chkE_ok e' C h.1.1).1 a1).run pos pins s σ H Q I (TEv.to G S P fun w t1 c1 H1 v st1 G1 S1 r1 P1 => TAv.to G1 S1 P1 fun ws t2 c2 H2 vs _ st2 G2 S2 r2 P2 => P2.ok G2 (show WRels _ _ _ (w :: ws) (v :: vs) from ⟨v, vs, rfl, r1.step st2 G1, r2⟩))
      · rcases List.mem_cons.mp hq with rfl | hq
        · exact h.1.2
        · exact a2 q hq
    · cases h
theorem chkFs_ok : ∀ (es' : Es) {X : Cx} {EX : St → XK} {nf : Nfo} {es : List Expr}, Ctx X g Φ CX k EX nf → chkFs es' nf es = true → PFm X g Φ EX es es'
  | .nil, X, EX, nf, es, C, h => by
    simp only [chkFs] at h
    split at h
    · exact .nil
    · cases h
  | .cons e' es', X, EX, nf, es, C, h => by
    simp only [chkFs] at h
    split at h
    · simp only [Bool.and_eq_true] at h
      obtain rfl := of_decide_eq_true h.1.2
      exact .cons (fm_val (chkE_ok e' C h.1.1).1) (chkFs_ok es' C h.2)
    · rw [Bool.and_eq_true] at h
      obtain ⟨h1, h2⟩ := h
      split at h1
      · obtain rfl := of_decide_eq_true h1
        exact .cons (fm_str pe_str) (chkFs_ok es' C h2)
      · cases h1
    · cases h
theorem chkIfs_ok : ∀ (es' : Es) {X : Cx} {EX : St → XK} {nf : Nfo} {es : List Expr}, Ctx X g Φ CX k EX nf → chkIfs es' nf es = true → PTs X es (TFv g Φ EX es')
  | .nil, X, EX, nf, es, C, h => by
    simp only [chkIfs] at h
    split at h
    · exact of_nil
    · cases h
  | .cons e' es', X, EX, nf, es, C, h => by
    simp only [chkIfs] at h
    split at h
    · rw [Bool.and_eq_true] at h
      cases es' with
      | nil => exact of_one (chkE_ok e' C h.1).2.1
      | cons _ _ => cases h.2
    · cases h
theorem chkIt_ok : ∀ (it : It) {X : Cx} {EX : St → XK} {nf : Nfo} {e : Expr}, Ctx X g Φ CX k EX nf → chkIt it nf e = true → ∀ tg, PI X tg e (TIv g Φ EX it)
  | .seq e', X, EX, nf, e, C, h, tg => by
    simp only [chkIt] at h
    exact oi_seq C.K (chkE_ok e' C h).1
  | .str e', X, EX, nf, e, C, h, tg => by
    simp only [chkIt] at h
    exact oi_str (chkE_ok e' C h).1
  | .range1 a, X, EX, nf, e, C, h, tg => by
    simp only [chkIt] at h
    split at h
    · simp only [Bool.and_eq_true] at h
      obtain ⟨⟨⟨h1, h2⟩, h3⟩, h4⟩ := h
      obtain rfl := of_decide_eq_true h1
      obtain ⟨g1, _, g3, _⟩ := blt_ok C h2
      exact oi_range1 g1 g3 (chkE_ok a C h3).1 h4
    · cases h
  | .range2 a b, X, EX, nf, e, C, h, tg => by
    simp only [chkIt] at h
    split at h
    · simp only [Bool.and_eq_true] at h
      obtain ⟨⟨⟨⟨⟨h1, h2⟩, h3⟩, h4⟩, h5⟩, h6⟩ := h
      obtain rfl := of_decide_eq_true h1
      obtain ⟨g1, _, g3, _⟩ := blt_ok C h2
      exact oi_range2 g1 g3 (chkE_ok a C h3).1 (chkE_ok b C h4).1 h5 h6
    · cases h
end
end
end MP
end

/-! text MPO -/
section
set_option Elab.async false
set_option linter.all false
set_option maxRecDepth 100000
set_option maxHeartbeats 4000000
/-! MP, part O: a checker of statements. -/
namespace MP
open PySem L2 PySem.Spec
open PyProof.Rows hiding St

section
variable {X : Cx} {g : Gx} {Φ : Fns} {CX : CXT} {k : Nat} {EX : St → XK} {nf : Nfo}
/-- no stores are swapped -/
def swapNo : Expr → Expr → Bool
  | .Tuple _ _ _, .Tuple vs _ _ => vs.all (foldedForSure 8)
  | .List _ _, .Tuple _ _ _ => false
  | .List _ _, .List _ _ => false
  | .Starred _ _, _ => false
  | _, _ => true
theorem swapNo_tt {ts vs : List Expr} {k1 k2 : Nat} {p1 p2 : Pos} {env : Env} (h : vs.all (foldedForSure 8) = true) : swappedStores [.Tuple ts k1 p1] (.Tuple vs k2 p2) env = pure none := by
  unfold swappedStores
  simp only [h, if_true]
  split
  · rfl
  · split
    · rfl
    · split
      · rfl
      · rfl
theorem swapNo_ok {tg e : Expr} {env : Env} (h : swapNo tg e = true) : swappedStores [tg] e env = pure none := by
  cases tg <;> first
    | rfl
    | skip
  · cases e <;> first | rfl | cases h
  · cases e <;> first | rfl | (cases h; done) | exact swapNo_tt h
/-- two stores are swapped -/
def swapYes (nf : Nfo) (x y : Str) (px py : Pos) (a b : Expr) : Bool :=
  decide (nf.sc.kind = .function) && decide (nf.sc.names.lookup x = some .local) && decide (nf.sc.names.lookup y = some .local) && (py.line == px.line) && decide (([x, y] : List Str).eraseDups.length = 2) && noStar a && noStar b && !([a, b].all (foldedForSure 8)) && !([a, b].all (constantsAlone 8))
theorem swapYes_ok (C : Ctx X g Φ CX k EX nf) {x y : Str} {px py pt pt2 : Pos} {kt k2 : Nat} {a b : Expr} (h : swapYes nf x y px py a b = true) :
    X.env.scope.names.lookup x = some .local ∧ X.env.scope.names.lookup y = some .local ∧ noStar a = true ∧ noStar b = true ∧ swappedStores [.Tuple [.Name x px, .Name y py] kt pt] (.Tuple [a, b] k2 pt2) X.env = pure (some [x, y]) := by
  unfold swapYes at h
  simp only [Bool.and_eq_true] at h
  obtain ⟨⟨⟨⟨⟨⟨⟨⟨h0, h1⟩, h2⟩, h3⟩, h4⟩, h5⟩, h6⟩, h7⟩, h8⟩ := h
  have h1 := of_decide_eq_true h1
  have h2 := of_decide_eq_true h2
  rw [← C.sc] at h1 h2
  refine ⟨h1, h2, h5, h6, ?_⟩
  have hk : X.env.scope.kind = .function := by rw [C.sc]; exact of_decide_eq_true h0
  have hb : X.env.blockKind = .function := by unfold Env.blockKind; rw [hk]; rfl
  have kx : X.env.kindOf x = some .local := h1
  have ky : X.env.kindOf y = some .local := h2
  have st : (([a, b] : List Expr).any fun | .Starred .. => true | _ => false) = false := by
    cases a <;> first | (cases h5; done) | skip
    all_goals (cases b <;> first | rfl | cases h6)
  have nm : (([.Name x px, .Name y py] : List Expr).filterMap fun
    | .Name id pos => if X.env.kindOf id == some .local && pos.line == px.line then some id else none
    | _ => none) = [x, y] := by
    simp only [List.filterMap, kx, ky, h3]
    simp
  have h4 := of_decide_eq_true h4
  unfold swappedStores
  simp only [hb]
  generalize hF : List.filterMap _ [Expr.Name x px, Expr.Name y py] = F
  have eF : F = [x, y] := by rw [← hF]; exact nm
  subst eF
  have h7 : ([a, b].all (foldedForSure 8)) = false := by
    cases q : ([a, b].all (foldedForSure 8)) with
    | false => rfl
    | true => rw [q] at h7; cases h7
  have h8 : ([a, b].all (constantsAlone 8)) = false := by
    cases q : ([a, b].all (constantsAlone 8)) with
    | false => rfl
    | true => rw [q] at h8; cases h8
  refine (if_neg (show ¬ false = true by decide)).trans ((if_neg (fun q => Bool.noConfusion (st.symm.trans q))).trans ((if_neg ?_).trans ((if_neg (by rw [h7]; decide)).trans ((if_neg (by rw [h8]; decide)).trans rfl))))
  rw [h4]
  show ¬ false = true
  decide
/-! ### statements -/
mutual
def chkS : S → Nfo → Stmt → Bool
  | .set p e, nf, st => match st with
    | .Assign [tg] v pos => chkE e nf v && (match tg, v, p with
      | .Name x py, .ListComp el gs scope cp, .name i => decide (nf.sc.kind = .function) && decide (nf.N[i]? = some x) && decide (nf.sc.names.lookup x = some .local) && (py.line == cp.line) && !(scope.names.any fun (n, k) => n == x && (k == .local || k == .cell))
      | tg, v, p => notComp v && swapNo tg v && tgtOk p nf tg)
    | _ => false
  | .par i j a b, nf, st => match st with
    | .Assign [.Tuple [.Name x px, .Name y py] _ _] (.Tuple [u, v] _ _) _ => decide (nf.N[i]? = some x) && decide (nf.N[j]? = some y) && decide (i ≠ j) && swapYes nf x y px py u v && chkE a nf u && chkE b nf v
    | _ => false
  | .setf o i e, nf, st => match st with
    | .Assign [.Attribute x m _] v _ => chkE o nf x && chkE e nf v && decide (nf.t.fld[i]? = some m) && notComp v
    | _ => false
  | .seti o i e, nf, st => match st with
    | .Assign [.Subscript x y _] v _ => chkE o nf x && chkE i nf y && chkE e nf v && notComp v && notSlice y
    | _ => false
  | .ex e, nf, st => match st with
    | .Expr v _ => chkE e nf v && notComp v
    | _ => false
  | .ret e, nf, st => match st with
    | .Return (some v) _ => chkE e nf v
    | _ => false
  | .retN, nf, st => match st with
    | .Return none _ => true
    | _ => false
  | .ife c a b, nf, st => match st with
    | .If d x y _ => chkE c nf d && chkSs a nf x && chkSs b nf y
    | _ => false
  | .whl c b, nf, st => match st with
    | .While d x [] _ => chkE c nf d && chkSs b nf x
    | _ => false
  | .fr p it b, nf, st => match st with
    | .For tg iter x [] _ => chkIt it nf iter && tgtOk p nf tg && chkSs b nf x && noSet iter
    | _ => false
  | .rai _ _, _, _ => false
  | .pas, _, st => match st with
    | .Pass _ => true
    | _ => false
  | .brk, _, st => match st with
    | .Break _ => true
    | _ => false
  | .cnt, _, st => match st with
    | .Continue _ => true
    | _ => false
  | .nev, _, _ => true
def chkSs : List S → Nfo → List Stmt → Bool
  | [], _, l => match l with
    | [] => true
    | _ => false
  | s :: r, nf, l => match l with
    | st :: rest => chkS s nf st && chkSs r nf rest
    | _ => false
end
theorem one_tgt {tg : Expr} {env : Env} (h : noStar tg = true) : (assignEach [tg] env).map (·.2) = [assign tg env] := by
  cases tg <;> first | rfl | cases h
theorem tgt_star {p : Pat} {tg : Expr} (h : tgtOk p nf tg = true) : noStar tg = true := by
  cases tg <;> first | rfl | cases h
theorem setc_ok (C : Ctx X g Φ CX k EX nf) {i : Nat} {e : E} {x : Str} {py cp pos : Pos} {el : Expr} {gs : List Comprehension} {scope : Scope} (h : chkE e nf (.ListComp el gs scope cp) = true) (h1 : nf.sc.kind = .function) (h2 : nf.N[i]? = some x) (h3 : nf.sc.names.lookup x = some .local) (h4 : (py.line == cp.line) = true)
    (h5 : (scope.names.any fun (n, k) => n == x && (k == .local || k == .cell)) = false) : PS X (.Assign [.Name x py] (.ListComp el gs scope cp) pos) (TSv g Φ EX (.set (.name i) e)) := by
  cases e <;> first
    | (simp [chkE] at h; done)
    | skip
  · simp [chkE, chkCon] at h
  · rename_i b es
    unfold chkE at h
    split at h
    · split at h
      · rename_i heq; cases heq
      · cases h
    · split at h
      · rename_i heq; cases heq
      · cases h
  · rename_i w own p it ifs elt
    simp only [chkE] at h
    split at h
    · rename_i el2 tg iter ifsE kk scope2 pos2 heq
      cases heq
      simp only [Bool.and_eq_true] at h
      obtain ⟨⟨⟨⟨⟨⟨⟨h0, k1⟩, k2⟩, k3⟩, k4⟩, k5⟩, k6⟩, k7⟩ := h
      obtain rfl := of_decide_eq_true h0
      have hk : X.env.scope.kind = .function := by rw [C.sc]; exact h1
      have hl : X.env.scope.names.lookup x = some .local := by rw [C.sc]; exact h3
      exact os_setLc (of_decide_eq_true k4) (ownOf_snd nf.N own) C.calm C.nd (chkIt_ok it C k1 tg) (by rw [C.N, C.sc]; exact blkOk_ok k2) (fun s H Ca cl fp => tgt_ok (C.blk scope s H Ca cl fp) k3) (fun s H Ca cl fp => chkIfs_ok ifs (C.blk scope s H Ca cl fp) k5)
        (fun s H Ca cl fp => (chkE_ok elt (C.blk scope s H Ca cl fp) k6).1) (fold_ok k7) (by rw [C.N]; exact h2) hl (sw_true hk hl h4 h5)
    · cases h
mutual
theorem chkS_ok : ∀ (s : S) {st : Stmt}, Ctx X g Φ CX k EX nf → PassesOwn (model X.prog X.w) X.A X.env X.xe → chkS s nf st = true → PS X st (TSv g Φ EX s)
  | .set p e, st, C, O, h => by
    simp only [chkS] at h
    split at h
    · rename_i tg v pos
      rw [Bool.and_eq_true] at h
      obtain ⟨h1, h2⟩ := h
      split at h2
      · simp only [Bool.and_eq_true] at h2
        obtain ⟨⟨⟨⟨a1, a2⟩, a3⟩, a4⟩, a5⟩ := h2
        exact setc_ok C h1 (of_decide_eq_true a1) (of_decide_eq_true a2) (of_decide_eq_true a3) a4 (by simpa using a5)
      · simp only [Bool.and_eq_true] at h2
        obtain ⟨⟨a1, a2⟩, a3⟩ := h2
        exact os_asg (chkE_ok e C h1).1 (tgt_ok C a3) (swaps_no a1) (swapNo_ok a2) (one_tgt (tgt_star a3))
    · cases h
  | .par i j a b, st, C, O, h => by
    simp only [chkS] at h
    split at h
    · simp only [Bool.and_eq_true] at h
      obtain ⟨⟨⟨⟨⟨h1, h2⟩, h3⟩, h4⟩, h5⟩, h6⟩ := h
      obtain ⟨a1, a2, a3, a4, a5⟩ := swapYes_ok C h4
      exact os_par C.calm C.nd (by rw [C.N]; exact of_decide_eq_true h1) (by rw [C.N]; exact of_decide_eq_true h2) (of_decide_eq_true h3) a1 a2 (chkE_ok a C h5).1 (chkE_ok b C h6).1 a3 a4 a5
    · cases h
  | .setf o i e, st, C, O, h => by
    simp only [chkS] at h
    split at h
    · simp only [Bool.and_eq_true] at h
      obtain ⟨⟨⟨h1, h2⟩, h3⟩, h4⟩ := h
      obtain ⟨f1, f2⟩ := fld_tab C (of_decide_eq_true h3)
      exact os_fld C.K (chkE_ok o C h1).1 (chkE_ok e C h2).1 f2 f1 h4
    · cases h
  | .seti o i e, st, C, O, h => by
    simp only [chkS] at h
    split at h
    · simp only [Bool.and_eq_true] at h
      obtain ⟨⟨⟨⟨h1, h2⟩, h3⟩, h4⟩, h5⟩ := h
      exact os_sub h5 (chkE_ok o C h1).1 (chkE_ok i C h2).1 (chkE_ok e C h3).1 h4
    · cases h
  | .ex e, st, C, O, h => by
    simp only [chkS] at h
    split at h
    · rw [Bool.and_eq_true] at h
      exact os_ex (chkE_ok e C h.1).1 h.2
    · cases h
  | .ret e, st, C, O, h => by
    simp only [chkS] at h
    split at h
    · exact os_ret (chkE_ok e C h).1
    · cases h
  | .retN, st, C, O, h => by
    simp only [chkS] at h
    split at h
    · exact os_retN
    · cases h
  | .ife c a b, st, C, O, h => by
    simp only [chkS] at h
    split at h
    · simp only [Bool.and_eq_true] at h
      exact os_if (chkE_ok c C h.1.1).2.1 (chkSs_ok a C O h.1.2) (chkSs_ok b C O h.2)
    · cases h
  | .whl c b, st, C, O, h => by
    simp only [chkS] at h
    split at h
    · rw [Bool.and_eq_true] at h
      exact os_while O (chkE_ok c C h.1).2.1 (chkSs_ok b C O h.2)
    · cases h
  | .fr p it b, st, C, O, h => by
    simp only [chkS] at h
    split at h
    · simp only [Bool.and_eq_true] at h
      obtain ⟨⟨⟨h1, h2⟩, h3⟩, h4⟩ := h
      exact os_for O C.calm (chkIt_ok it C h1 _) (tgt_ok C h2) (chkSs_ok b C O h3) (fold_ok h4)
    · cases h
  | .rai _ _, st, C, O, h => by
    simp only [chkS] at h
    cases h
  | .pas, st, C, O, h => by
    simp only [chkS] at h
    split at h
    · exact os_pass
    · cases h
  | .brk, st, C, O, h => by
    simp only [chkS] at h
    split at h
    · exact os_break
    · cases h
  | .cnt, st, C, O, h => by
    simp only [chkS] at h
    split at h
    · exact os_cont
    · cases h
  | .nev, st, C, O, h => os_nev
theorem chkSs_ok : ∀ (s : List S) {st : List Stmt}, Ctx X g Φ CX k EX nf → PassesOwn (model X.prog X.w) X.A X.env X.xe → chkSs s nf st = true → PSs X st (TSs g Φ EX s)
  | [], st, C, O, h => by
    simp only [chkSs] at h
    split at h
    · exact os_nil
    · cases h
  | s :: r, st, C, O, h => by
    simp only [chkSs] at h
    split at h
    · rw [Bool.and_eq_true] at h
      exact os_cons (chkS_ok s C O h.1) (chkSs_ok r C O h.2)
    · cases h
end
end
end MP
end

/-! text MPP -/
section
set_option Elab.async false
set_option linter.all false
set_option maxRecDepth 100000
set_option maxHeartbeats 4000000
/-! MP, part P: defs, the tower, the law's end. -/
namespace MP
open PySem L2 PySem.Spec
open PyProof.Rows hiding St

section
variable {g : Gx} {c c0 : Cf} {t : Stt} {H H0 : Hp}
/-- a frame's lists are let go: nothing writes them any more -/
def frz (c : Cf) : Cf := ⟨c.ρ, [], fun a => c.Z a ∨ a ∈ c.l⟩
theorem frz_mon (c : Cf) (H : Hp) : Mon c.ρ c.Z H (frz c).ρ (frz c).Z H := ⟨fun _ _ h => h, fun _ h => .inl h, fun _ _ => rfl, fun _ _ h => h⟩
theorem Good.frz (G : Good g.toGv c t H) : Good g.toGv (frz c) ⟨[], t.S⟩ H := by
  refine ⟨G.lρ, rfl, ?_, fun i s a e1 e2 => ?_, fun i s a e1 e2 => by simp at e1, fun a ha z => ?_, fun a z => ?_⟩
  · show (c.ρ ++ []).Nodup
    simpa using (List.nodup_append.mp G.nd).1
  · exact (G.sc i s a e1 e2).mon (frz_mon c H) rfl
  · rcases z with z | z
    · exact G.zρ a ha z
    · exact G.ρl ha z
  · rcases z with z | z
    · exact G.zh a z
    · obtain ⟨vs, e⟩ := G.l_obj z; exact ⟨_, e⟩
theorem Step.frz {ρ0 : List Addr} {Z0 : Addr → Prop} (st : Step ⟨ρ0, [], Z0⟩ H0 c H) : Step ⟨ρ0, [], Z0⟩ H0 (MP.frz c) H :=
  ⟨st.ρ, fun n a h => by simp at h, fun a h => .inl (st.z a h), st.zk, st.fr, st.nn, st.nρ, fun a h => by simp [MP.frz] at h, fun a h => by
    rcases h with h | h
    · exact st.nz a h
    · rcases st.nl a h with h | h
      · simp at h
      · exact .inr (.inr h)⟩
/- read to the bottom -/
mutual
theorem deepF_ok (G : Good g.toGv c t H) : ∀ {n : Nat} {w : W} {v : V} {d : D}, WRel g.toGv c H w v → deepF n t.L w = some d → RelD g.toGv (frz c).ρ (frz c).Z H d v
  | n, .d x, v, d, r, e => by
    unfold deepF at e
    cases e
    exact RelD.mon (frz_mon c H) r
  | 0, .loc i, v, d, r, e => by
    unfold deepF at e
    cases e
  | n + 1, .loc i, v, d, r, e => by
    obtain ⟨a, ea, rfl⟩ := r
    unfold deepF at e
    split at e
    · rename_i z ws hw
      obtain ⟨vs, h1, h2, _⟩ := G.lc _ _ _ hw ea
      cases hd : deepF.go n t.L ws with
      | none => rw [hd] at e; cases e
      | some ds =>
        rw [hd] at e
        cases e
        refine RelD.lst_iff.mpr ⟨a, vs, rfl, ⟨h1, .inr (List.mem_of_getElem? ea)⟩, deepG_ok G h2 hd⟩
    · rename_i z kvs hw
      exact (G.lc _ _ _ hw ea).elim
    · cases e
theorem deepG_ok (G : Good g.toGv c t H) : ∀ {n : Nat} {ws : List W} {vs : List V} {ds : List D}, WRels g.toGv c H ws vs → deepF.go n t.L ws = some ds → RelDs g.toGv (frz c).ρ (frz c).Z H ds vs
  | n, [], vs, ds, r, e => by
    unfold deepF.go at e
    cases e
    simp only [RelDs]
    exact r
  | n, w :: ws, vs, ds, ⟨v, vr, ev, r1, r2⟩, e => by
    unfold deepF.go at e
    split at e
    · rename_i x xs h1 h2
      cases e
      subst ev
      exact .cons (deepF_ok G r1 h1) (deepG_ok G r2 h2)
    · cases e
end
theorem XRel.frz {x : XD} {cls : Value} {dx : Option Addr} (h : XRel g.toGv g.xa g.fx c H x cls dx) : XRel g.toGv g.xa g.fx (MP.frz c) H x cls dx := by
  obtain ⟨h1, h2⟩ := h
  refine ⟨h1, ?_⟩
  cases e : x.arg with
  | none => rw [e] at h2; exact h2
  | some d =>
    rw [e] at h2
    obtain ⟨a, v, q1, q2, q3, q4, q5, q6⟩ := h2
    exact ⟨a, v, q1, q2, RelD.mon (frz_mon c H) q3, q4, by simp [MP.frz], fun z => z.elim q6 q5⟩
/-- a body's end -/
theorem end_ok {ρ0 : List Addr} {Z0 : Addr → Prop} {r : RS} {Q : VK} {E : XK} (P : PostF g ⟨ρ0, [], Z0⟩ H0 (endF r) Q E) : PostS g (fun _ => E) ⟨ρ0, [], Z0⟩ H0 r { nx := fun _ H' => Q .non H', rt := Q } := by
  cases r with
  | next σ t => exact fun c' H' σV st G S => P (frz c').ρ (frz c').Z H' .non st.frz G.frz (RelD.non_iff.mpr rfl)
  | brk σ t => exact P.elim
  | cnt σ t => exact P.elim
  | ret w t =>
    intro c' H' v st G r
    unfold endF at P
    cases e : deepF DEEP t.L w with
    | none => simp only [e] at P; exact P.elim
    | some d =>
      simp only [e] at P
      exact P (frz c').ρ (frz c').Z H' v st.frz G.frz (deepF_ok G r e)
  | exc x σ t => exact fun c' H' σV cls dx st G S xr => P (frz c').ρ (frz c').Z H' cls dx st.frz G.frz xr.frz
  | stk => exact P.elim
theorem start_rel {N : List Str} : ∀ {ds : List D} {vs : List V} {ns : Nat}, RelDs g.toGv c.ρ c.Z H ds vs → N.length = ns → SRel g c H (ds.map (fun d => some (.d d)) ++ List.replicate (ns - ds.length) none) (L2.start N vs) := by
  intro ds vs ns r hN
  have hl := r.length
  refine ⟨by unfold L2.start; simp [hl, hN], fun i w e => ?_⟩
  by_cases hi : i < ds.length
  · rw [List.getElem?_append_left (by simpa using hi), List.getElem?_map, List.getElem?_eq_getElem hi] at e
    cases e
    obtain ⟨v, e1, e2⟩ := r.get (List.getElem?_eq_getElem hi)
    refine ⟨v, ?_, e2⟩
    unfold L2.start
    rw [List.getElem?_append_left (by simp; omega), List.getElem?_map, e1]
    rfl
  · rw [List.getElem?_append_right (by simpa using hi), List.getElem?_replicate] at e
    split at e <;> cases e
end
theorem nox_cx {P : Program} {w : World} : ∀ outer H s e s', L2.CX P w outer H s (fun _ _ _ => False) e s' → False := fun _ _ _ _ _ ⟨_, _, _, _, _, _, _, _, _, _, _, _, h⟩ => h
/-- what the written part tells of the program's names and defs -/
structure Stat (K : PySem.W.Frag) (mg : Str → Option Value) (g : Gx) (T : Tab) (tab : Nat → Option Fn) : Prop where
  fn : ∀ x f, T.fns.lookup x = some f → mg x = some (.ref (g.fadr f))
  df : ∀ f np, T.nps.lookup f = some np → ∃ (fn : Fn) (N : List Str) (x qual : Str) (params : Arguments) (body : List Stmt) (scope : Scope) (dvs : List V) (kws : List (Str × V)) (fd : FuncData), tab f = some fn ∧ fn.np = np ∧ N.length = fn.ns ∧ np ≤ fn.ns ∧
    FunD K x qual params body scope dvs kws (g.fadr f) fd ∧ FnScope N (N.take np) scope ∧ chkSs fn.body ⟨T, N, scope, true⟩ body = true ∧
    (∀ dfl, T.dB f dfl = true → ∃ dvs ds, Binds K fd (N.take np) ds ∧ Vals dvs ds ∧ ∀ ρ Z H, RelDs g.toGv ρ Z H dfl dvs) ∧
    (∀ ks, T.kws.lookup f = some ks → ks.length = np ∧ ∀ (s : Shared) (ws : List Value), K.In s.heap → ws.length = ks.length → BindsTo s fd ⟨[], ks.zip ws⟩ ((N.take np).zip ws))
  con : ∀ x d, T.con.lookup x = some d → ∃ u v, mg x = some u ∧ RelV v u ∧ ∀ ρ Z H, RelD g.toGv ρ Z H d v
  blt : ∀ x, x ∈ T.blt → mg x = none
  cls : ∀ x c, T.cls.lookup x = some c → mg x = some (.ref (g.cadr c))
  ini : ∀ c f, T.ini.lookup c = some f → Mk K (g.cadr c) (g.fadr f)
  clk : T.fld ≠ [] → ∀ c, Cls K (g.cadr c)
  nat : ∀ c i x, T.fld[i]? = some x → g.fname i = x ∧ NoAttr K (g.cadr c) (g.fname i)
  mth : ∀ c m f, T.mth.lookup (c, m) = some f → Cls K (g.cadr c) ∧ Meth K (g.cadr c) m (g.fadr f) ∧ ∀ i, g.fname i ≠ m
section
variable {P : Program} {w : World} {K : PySem.W.Frag} {mg : Str → Option Value} {base : Heap} {g : Gx} {T : Tab} {tab : Nat → Option Fn}
theorem def_ok {k f np : Nat} {Φ Φ' : Fns} {fn : Fn} {N : List Str} {x qual : Str} {params : Arguments} {body : List Stmt} {scope : Scope} {dvs : List V} {kws : List (Str × V)} {fd : FuncData} (hK : K = g.K) (hΦ : ∀ ds S, Φ' f ds S = run Φ fn ds S)
    (hnp : fn.np = np) (hN : N.length = fn.ns) (hle : np ≤ fn.ns) (F : FunD K x qual params body scope dvs kws (g.fadr f) fd) (S : FnScope N (N.take np) scope) (hc : chkSs fn.body ⟨T, N, scope, true⟩ body = true) (gl : Glob P w K mg base (L2.CX P w) k g Φ T) :
    FnG P w K mg base (L2.CX P w) (k + 2) (g.fadr f) fd (N.take np) (spF g Φ' np f) := by
  have hpl : (N.take np).length = np := by rw [List.length_take]; omega
  refine fn_ofG F S (fun vs H Q E h => by rw [h.1, hpl]) fun cdv A outer s H vs Q E hr hgd hsp => ?_
  obtain ⟨hl, ρ, Z, Sc, ds, G, r, P0⟩ := hsp
  rw [hΦ] at P0
  have tk : L2.Takes (cxOf (L2.CX P w) P w K mg base N qual scope (g.fadr f) cdv A outer s H E) (fun cls d _ H => E cls d H) := L2.takes_of rfl rfl rfl rfl
  have C : Ctx (cxOf (L2.CX P w) P w K mg base N qual scope (g.fadr f) cdv A outer s H E) g Φ (L2.CX P w) k (fun _ => E) ⟨T, N, scope, true⟩ :=
    ⟨rfl, S.nd, rfl, fun _ _ => rfl, hK, rfl, hgd, hr, fun σ => passAt tk σ, gl, nox_cx⟩
  have O := L2.passes_of (X := cxOf (L2.CX P w) P w K mg base N qual scope (g.fadr f) cdv A outer s H E) rfl
  refine ⟨_, chkSs_ok fn.body C O hc, ?_⟩
  have hdl : ds.length = np := by rw [← r.length, hl]
  unfold run at P0
  rw [if_pos (by rw [hdl, hnp])] at P0
  refine ⟨⟨ρ, [], Z⟩, ⟨[], Sc⟩, _, G, start_rel (c := ⟨ρ, [], Z⟩) r hN, ?_⟩
  have e : fn.ns - ds.length = fn.ns - fn.np := by rw [hdl, hnp]
  rw [e]
  exact end_ok P0
theorem tower_glob (St : Stat K mg g T tab) (hK : K = g.K) : ∀ n, Glob P w K mg base (L2.CX P w) (2 * n) g (tower tab n) T := fun n => by
  have mk : ∀ (k : Nat) (Φ : Fns), (∀ f np (fn : Fn) (N : List Str) (x qual : Str) (params : Arguments) (body : List Stmt) (scope : Scope) (dvs : List V) (kws : List (Str × V)) (fd : FuncData), tab f = some fn → fn.np = np → N.length = fn.ns → np ≤ fn.ns →
      FunD K x qual params body scope dvs kws (g.fadr f) fd → FnScope N (N.take np) scope → chkSs fn.body ⟨T, N, scope, true⟩ body = true → FnG P w K mg base (L2.CX P w) k (g.fadr f) fd (N.take np) (spF g Φ np f)) → Glob P w K mg base (L2.CX P w) k g Φ T := fun k Φ h =>
    ⟨St.fn, fun f np e => by
      obtain ⟨fn, N, x, qual, params, body, scope, dvs, kws, fd, h1, h2, h3, h4, h5, h6, h7, h8, h9⟩ := St.df f np e
      exact ⟨fd, N.take np, h f np fn N x qual params body scope dvs kws fd h1 h2 h3 h4 h5 h6 h7, h5.kp, h8, h9⟩, St.con, St.blt, St.cls, St.ini, St.clk, St.nat, St.mth⟩
  induction n with
  | zero =>
    refine mk 0 _ fun f np fn N x qual params body scope dvs kws fd h1 h2 h3 h4 h5 h6 h7 => ?_
    have hpl : (N.take np).length = np := by rw [List.length_take]; omega
    exact ⟨fun vs H Q E h => by rw [h.1, hpl], fun A outer s H args us vs Q E _ _ _ _ _ h => by
      obtain ⟨_, _, _, _, _, _, _, h⟩ := h
      exact h.elim⟩
  | succ n ih =>
    refine mk (2 * n + 2) _ fun f np fn N x qual params body scope dvs kws fd h1 h2 h3 h4 h5 h6 h7 => ?_
    exact def_ok hK (fun ds S => by show (match tab f with | some fn => run (tower tab n) fn ds S | none => .stk) = _; rw [h1]) h2 h3 h4 h5 h6 h7 ih
end
section
variable {P : Program} {w : World} {K : PySem.W.Frag} {mg : Str → Option Value} {base : Heap} {g : Gx} {T : Tab} {tab : Nat → Option Fn}
theorem tower_fn (St : Stat K mg g T tab) (hK : K = g.K) (n : Nat) {f np : Nat} {fn : Fn} {N : List Str} {x qual : Str} {params : Arguments} {body : List Stmt} {scope : Scope} {dvs : List V} {kws : List (Str × V)} {fd : FuncData} (h1 : tab f = some fn)
    (h2 : fn.np = np) (h3 : N.length = fn.ns) (h4 : np ≤ fn.ns) (h5 : FunD K x qual params body scope dvs kws (g.fadr f) fd) (h6 : FnScope N (N.take np) scope) (h7 : chkSs fn.body ⟨T, N, scope, true⟩ body = true) :
    FnG P w K mg base (L2.CX P w) (2 * n) (g.fadr f) fd (N.take np) (spF g (tower tab n) np f) := by
  cases n with
  | zero =>
    have hpl : (N.take np).length = np := by rw [List.length_take]; omega
    exact ⟨fun vs H Q E h => by rw [h.1, hpl], fun A outer s H args us vs Q E _ _ _ _ _ h => by
      obtain ⟨_, _, _, _, _, _, _, h⟩ := h
      exact h.elim⟩
  | succ n => exact def_ok hK (fun ds S => by show (match tab f with | some fn => run (tower tab n) fn ds S | none => .stk) = _; rw [h1]) h2 h3 h4 h5 h6 h7 (tower_glob St hK n)
end
/-! ### the law -/
theorem Only.sq {H : Hp} (h : Only H) {b : Addr} {o : HO} (e : H b = some o) : ∃ ob xs, o = .frz ob (.lst xs) := by
  rcases h b with z | ⟨ob, xs, z⟩
  · rw [z] at e; cases e
  · rw [z] at e; cases e; exact ⟨ob, xs, rfl⟩
/-- the promise at the script -/
theorem law_sp {g : Gx} {Φ : Fns} {f : Nat} {ns : List Int} {H : Hp} {a : Addr} (hS : SqL g.K H a (ns.map V.int)) (hΦ : ∃ S, Φ f [.klst (ns.map D.int)] [] = .ok (.bl true) S) : spF g Φ 1 f [.ref a] H (fun v _ => v = .bl true) fun _ _ _ => False := by
  refine ⟨rfl, [], fun b => ∃ o, H b = some o, [], [.klst (ns.map D.int)], ?_, ?_, ?_⟩
  · exact ⟨rfl, rfl, by simp, fun i s a e => by simp at e, fun i s a e => by simp at e, fun a ha => by simp at ha, fun a h => h⟩
  · refine .one (RelD.klst_iff.mpr ⟨a, ns.map V.int, rfl, ?_, ?_⟩)
    · rcases hS with h | h
      · refine .inl ⟨h, ?_⟩
        rcases h with h | ⟨o, h⟩
        · exact ⟨_, h⟩
        · exact ⟨_, h⟩
      · exact .inr (.inr h)
    · induction ns with
      | nil => exact .nil
      | cons i ns ih =>
        refine .cons (RelD.int_iff.mpr rfl) ?_
        clear ih hS hΦ
        induction ns with
        | nil => exact .nil
        | cons j ns ih => exact .cons (RelD.int_iff.mpr rfl) ih
  · obtain ⟨S, e⟩ := hΦ
    rw [e]
    exact fun ρ' Z' H' v _ _ rv => RelD.bl_iff.mp rv
end MP
end

/-! text MPQ -/
section
set_option Elab.async false
set_option linter.all false
set_option maxRecDepth 100000
set_option maxHeartbeats 4000000
/-! MP, part Q: the law's call at the head's end. -/
namespace MP
open PySem L2 PySem.Spec
open PyProof.Rows hiding St

/-- a heap H of the layer at the entry: the script alone may be tracked -/
structure Entry (P : Program) (w : World) (K : PySem.W.Frag) (s : Shared) (H : Hp) (a : Addr) (xs : List V) : Prop where
  only : Only H
  sq : SqL K H a xs
  ok : HOk P w H s.heap
  at_ : ∀ b, H b ≠ none → b = a
  off : H a ≠ none → K.lookup a = none
theorem entry_of {P : Program} {w : World} {K : PySem.W.Frag} {s : Shared} {a : Addr} {vs : List Value} {ns : List Int} (KX : K.In s.heap) (ha : s.heap.get? a = some { cls := .type "list", data := .seq vs.toArray }) (hi : IntsAre vs ns) (hl : ns.length ≤ sizeLine) :
    ∃ H, Entry P w K s H a (ns.map V.int) := by
  have rv := vals_ints hi
  cases hk : K.lookup a with
  | some o =>
    have e := KX a o hk
    rw [ha] at e
    cases e
    exact ⟨fun _ => none, fun _ => .inl rfl, .inr ⟨_, vs.toArray, _, hk, rfl, rfl, rfl, by rw [List.size_toArray, hi.length]; exact hl, by simpa using rv⟩, (fun b u z => by have z : (none : Option HO) = some u := z; cases z), fun b z => absurd rfl z, fun z => absurd rfl z⟩
  | none =>
    refine ⟨fun b => if b = a then some (.frz { cls := .type "list", data := .seq vs.toArray } (.lst (ns.map V.int))) else none, fun b => ?_, .inl (.inr ⟨{ cls := .type "list", data := .seq vs.toArray }, if_pos rfl⟩), fun b u z => ?_, fun b z => ?_, fun _ => hk⟩
    · by_cases h : b = a
      · exact .inr ⟨_, _, if_pos h⟩
      · exact .inl (if_neg h)
    · by_cases h : b = a
      · subst h
        have z := (if_pos rfl).symm.trans z
        cases z
        exact ⟨ha, by rw [List.length_map]; exact hl, vs, _, rv, ha⟩
      · have z := (if_neg h).symm.trans z
        cases z
    · by_cases h : b = a
      · exact h
      · exact absurd (if_neg h) z
theorem law_callG {P : Program} {w : World} {K : PySem.W.Frag} {mg mb : Str → Option Value} {CX : CXT} {k : Nat} {fa a : Addr} {fd : FuncData} {x : Str} {sp : Sp} {s : Shared} {vs : List Value} {ns : List Int}
    (KX : K.In s.heap) (hns : s.heap.Ns mainGlobals mg) (hb : s.heap.Ns builtinsNs mb) (hbb : ∀ x : Str, x ≠ "__name__" → mb x = bootBuiltins x) (hlim : s.heap.NoLimit) (hg : s.gens = #[])
    (ha : s.heap.get? a = some { cls := .type "list", data := .seq vs.toArray }) (hi : IntsAre vs ns) (hl : ns.length ≤ sizeLine) (hr : Room k callerA)
    (F : ∀ base : Heap, K.In base → base.Ns mainGlobals mg → FnG P w K mg base CX k fa fd [x] sp) (hbind : ∀ (s : Shared) (u : Value), BindsTo s fd ⟨[u], []⟩ [(x, u)])
    (hsp : ∀ H : Hp, Only H → SqL K H a (ns.map V.int) → sp [.ref a] H (fun v _ => v = .bl true) fun _ _ _ => False)
    (hCX : ∀ H e s', CX [] H s (fun _ _ _ => False) e s' → False) :
    codeAny (model P w) callerA (.call (.ref fa) ⟨[.ref a], []⟩) (fun r s' => r = .ok (.ret (.bool true)) ∧ OldK s.heap s'.heap ∧ s'.os = s.os ∧ AllBare s'.gens) s := by
  obtain ⟨H, E⟩ := entry_of (P := P) (w := w) KX ha hi hl
  have vis : ∀ {b : Addr} {o : Obj}, s.heap.get? b = some o → H b = none → (hidT s.heap H).get? b = some o := fun e n => hidT_get e n
  have dictFree : ∀ {b : Addr} {o : Obj} {es : Array DictEntry} {ep : Nat}, s.heap.get? b = some o → o.data = .dict es ep → H b = none := fun {b o es ep} e d => by
    by_cases q : H b = none
    · exact q
    · have eb := E.at_ b q
      subst eb
      rw [ha] at e
      cases e
      have d : Data.seq vs.toArray _ = Data.dict es ep := d
      cases d
  have ns' : ∀ {b : Addr} {m : Str → Option Value}, s.heap.Ns b m → (hidT s.heap H).Ns b m := fun {b m} ⟨o, es, ep, e, d, r⟩ => ⟨o, es, ep, vis e (dictFree e d), d, r⟩
  have KB : K.In (hidT s.heap H) := fun b o e => vis (KX b o e) (by
    by_cases q : H b = none
    · exact q
    · have eb := E.at_ b q
      subst eb
      rw [E.off q] at e
      cases e)
  have M : Mod K mg (hidT s.heap H) := ⟨KB, ns' hns, ⟨mb, ns' hb, hbb⟩, let ⟨mc, h1, h2⟩ := hlim; ⟨mc, ns' h1, h2⟩⟩
  have e0 : Env0 P w K mg (hidT s.heap H) callerA [] s H := ⟨rfl, M, fun b o e => of_hidT e, Nat.le_of_eq (hidT_size _ _), trivial, fun b hb => absurd (show b ∈ ([] : List Addr) from hb) (by simp), E.ok, .of_eq hg⟩
  refine codeAny_mono ((F _ KB (ns' hns)).run callerA [] s H ⟨[.ref a], []⟩ [.ref a] [.ref a] _ _ hr rfl e0 (hbind s (.ref a)) (.cons rfl .nil) (hsp H E.only E.sq)) fun r s' h => ?_
  cases r with
  | error e => exact (hCX H e s' h).elim
  | ok fl =>
    cases fl with
    | next => exact False.elim h
    | brk => exact False.elim h
    | cont => exact False.elim h
    | ret u =>
      obtain ⟨v, H', os, bare, un, ok', rv, q⟩ := h
      have q : v = .bl true := q
      subst q
      have rv : u = Value.bool true := rv
      subst rv
      refine ⟨rfl, OldK.of_keep fun b o e => ?_, os, bare⟩
      by_cases q : H b = none
      · exact un.keep b o e q (by intro z; exact absurd (show b ∈ ([] : List Addr) from z) (by simp)) (by simp)
      · rcases E.only b with z | ⟨ob, xs, z⟩
        · exact absurd z q
        · obtain ⟨e1, _⟩ := E.ok b _ z
          obtain ⟨e2, _⟩ := ok' b _ (un.frzs b ob _ z)
          rw [e] at e1
          cases e1
          exact e2
/-- a law: F gives the written part, the law's object, the promise over every base -/
theorem walk_G {l : PySem.W.OpenLaw} {n k : Nat} {q : Program} {loose : List Str} {XP : (Str → Option Value) → Heap → Prop} {YP : World → Heap → Prop} {d : DefRec} {x : Str}
    (hn : l.most = some n) (hn2 : n ≤ sizeLine) (hdf : d.params.defaults = []) (hr : Room k callerA)
    (F : ∀ (w : World) (mg : Str → Option Value) (fa : Addr) (h : Heap), YP w h → h.Ns mainGlobals mg → mg d.name = some (.ref fa) →
      ∃ (K : PySem.W.Frag) (fd : FuncData) (sp : Sp), K.In h ∧ (∀ (s : Shared) (u : Value), BindsTo s fd ⟨[u], []⟩ [(x, u)]) ∧
        (∀ (H : Hp) (a : Addr) (ns : List Int), ns.length ≤ n → Only H → SqL K H a (ns.map V.int) → sp [.ref a] H (fun v _ => v = .bl true) fun _ _ _ => False) ∧
        ∀ base : Heap, K.In base → base.Ns mainGlobals mg → FnG l.prog w K mg base (L2.CX l.prog w) k fa fd [x] sp) :
    PySem.W.WalkO q loose XP YP l.row.toRowW d [] (fun f vs => PySem.call f vs) := by
  refine Att.attach_call hn hdf fun w s₀ s₁ mg mb fa o pm cd doc a vs ns G Y ho hd hcd hmg hobj hints hlen hg => ?_
  obtain ⟨K, fd, sp, KX, hb, hsp, hF⟩ := F w mg fa _ Y G.T.g hmg
  exact law_callG KX G.T.g G.T.b G.T.builtins G.T.nolimit hg hobj hints (Nat.le_trans hlen hn2) hr hF hb (fun H hO hS => hsp H a ns hlen hO hS) fun H e s' => nox_cx _ _ _ _ _
end MP
end

/-! text MPR -/
section
set_option Elab.async false
set_option linter.all false
set_option maxRecDepth 100000
set_option maxHeartbeats 4000000
/-! MP, part R: facts off the head, for any program. -/
namespace MP
open PySem L2 PySem.Spec
open PyProof.Rows hiding St

/-- all of a table's rows -/
def AllP {α β : Type} (P : α → β → Prop) : List (α × β) → Prop
  | [] => True
  | (x, y) :: r => P x y ∧ AllP P r
theorem AllP.look {α β : Type} [BEq α] [LawfulBEq α] {P : α → β → Prop} : ∀ {l : List (α × β)} {x : α} {y : β}, AllP P l → l.lookup x = some y → P x y
  | [], _, _, _, e => by simp at e
  | (a, b) :: r, x, y, h, e => by
    rw [List.lookup_cons] at e
    cases q : (x == a) with
    | true =>
      rw [q] at e
      cases e
      rw [beq_iff_eq.mp q]
      exact h.1
    | false =>
      rw [q] at e
      exact AllP.look h.2 e
def AllL {α : Type} (P : α → Prop) : List α → Prop
  | [] => True
  | x :: r => P x ∧ AllL P r
theorem AllL.mem {α : Type} {P : α → Prop} : ∀ {l : List α} {x : α}, AllL P l → x ∈ l → P x
  | [], _, _, e => absurd e List.not_mem_nil
  | a :: r, x, h, e => by
    rcases List.mem_cons.mp e with rfl | e
    · exact h.1
    · exact AllL.mem h.2 e
/-- fields' names by number; beyond the list such as no field has -/
def fnm (l : List Str) (i : Nat) : Str := match l[i]? with
  | some x => x
  | none => ⟨Array.replicate (i + 1) 0⟩
def okF (x : Str) : Bool := match x.cps.toList with
  | 0 :: _ => false
  | [] => false
  | _ => true
theorem okF_ne {x : Str} {i : Nat} (h : okF x = true) : x ≠ ⟨Array.replicate (i + 1) 0⟩ := by
  rintro rfl
  unfold okF at h
  simp [List.replicate_succ] at h
theorem fnm_inj {l : List Str} (hd : l.Nodup) (ho : l.all okF = true) : ∀ i j, fnm l i = fnm l j → i = j := by
  intro i j e
  rw [List.all_eq_true] at ho
  unfold fnm at e
  cases hi : l[i]? with
  | some x =>
    cases hj : l[j]? with
    | some y =>
      rw [hi, hj] at e
      have e : x = y := e
      subst e
      exact nodup_ix hd hi hj
    | none =>
      rw [hi, hj] at e
      exact absurd e (okF_ne (ho x (List.mem_of_getElem? hi)))
  | none =>
    cases hj : l[j]? with
    | some y =>
      rw [hi, hj] at e
      exact absurd e.symm (okF_ne (ho y (List.mem_of_getElem? hj)))
    | none =>
      rw [hi, hj] at e
      have := congrArg (fun s : Str => s.cps.size) e
      simp at this
      exact this
theorem fnm_ne {l : List Str} {m : Str} (h : okF m = true) (hm : m ∉ l) : ∀ i, fnm l i ≠ m := by
  intro i e
  unfold fnm at e
  cases hi : l[i]? with
  | some x => rw [hi] at e; have e : x = m := e; subst e; exact hm (List.mem_of_getElem? hi)
  | none => rw [hi] at e; exact okF_ne h e.symm
theorem fnm_at {l : List Str} {i : Nat} {x : Str} (h : l[i]? = some x) : fnm l i = x := by
  unfold fnm; rw [h]
theorem finj0 : ∀ i j, fnm [] i = fnm [] j → i = j := fnm_inj (by simp) rfl
/-- a def's row -/
def DfP (K : PySem.W.Frag) (g : Gx) (T : Tab) (tab : Nat → Option Fn) (f np : Nat) : Prop := ∃ (fn : Fn) (N : List Str) (x qual : Str) (params : Arguments) (body : List Stmt) (scope : Scope) (dvs : List V) (kws : List (Str × V)) (fd : FuncData), tab f = some fn ∧ fn.np = np ∧ N.length = fn.ns ∧ np ≤ fn.ns ∧
    FunD K x qual params body scope dvs kws (g.fadr f) fd ∧ FnScope N (N.take np) scope ∧ chkSs fn.body ⟨T, N, scope, true⟩ body = true ∧
    (∀ dfl, T.dB f dfl = true → ∃ dvs ds, Binds K fd (N.take np) ds ∧ Vals dvs ds ∧ ∀ ρ Z H, RelDs g.toGv ρ Z H dfl dvs) ∧
    (∀ ks, T.kws.lookup f = some ks → ks.length = np ∧ ∀ (s : Shared) (ws : List Value), K.In s.heap → ws.length = ks.length → BindsTo s fd ⟨[], ks.zip ws⟩ ((N.take np).zip ws))
/-- no default is left -/
theorem dfl0 {K : PySem.W.Frag} {g : Gx} {fd : FuncData} {ps : List Str} (b : Binds K fd ps []) : ∀ dfl : List D, decide (dfl ∈ ([[]] : List (List D))) = true → ∃ dvs ds, Binds K fd ps ds ∧ Vals dvs ds ∧ ∀ ρ Z H, RelDs g.toGv ρ Z H dfl dvs := by
  intro dfl h
  have h := of_decide_eq_true h
  rw [List.mem_singleton] at h
  subst h
  exact ⟨[], [], b, .nil, fun _ _ _ => .nil⟩
theorem kw_none {K : PySem.W.Frag} {fd : FuncData} {ps : List Str} {np : Nat} : ∀ ks : List Str, (none : Option (List Str)) = some ks → ks.length = np ∧ ∀ (s : Shared) (ws : List Value), K.In s.heap → ws.length = ks.length → BindsTo s fd ⟨[], ks.zip ws⟩ (ps.zip ws) := fun _ e => by cases e
theorem kwA {K : PySem.W.Frag} {x qual : Str} {params : Arguments} {body : List Stmt} {scope : Scope} {kws : List (Str × V)} {f : Addr} {fd : FuncData} {ps ks : List Str} {np : Nat} (F : FunD K x qual params body scope [] kws f fd) (hl : ks.length = np)
    (h : ∀ (kV doc pm : Value) (an : Option Addr) (cdv ct : Value) (ws : List Value), ws.length = ks.length → bindArgs (PySem.W.fnOf x qual params body scope .none kV doc pm an cdv ct) ⟨[], ks.zip ws⟩ = pure (ps.zip ws)) :
    ∀ ks' : List Str, some ks = some ks' → ks'.length = np ∧ ∀ (s : Shared) (ws : List Value), K.In s.heap → ws.length = ks'.length → BindsTo s fd ⟨[], ks'.zip ws⟩ (ps.zip ws) := by
  rintro ks' e
  cases e
  obtain ⟨oc, od, dV, kV, doc, pm, an, cdv, ct, osl, rfl, lk, hcd, hD, hK⟩ := F.ex
  rcases hD with ⟨_, rfl⟩ | ⟨e, _⟩
  · exact ⟨hl, fun s ws _ hw => .of_eq (h kV doc pm an cdv ct ws hw)⟩
  · exact absurd rfl e
end MP
end

/-! text K82T -/
section
set_option linter.all false
namespace MP
/-- 1: is_one_of (thing signs) -/
def a_is_one_of : Fn := ⟨2, 2, [.ret (.and (.bi (.isi .str) (.cons (.var 0) .nil)) (.and (.cmp .eq (.bi .len (.cons (.var 0) .nil)) (.con (.int 1))) (.cmp .isin (.var 0) (.var 1))))]⟩
/-- 2: is_made_of (thing signs most sign) -/
def a_is_made_of : Fn := ⟨3, 4, [.ife (.or (.not (.bi (.isi .str) (.cons (.var 0) .nil))) (.cmp .gt (.bi .len (.cons (.var 0) .nil)) (.var 2))) [.ret (.con (.bl false))] [],
    .ret (.bi .all (.cons (.comp .val [3] (.name 3) (.str (.var 0)) .nil (.cmp .isin (.var 3) (.var 1))) .nil))]⟩
/-- 3: is_sign (thing) -/
def a_is_sign : Fn := ⟨1, 1, [.ret (.call 1 (.cons (.var 0) (.cons (.con (.str ['a', 'b', 'c', 'd', 'e', 'f'])) .nil)) [])]⟩
/-- 4: is_worn (thing) -/
def a_is_worn : Fn := ⟨1, 1, [.ret (.call 1 (.cons (.var 0) (.cons (.con (.str ['.', 'a', 'b', 'c', 'd', 'e', 'f'])) .nil)) [])]⟩
/-- 5: is_text (thing) -/
def a_is_text : Fn := ⟨1, 1, [.ret (.call 2 (.cons (.var 0) (.cons (.con (.str ['a', 'b', 'c', 'd', 'e', 'f'])) (.cons (.con (.int 24)) .nil))) [])]⟩
/-- 6: is_row (thing) -/
def a_is_row : Fn := ⟨1, 1, [.ret (.call 2 (.cons (.var 0) (.cons (.con (.str ['.', '?', 'a', 'b', 'c', 'd', 'e', 'f'])) (.cons (.con (.int 24)) .nil))) [])]⟩
/-- 7: is_pair (thing) -/
def a_is_pair : Fn := ⟨1, 1, [.ife (.or (.not (.bi (.isi .tup) (.cons (.var 0) .nil))) (.cmp .ne (.bi .len (.cons (.var 0) .nil)) (.con (.int 2)))) [.ret (.con (.bl false))] [],
    .ret (.and (.call 3 (.cons (.ix (.var 0) (.con (.int 0))) .nil) []) (.and (.call 4 (.cons (.ix (.var 0) (.con (.int 1))) .nil) []) (.cmp .ne (.ix (.var 0) (.con (.int 0))) (.ix (.var 0) (.con (.int 1))))))]⟩
/-- 8: show_wear (wear one other) -/
def a_show_wear : Fn := ⟨1, 3, [.ret (.ite (.var 0) (.bm .join (.con (.str [' '])) (.cons (.comp .val [1, 2] (.tup [1, 2]) (.seq (.var 0)) .nil (.bin .add (.bin .add (.var 1) (.con (.str ['>']))) (.var 2))) .nil)) (.con (.str ['-'])))]⟩
/-- 9: show_book (book ways last rooms doors ends room sign behind) -/
def a_show_book : Fn := ⟨1, 9, [.set (.tup [3, 4, 5]) (.var 0),
    .set (.name 1) (.ite (.var 4) (.bm .join (.con (.str [' ', ';', ' '])) (.cons (.comp .val [6, 7, 8] (.tup [6, 7, 8]) (.seq (.var 4)) .nil (.fstr (.cons (.var 6) (.cons (.con (.str [' '])) (.cons (.var 7) (.cons (.con (.str [' '])) (.cons (.var 8) .nil))))))) .nil)) (.con (.str ['-']))),
    .set (.name 2) (.ite (.var 5) (.bm .join (.con (.str [' '])) (.cons (.comp .val [6] (.name 6) (.seq (.var 5)) .nil (.bi .str (.cons (.var 6) .nil))) .nil)) (.con (.str ['-']))),
    .ret (.fstr (.cons (.var 3) (.cons (.con (.str [' ', 'd', 'o', 'o', 'r', 's', ' '])) (.cons (.var 1) (.cons (.con (.str [' ', 'e', 'n', 'd', 's', ' '])) (.cons (.var 2) .nil))))))]⟩
/-- 10: show_row (row) -/
def a_show_row : Fn := ⟨1, 1, [.ret (.ite (.var 0) (.var 0) (.con (.str ['-'])))]⟩
/-- 11: words_of (text) -/
def a_words_of : Fn := ⟨1, 1, [.ife (.not (.bi (.isi .str) (.cons (.var 0) .nil))) [.nev] [],
    .ret (.bm .split (.var 0) (.cons (.con (.str [' '])) .nil))]⟩
/-- 12: number_of_word (word sign) -/
def a_number_of_word : Fn := ⟨1, 2, [.ife (.or (.not (.chain .le .le (.con (.int 1)) (.bi .len (.cons (.var 0) .nil)) (.con (.int 2)))) (.not (.bi .all (.cons (.comp .val [1] (.name 1) (.str (.var 0)) .nil (.cmp .isin (.var 1) (.con (.str ['0', '1', '2', '3', '4', '5', '6', '7', '8', '9'])))) .nil)))) [.ret (.con .non)] [],
    .ret (.ite (.and (.cmp .eq (.bi .len (.cons (.var 0) .nil)) (.con (.int 2))) (.cmp .eq (.ix (.var 0) (.con (.int 0))) (.con (.str ['0'])))) (.con .non) (.bi .int (.cons (.var 0) .nil)))]⟩
/-- 13: Words.__init__ (self words) -/
def a_Words___init__ : Fn := ⟨2, 2, [.setf (.var 0) 0 (.var 1),
    .setf (.var 0) 1 (.con (.int 0))]⟩
/-- 14: Words.refuse (self) -/
def a_Words_refuse : Fn := ⟨1, 1, [.nev]⟩
/-- 15: Words.next (self) -/
def a_Words_next : Fn := ⟨1, 1, [.ret (.ite (.cmp .lt (.fld (.var 0) 1) (.bi .len (.cons (.fld (.var 0) 0) .nil))) (.ix (.fld (.var 0) 0) (.fld (.var 0) 1)) (.con (.str [])))]⟩
/-- 16: Words.step (self) -/
def a_Words_step : Fn := ⟨1, 1, [.setf (.var 0) 1 (.bin .add (.fld (.var 0) 1) (.con (.int 1)))]⟩
/-- 17: Words.want (self word) -/
def a_Words_want : Fn := ⟨2, 2, [.ife (.cmp .ne (.meth 0 15 (.var 0) .nil []) (.var 1)) [.ex (.meth 0 14 (.var 0) .nil [])] [],
    .ex (.meth 0 16 (.var 0) .nil [])]⟩
/-- 18: Words.number (self low below found) -/
def a_Words_number : Fn := ⟨3, 4, [.set (.name 3) (.call 12 (.cons (.meth 0 15 (.var 0) .nil []) .nil) []),
    .ife (.or (.cmp .isN (.var 3) (.con .non)) (.not (.chain .le .lt (.var 1) (.var 3) (.var 2)))) [.ex (.meth 0 14 (.var 0) .nil [])] [],
    .ex (.meth 0 16 (.var 0) .nil []),
    .ret (.var 3)]⟩
/-- 19: Words.end (self) -/
def a_Words_end : Fn := ⟨1, 1, [.ife (.cmp .lt (.fld (.var 0) 1) (.bi .len (.cons (.fld (.var 0) 0) .nil))) [.ex (.meth 0 14 (.var 0) .nil [])] []]⟩
/-- 20: pair_of (word pair) -/
def a_pair_of : Fn := ⟨1, 2, [.ife (.or (.cmp .ne (.bi .len (.cons (.var 0) .nil)) (.con (.int 3))) (.cmp .ne (.ix (.var 0) (.con (.int 1))) (.con (.str ['>'])))) [.ret (.con .non)] [],
    .set (.name 1) (.tup (.cons (.ix (.var 0) (.con (.int 0))) (.cons (.ix (.var 0) (.con (.int 2))) .nil))),
    .ret (.ite (.call 7 (.cons (.var 1) .nil) []) (.var 1) (.con .non))]⟩
/-- 21: read_wear (text reader found word pair) -/
def a_read_wear : Fn := ⟨1, 5, [.set (.name 1) (.make 0 13 (.cons (.call 11 (.cons (.var 0) .nil) []) .nil) []),
    .set (.name 2) (.lst .loc .nil),
    .ife (.cmp .eq (.meth 0 15 (.var 1) .nil []) (.con (.str ['-']))) [.ex (.meth 0 16 (.var 1) .nil []),
    .ex (.meth 0 19 (.var 1) .nil []),
    .ret (.tup .nil)] [],
    .fr (.name 3) (.seq (.fld (.var 1) 0)) [.set (.name 4) (.call 20 (.cons (.var 3) .nil) []),
    .ife (.or (.cmp .isN (.var 4) (.con .non)) (.or (.cmp .eq (.bi .len (.cons (.var 2) .nil)) (.con (.int 20))) (.and (.var 2) (.cmp .le (.var 4) (.ix (.var 2) (.neg (.con (.int 1)))))))) [.ex (.meth 0 14 (.var 1) .nil [])] [],
    .ex (.meth 0 16 (.var 1) .nil []),
    .ex (.bm .append (.var 2) (.cons (.var 4) .nil))],
    .ret (.bi .tuple (.cons (.var 2) .nil))]⟩
/-- 22: read_door (reader rooms doors room sign is_like) -/
def a_read_door : Fn := ⟨3, 6, [.ife (.cmp .eq (.bi .len (.cons (.var 2) .nil)) (.con (.int 72))) [.ex (.meth 0 14 (.var 0) .nil [])] [],
    .set (.name 3) (.meth 0 18 (.var 0) (.cons (.ite (.var 2) (.ix (.ix (.var 2) (.neg (.con (.int 1)))) (.con (.int 0))) (.con (.int 0))) (.cons (.var 1) .nil)) []),
    .set (.name 4) (.meth 0 15 (.var 0) .nil []),
    .set (.name 5) (.and (.bi .bool (.cons (.var 2) .nil)) (.cmp .eq (.ix (.ix (.var 2) (.neg (.con (.int 1)))) (.con (.int 0))) (.var 3))),
    .ife (.or (.cmp .ne (.bi .len (.cons (.var 4) .nil)) (.con (.int 1))) (.or (.cmp .notin (.var 4) (.con (.str ['a', 'b', 'c', 'd', 'e', 'f']))) (.and (.var 5) (.cmp .le (.var 4) (.ix (.ix (.var 2) (.neg (.con (.int 1)))) (.con (.int 1))))))) [.ex (.meth 0 14 (.var 0) .nil [])] [],
    .ex (.meth 0 16 (.var 0) .nil []),
    .ret (.tup (.cons (.var 3) (.cons (.var 4) (.cons (.meth 0 18 (.var 0) (.cons (.con (.int 0)) (.cons (.var 1) .nil)) []) .nil))))]⟩
/-- 23: read_doors (reader rooms doors) -/
def a_read_doors : Fn := ⟨2, 3, [.ife (.cmp .eq (.meth 0 15 (.var 0) .nil []) (.con (.str ['-']))) [.ex (.meth 0 16 (.var 0) .nil []),
    .ret (.tup .nil)] [],
    .set (.name 2) (.lst .shr (.cons (.call 22 (.cons (.var 0) (.cons (.var 1) (.cons (.lst .val .nil) .nil))) []) .nil)),
    .whl (.cmp .eq (.meth 0 15 (.var 0) .nil []) (.con (.str [';']))) [.ex (.meth 0 16 (.var 0) .nil []),
    .ex (.bm .append (.var 2) (.cons (.call 22 (.cons (.var 0) (.cons (.var 1) (.cons (.var 2) .nil))) []) .nil))],
    .ret (.bi .tuple (.cons (.var 2) .nil))]⟩
/-- 24: read_ends (reader rooms ends) -/
def a_read_ends : Fn := ⟨2, 3, [.ife (.cmp .eq (.meth 0 15 (.var 0) .nil []) (.con (.str ['-']))) [.ex (.meth 0 16 (.var 0) .nil []),
    .ex (.meth 0 19 (.var 0) .nil []),
    .ret (.tup .nil)] [],
    .set (.name 2) (.lst .loc (.cons (.meth 0 18 (.var 0) (.cons (.con (.int 0)) (.cons (.var 1) .nil)) []) .nil)),
    .whl (.cmp .lt (.fld (.var 0) 1) (.bi .len (.cons (.fld (.var 0) 0) .nil))) [.ex (.bm .append (.var 2) (.cons (.meth 0 18 (.var 0) (.cons (.bin .add (.ix (.var 2) (.neg (.con (.int 1)))) (.con (.int 1))) (.cons (.var 1) .nil)) []) .nil))],
    .ret (.bi .tuple (.cons (.var 2) .nil))]⟩
/-- 25: read_book (text reader rooms doors) -/
def a_read_book : Fn := ⟨1, 4, [.set (.name 1) (.make 0 13 (.cons (.call 11 (.cons (.var 0) .nil) []) .nil) []),
    .set (.name 2) (.meth 0 18 (.var 1) (.cons (.con (.int 1)) (.cons (.bin .add (.con (.int 12)) (.con (.int 1))) .nil)) []),
    .ex (.meth 0 17 (.var 1) (.cons (.con (.str ['d', 'o', 'o', 'r', 's'])) .nil) []),
    .set (.name 3) (.call 23 (.cons (.var 1) (.cons (.var 2) .nil)) []),
    .ex (.meth 0 17 (.var 1) (.cons (.con (.str ['e', 'n', 'd', 's'])) .nil) []),
    .ret (.tup (.cons (.var 2) (.cons (.var 3) (.cons (.call 24 (.cons (.var 1) (.cons (.var 2) .nil)) []) .nil))))]⟩
/-- 26: read_one (text is_right reader word) -/
def a_read_one : Fn := ⟨2, 4, [.set (.name 2) (.make 0 13 (.cons (.call 11 (.cons (.var 0) .nil) []) .nil) []),
    .set (.name 3) (.meth 0 15 (.var 2) .nil []),
    .ife (.and (.cmp .ne (.var 3) (.con (.str ['-']))) (.or (.cmp .eq (.var 3) (.con (.str []))) (.not (.callv 1 [5, 6] (.cons (.var 3) .nil))))) [.ex (.meth 0 14 (.var 2) .nil [])] [],
    .ex (.meth 0 16 (.var 2) .nil []),
    .ex (.meth 0 19 (.var 2) .nil []),
    .ret (.ite (.cmp .eq (.var 3) (.con (.str ['-']))) (.con (.str [])) (.var 3))]⟩
/-- 27: read_row (text) -/
def a_read_row : Fn := ⟨1, 1, [.ret (.call 26 (.cons (.var 0) (.cons (.con (.fn 6)) .nil)) [])]⟩
/-- 28: read_text (text) -/
def a_read_text : Fn := ⟨1, 1, [.ret (.call 26 (.cons (.var 0) (.cons (.con (.fn 5)) .nil)) [])]⟩
/-- 29: _law_purse (_law_script _law_k _law_cell) -/
def a_law_purse : Fn := ⟨2, 3, [.set (.name 2) (.con (.int 0)),
    .ife (.cmp .lt (.var 1) (.bi .len (.cons (.var 0) .nil))) [.set (.name 2) (.ix (.var 0) (.var 1))] [],
    .ret (.lst .shr (.cons (.bi .max2 (.cons (.con (.int 0)) (.cons (.bin .sub (.var 2) (.bin .pow (.con (.int 10)) (.con (.int 18)))) .nil))) (.cons (.bin .add (.bin .add (.bin .mod (.bi .int (.cons (.var 2) .nil)) (.bin .add (.bin .pow (.con (.int 10)) (.con (.int 38))) (.con (.int 177)))) (.bin .mul (.con (.int 1009)) (.var 1))) (.con (.int 5))) (.cons (.con (.int 0)) .nil))))]⟩
/-- 30: _law_pull (_law_purse_here _law_many _law_mixed _law_found) -/
def a_law_pull : Fn := ⟨2, 4, [.ife (.cmp .gt (.ix (.var 0) (.con (.int 0))) (.con (.int 0))) [.set (.name 3) (.bin .mod (.bi .int (.cons (.ix (.var 0) (.con (.int 0))) .nil)) (.var 1)),
    .seti (.var 0) (.con (.int 0)) (.bin .fdiv (.ix (.var 0) (.con (.int 0))) (.var 1)),
    .ret (.var 3)] [],
    .seti (.var 0) (.con (.int 2)) (.bin .add (.ix (.var 0) (.con (.int 2))) (.con (.int 1))),
    .set (.name 2) (.bin .mod (.bi .int (.cons (.bin .pow (.bin .add (.ix (.var 0) (.con (.int 1))) (.bin .mul (.con (.int 26535897932384627)) (.ix (.var 0) (.con (.int 2))))) (.con (.int 3))) .nil)) (.bin .add (.bin .pow (.con (.int 10)) (.con (.int 41))) (.con (.int 289)))),
    .set (.name 2) (.bin .mod (.bi .int (.cons (.bin .add (.bin .mul (.var 2) (.var 2)) (.bin .mul (.con (.int 88419716939937511)) (.ix (.var 0) (.con (.int 2))))) .nil)) (.bin .add (.bin .pow (.con (.int 10)) (.con (.int 40))) (.con (.int 31)))),
    .ret (.bin .mod (.bi .int (.cons (.bin .fdiv (.var 2) (.bin .pow (.con (.int 10)) (.con (.int 8)))) .nil)) (.var 1))]⟩
/-- 31: _law_pick (_law_purse_here _law_items) -/
def a_law_pick : Fn := ⟨2, 2, [.ret (.ix (.var 1) (.call 30 (.cons (.var 0) (.cons (.bi .len (.cons (.var 1) .nil)) .nil)) []))]⟩
/-- 32: _law_pairs_text (_law_rub _law_one _law_other) -/
def a_law_pairs_text : Fn := ⟨1, 3, [.ret (.ite (.cmp .eq (.var 0) (.tup .nil)) (.con (.str ['-'])) (.bm .join (.con (.str [' '])) (.cons (.comp .val [1, 2] (.tup [1, 2]) (.seq (.var 0)) .nil (.bin .add (.bin .add (.var 1) (.con (.str ['>']))) (.var 2))) .nil)))]⟩
/-- 33: _law_shelf_text (_law_shelf _law_doors _law_ends _law_inside _law_start _law_mark _law_behind) -/
def a_law_shelf_text : Fn := ⟨1, 7, [.set (.tup [1, 2]) (.tup (.cons (.con (.str ['-'])) (.cons (.con (.str ['-'])) .nil))),
    .ife (.cmp .ne (.ix (.var 0) (.con (.int 1))) (.tup .nil)) [.set (.name 1) (.bm .join (.con (.str [' ', ';', ' '])) (.cons (.comp .val [4, 5, 6] (.tup [4, 5, 6]) (.seq (.ix (.var 0) (.con (.int 1)))) .nil (.bin .add (.bin .add (.bin .add (.bin .add (.bi .str (.cons (.var 4) .nil)) (.con (.str [' ']))) (.var 5)) (.con (.str [' ']))) (.bi .str (.cons (.var 6) .nil)))) .nil))] [],
    .ife (.cmp .ne (.ix (.var 0) (.con (.int 2))) (.tup .nil)) [.set (.name 2) (.bm .join (.con (.str [' '])) (.cons (.comp .val [3] (.name 3) (.seq (.ix (.var 0) (.con (.int 2)))) .nil (.bi .str (.cons (.var 3) .nil))) .nil))] [],
    .ret (.bin .add (.bin .add (.bin .add (.bin .add (.bi .str (.cons (.ix (.var 0) (.con (.int 0))) .nil)) (.con (.str [' ', 'd', 'o', 'o', 'r', 's', ' ']))) (.var 1)) (.con (.str [' ', 'e', 'n', 'd', 's', ' ']))) (.var 2))]⟩
/-- 34: _law_wide_rub (_law_purse_here _law_pool _law_one _law_turn _law_many _law_found _law_other) -/
def a_law_wide_rub : Fn := ⟨1, 7, [.par 4 5 (.ix (.lst .val (.cons (.con (.int 0)) (.cons (.con (.int 1)) (.cons (.con (.int 2)) (.cons (.con (.int 20)) (.cons (.call 30 (.cons (.var 0) (.cons (.con (.int 21)) .nil)) []) .nil)))))) (.call 30 (.cons (.var 0) (.cons (.con (.int 5)) .nil)) [])) (.lst .loc .nil),
    .set (.name 1) (.lst .loc .nil),
    .fr (.name 2) (.str (.con (.str ['a', 'b', 'c', 'd', 'e', 'f']))) [.ex (.bm .extend (.var 1) (.cons (.comp .val [6] (.name 6) (.str (.con (.str ['.', 'a', 'b', 'c', 'd', 'e', 'f']))) (.cons (.cmp .ne (.var 6) (.var 2)) .nil) (.tup (.cons (.var 2) (.cons (.var 6) .nil)))) .nil))],
    .fr (.name 3) (.range1 (.var 4)) [.ex (.bm .append (.var 5) (.cons (.bm .popAt (.var 1) (.cons (.call 30 (.cons (.var 0) (.cons (.bi .len (.cons (.var 1) .nil)) .nil)) []) .nil)) .nil))],
    .ret (.bi .tuple (.cons (.bi (.sorted .val) (.cons (.var 5) .nil)) .nil))]⟩
/-- 35: _law_wide_shelf (_law_purse_here _law_rooms _law_start _law_inside _law_thick _law_doors _law_mark _law_least _law_ends) -/
def a_law_wide_shelf : Fn := ⟨1, 9, [.set (.name 1) (.ix (.lst .val (.cons (.con (.int 1)) (.cons (.con (.int 2)) (.cons (.con (.int 3)) (.cons (.con (.int 12)) (.cons (.con (.int 10)) (.cons (.con (.int 11)) (.cons (.bin .add (.con (.int 1)) (.call 30 (.cons (.var 0) (.cons (.con (.int 12)) .nil)) [])) .nil)))))))) (.call 30 (.cons (.var 0) (.cons (.con (.int 7)) .nil)) [])),
    .par 4 5 (.ix (.lst .val (.cons (.con (.int 0)) (.cons (.con (.int 1)) (.cons (.con (.int 2)) (.cons (.con (.int 5)) (.cons (.con (.int 8)) .nil)))))) (.call 30 (.cons (.var 0) (.cons (.con (.int 5)) .nil)) [])) (.lst .loc .nil),
    .fr (.name 2) (.range1 (.var 1)) [.fr (.name 6) (.str (.con (.str ['a', 'b', 'c', 'd', 'e', 'f']))) [.ife (.cmp .lt (.call 30 (.cons (.var 0) (.cons (.con (.int 8)) .nil)) []) (.var 4)) [.ex (.bm .append (.var 5) (.cons (.tup (.cons (.var 2) (.cons (.var 6) (.cons (.call 30 (.cons (.var 0) (.cons (.var 1) .nil)) []) .nil)))) .nil))] []]],
    .par 7 8 (.ix (.lst .val (.cons (.con (.int 0)) (.cons (.con (.int 1)) (.cons (.con (.int 2)) (.cons (.con (.int 3)) .nil))))) (.call 30 (.cons (.var 0) (.cons (.con (.int 4)) .nil)) [])) (.lst .loc .nil),
    .fr (.name 3) (.range1 (.var 1)) [.ife (.cmp .lt (.call 30 (.cons (.var 0) (.cons (.con (.int 3)) .nil)) []) (.var 7)) [.ex (.bm .append (.var 8) (.cons (.var 3) .nil))] []],
    .ret (.tup (.cons (.var 1) (.cons (.bi .tuple (.cons (.var 5) .nil)) (.cons (.bi .tuple (.cons (.var 8) .nil)) .nil))))]⟩
/-- 36: _law_signs (_law_purse_here _law_pool _law_many _law_turn) -/
def a_law_signs : Fn := ⟨2, 4, [.set (.name 2) (.ix (.lst .val (.cons (.con (.int 0)) (.cons (.con (.int 1)) (.cons (.con (.int 24)) (.cons (.bin .add (.con (.int 2)) (.call 30 (.cons (.var 0) (.cons (.con (.int 22)) .nil)) [])) .nil))))) (.call 30 (.cons (.var 0) (.cons (.con (.int 4)) .nil)) [])),
    .ret (.bm .join (.con (.str [])) (.cons (.comp .val [3] (.name 3) (.range1 (.var 2)) .nil (.call 31 (.cons (.var 0) (.cons (.bi (.list .val) (.cons (.var 1) .nil)) .nil)) [])) .nil))]⟩
/-- 37: _law_right (_law_purse_here _law_kept _law_written _law_rub _law_shelf _law_one _law_told) -/
def a_law_right : Fn := ⟨1, 7, [.par 3 4 (.call 34 (.cons (.var 0) .nil) []) (.call 35 (.cons (.var 0) .nil) []),
    .par 5 6 (.call 36 (.cons (.var 0) (.cons (.con (.str ['.', '?', 'a', 'b', 'c', 'd', 'e', 'f'])) .nil)) []) (.call 36 (.cons (.var 0) (.cons (.con (.str ['a', 'b', 'c', 'd', 'e', 'f'])) .nil)) []),
    .ife (.or (.cmp .ne (.bi .repr (.cons (.call 8 (.cons (.var 3) .nil) []) .nil)) (.bi .repr (.cons (.call 32 (.cons (.var 3) .nil) []) .nil))) (.cmp .ne (.bi .repr (.cons (.call 21 (.cons (.callk 8 .nil (.cons (.var 3) .nil)) .nil) []) .nil)) (.bi .repr (.cons (.var 3) .nil)))) [.ret (.con (.bl false))] [],
    .ife (.cmp .ne (.bi .repr (.cons (.callk 21 .nil (.cons (.call 32 (.cons (.var 3) .nil) []) .nil)) .nil)) (.bi .repr (.cons (.var 3) .nil))) [.ret (.con (.bl false))] [],
    .ife (.or (.cmp .ne (.bi .repr (.cons (.call 9 (.cons (.var 4) .nil) []) .nil)) (.bi .repr (.cons (.call 33 (.cons (.var 4) .nil) []) .nil))) (.cmp .ne (.bi .repr (.cons (.call 25 (.cons (.callk 9 .nil (.cons (.var 4) .nil)) .nil) []) .nil)) (.bi .repr (.cons (.var 4) .nil)))) [.ret (.con (.bl false))] [],
    .ife (.cmp .ne (.bi .repr (.cons (.callk 25 .nil (.cons (.call 33 (.cons (.var 4) .nil) []) .nil)) .nil)) (.bi .repr (.cons (.var 4) .nil))) [.ret (.con (.bl false))] [],
    .fr (.name 1) (.seq (.lst .val (.cons (.var 5) (.cons (.var 6) .nil)))) [.set (.name 2) (.ite (.cmp .ne (.var 1) (.con (.str []))) (.var 1) (.con (.str ['-']))),
    .ife (.or (.cmp .ne (.bi .repr (.cons (.call 10 (.cons (.var 1) .nil) []) .nil)) (.bi .repr (.cons (.var 2) .nil))) (.cmp .ne (.bi .repr (.cons (.call 27 (.cons (.var 2) .nil) []) .nil)) (.bi .repr (.cons (.var 1) .nil)))) [.ret (.con (.bl false))] [],
    .ife (.or (.cmp .ne (.callk 10 .nil (.cons (.var 1) .nil)) (.var 2)) (.cmp .ne (.callk 27 .nil (.cons (.var 2) .nil)) (.var 1))) [.ret (.con (.bl false))] []],
    .set (.name 2) (.ite (.cmp .ne (.var 6) (.con (.str []))) (.var 6) (.con (.str ['-']))),
    .ret (.and (.cmp .eq (.bi .repr (.cons (.call 28 (.cons (.var 2) .nil) []) .nil)) (.bi .repr (.cons (.var 6) .nil))) (.cmp .eq (.callk 28 .nil (.cons (.call 10 (.cons (.var 6) .nil) []) .nil)) (.var 6)))]⟩
/-- 38: law (_law_script _law_k) -/
def a_law : Fn := ⟨1, 2, [.fr (.name 1) (.range1 (.bi .max2 (.cons (.con (.int 1)) (.cons (.bi .min2 (.cons (.con (.int 3)) (.cons (.bi .len (.cons (.var 0) .nil)) .nil))) .nil)))) [.ife (.not (.call 37 (.cons (.call 29 (.cons (.var 0) (.cons (.var 1) .nil)) []) .nil) [])) [.ret (.con (.bl false))] []],
    .ret (.con (.bl true))]⟩
def tab : Nat → Option Fn
  | 1 => some a_is_one_of
  | 2 => some a_is_made_of
  | 3 => some a_is_sign
  | 4 => some a_is_worn
  | 5 => some a_is_text
  | 6 => some a_is_row
  | 7 => some a_is_pair
  | 8 => some a_show_wear
  | 9 => some a_show_book
  | 10 => some a_show_row
  | 11 => some a_words_of
  | 12 => some a_number_of_word
  | 13 => some a_Words___init__
  | 14 => some a_Words_refuse
  | 15 => some a_Words_next
  | 16 => some a_Words_step
  | 17 => some a_Words_want
  | 18 => some a_Words_number
  | 19 => some a_Words_end
  | 20 => some a_pair_of
  | 21 => some a_read_wear
  | 22 => some a_read_door
  | 23 => some a_read_doors
  | 24 => some a_read_ends
  | 25 => some a_read_book
  | 26 => some a_read_one
  | 27 => some a_read_row
  | 28 => some a_read_text
  | 29 => some a_law_purse
  | 30 => some a_law_pull
  | 31 => some a_law_pick
  | 32 => some a_law_pairs_text
  | 33 => some a_law_shelf_text
  | 34 => some a_law_wide_rub
  | 35 => some a_law_wide_shelf
  | 36 => some a_law_signs
  | 37 => some a_law_right
  | 38 => some a_law
  | _ => none
end MP
end

/-! text K82H -/
section
set_option Elab.async false
set_option linter.all false
set_option maxRecDepth 100000
set_option maxHeartbeats 0
namespace MP
open PySem L2 PySem.Spec
open PyProof.Rows hiding St

def top (i : Nat) : Stmt := PySem.Challenge.pw_wornstones_k82_wears_rows_and_books_writ.main.body.getD i (.Pass ⟨0, 0, 0, 0⟩)
def inner (i j : Nat) : Stmt := match top i with
  | .ClassDef (body := b) .. => b.getD j (.Pass ⟨0, 0, 0, 0⟩)
  | _ => .Pass ⟨0, 0, 0, 0⟩
abbrev s_1 : Stmt := top 11
def d_1 : He.DefD := ⟨("is_one_of", none), "is_one_of", "is_one_of", defArgs s_1, defBody s_1, defScope s_1, [], []⟩
abbrev s_2 : Stmt := top 12
def d_2 : He.DefD := ⟨("is_made_of", none), "is_made_of", "is_made_of", defArgs s_2, defBody s_2, defScope s_2, [], []⟩
abbrev s_3 : Stmt := top 13
def d_3 : He.DefD := ⟨("is_sign", none), "is_sign", "is_sign", defArgs s_3, defBody s_3, defScope s_3, [], []⟩
abbrev s_4 : Stmt := top 14
def d_4 : He.DefD := ⟨("is_worn", none), "is_worn", "is_worn", defArgs s_4, defBody s_4, defScope s_4, [], []⟩
abbrev s_5 : Stmt := top 15
def d_5 : He.DefD := ⟨("is_text", none), "is_text", "is_text", defArgs s_5, defBody s_5, defScope s_5, [], []⟩
abbrev s_6 : Stmt := top 16
def d_6 : He.DefD := ⟨("is_row", none), "is_row", "is_row", defArgs s_6, defBody s_6, defScope s_6, [], []⟩
abbrev s_7 : Stmt := top 17
def d_7 : He.DefD := ⟨("is_pair", none), "is_pair", "is_pair", defArgs s_7, defBody s_7, defScope s_7, [], []⟩
abbrev s_8 : Stmt := top 21
def d_8 : He.DefD := ⟨("show_wear", none), "show_wear", "show_wear", defArgs s_8, defBody s_8, defScope s_8, [], []⟩
abbrev s_9 : Stmt := top 22
def d_9 : He.DefD := ⟨("show_book", none), "show_book", "show_book", defArgs s_9, defBody s_9, defScope s_9, [], []⟩
abbrev s_10 : Stmt := top 23
def d_10 : He.DefD := ⟨("show_row", none), "show_row", "show_row", defArgs s_10, defBody s_10, defScope s_10, [], []⟩
abbrev s_11 : Stmt := top 24
def d_11 : He.DefD := ⟨("words_of", none), "words_of", "words_of", defArgs s_11, defBody s_11, defScope s_11, [], []⟩
abbrev s_12 : Stmt := top 25
def d_12 : He.DefD := ⟨("number_of_word", none), "number_of_word", "number_of_word", defArgs s_12, defBody s_12, defScope s_12, [], []⟩
abbrev s_13 : Stmt := inner 26 0
def d_13 : He.DefD := ⟨("Words", some "__init__"), "__init__", "Words.__init__", defArgs s_13, defBody s_13, defScope s_13, [], []⟩
abbrev s_14 : Stmt := inner 26 1
def d_14 : He.DefD := ⟨("Words", some "refuse"), "refuse", "Words.refuse", defArgs s_14, defBody s_14, defScope s_14, [], []⟩
abbrev s_15 : Stmt := inner 26 2
def d_15 : He.DefD := ⟨("Words", some "next"), "next", "Words.next", defArgs s_15, defBody s_15, defScope s_15, [], []⟩
abbrev s_16 : Stmt := inner 26 3
def d_16 : He.DefD := ⟨("Words", some "step"), "step", "Words.step", defArgs s_16, defBody s_16, defScope s_16, [], []⟩
abbrev s_17 : Stmt := inner 26 4
def d_17 : He.DefD := ⟨("Words", some "want"), "want", "Words.want", defArgs s_17, defBody s_17, defScope s_17, [], []⟩
abbrev s_18 : Stmt := inner 26 5
def d_18 : He.DefD := ⟨("Words", some "number"), "number", "Words.number", defArgs s_18, defBody s_18, defScope s_18, [], []⟩
abbrev s_19 : Stmt := inner 26 6
def d_19 : He.DefD := ⟨("Words", some "end"), "end", "Words.end", defArgs s_19, defBody s_19, defScope s_19, [], []⟩
abbrev s_20 : Stmt := top 27
def d_20 : He.DefD := ⟨("pair_of", none), "pair_of", "pair_of", defArgs s_20, defBody s_20, defScope s_20, [], []⟩
abbrev s_21 : Stmt := top 28
def d_21 : He.DefD := ⟨("read_wear", none), "read_wear", "read_wear", defArgs s_21, defBody s_21, defScope s_21, [], []⟩
abbrev s_22 : Stmt := top 29
def d_22 : He.DefD := ⟨("read_door", none), "read_door", "read_door", defArgs s_22, defBody s_22, defScope s_22, [], []⟩
abbrev s_23 : Stmt := top 30
def d_23 : He.DefD := ⟨("read_doors", none), "read_doors", "read_doors", defArgs s_23, defBody s_23, defScope s_23, [], []⟩
abbrev s_24 : Stmt := top 31
def d_24 : He.DefD := ⟨("read_ends", none), "read_ends", "read_ends", defArgs s_24, defBody s_24, defScope s_24, [], []⟩
abbrev s_25 : Stmt := top 32
def d_25 : He.DefD := ⟨("read_book", none), "read_book", "read_book", defArgs s_25, defBody s_25, defScope s_25, [], []⟩
abbrev s_26 : Stmt := top 33
def d_26 : He.DefD := ⟨("read_one", none), "read_one", "read_one", defArgs s_26, defBody s_26, defScope s_26, [], []⟩
abbrev s_27 : Stmt := top 34
def d_27 : He.DefD := ⟨("read_row", none), "read_row", "read_row", defArgs s_27, defBody s_27, defScope s_27, [], []⟩
abbrev s_28 : Stmt := top 35
def d_28 : He.DefD := ⟨("read_text", none), "read_text", "read_text", defArgs s_28, defBody s_28, defScope s_28, [], []⟩
abbrev s_29 : Stmt := top 37
def d_29 : He.DefD := ⟨("_law_purse", none), "_law_purse", "_law_purse", defArgs s_29, defBody s_29, defScope s_29, [], []⟩
abbrev s_30 : Stmt := top 38
def d_30 : He.DefD := ⟨("_law_pull", none), "_law_pull", "_law_pull", defArgs s_30, defBody s_30, defScope s_30, [], []⟩
abbrev s_31 : Stmt := top 39
def d_31 : He.DefD := ⟨("_law_pick", none), "_law_pick", "_law_pick", defArgs s_31, defBody s_31, defScope s_31, [], []⟩
abbrev s_32 : Stmt := top 40
def d_32 : He.DefD := ⟨("_law_pairs_text", none), "_law_pairs_text", "_law_pairs_text", defArgs s_32, defBody s_32, defScope s_32, [], []⟩
abbrev s_33 : Stmt := top 41
def d_33 : He.DefD := ⟨("_law_shelf_text", none), "_law_shelf_text", "_law_shelf_text", defArgs s_33, defBody s_33, defScope s_33, [], []⟩
abbrev s_34 : Stmt := top 42
def d_34 : He.DefD := ⟨("_law_wide_rub", none), "_law_wide_rub", "_law_wide_rub", defArgs s_34, defBody s_34, defScope s_34, [], []⟩
abbrev s_35 : Stmt := top 43
def d_35 : He.DefD := ⟨("_law_wide_shelf", none), "_law_wide_shelf", "_law_wide_shelf", defArgs s_35, defBody s_35, defScope s_35, [], []⟩
abbrev s_36 : Stmt := top 44
def d_36 : He.DefD := ⟨("_law_signs", none), "_law_signs", "_law_signs", defArgs s_36, defBody s_36, defScope s_36, [], []⟩
abbrev s_37 : Stmt := top 45
def d_37 : He.DefD := ⟨("_law_right", none), "_law_right", "_law_right", defArgs s_37, defBody s_37, defScope s_37, [], []⟩
abbrev s_38 : Stmt := top 46
def d_38 : He.DefD := ⟨("law", none), "law", "law", defArgs s_38, defBody s_38, defScope s_38, [], []⟩
def fnL : List He.DefD := [d_1, d_2, d_3, d_4, d_5, d_6, d_7, d_8, d_9, d_10, d_11, d_12, d_13, d_14, d_15, d_16, d_17, d_18, d_19, d_20, d_21, d_22, d_23, d_24, d_25, d_26, d_27, d_28, d_29, d_30, d_31, d_32, d_33, d_34, d_35, d_36, d_37, d_38]
def faL : List He.Fa := [.glo "is_one_of", .glo "is_made_of", .glo "is_sign", .glo "is_worn", .glo "is_text", .glo "is_row", .glo "is_pair", .glo "show_wear", .glo "show_book", .glo "show_row", .glo "words_of", .glo "number_of_word", .glo "pair_of", .glo "read_wear", .glo "read_door", .glo "read_doors", .glo "read_ends", .glo "read_book", .glo "read_one", .glo "read_row", .glo "read_text", .glo "_law_purse", .glo "_law_pull", .glo "_law_pick", .glo "_law_pairs_text", .glo "_law_shelf_text", .glo "_law_wide_rub", .glo "_law_wide_shelf", .glo "_law_signs", .glo "_law_right", .glo "law", .glo "Words", .cls "Words", .mkr "Words", .noat "Words" "words", .noat "Words" "place", .meth "Words" "refuse", .meth "Words" "next", .meth "Words" "step", .meth "Words" "want", .meth "Words" "number", .meth "Words" "end", .free "isinstance", .free "str", .free "len", .free "all", .free "sorted", .free "max", .free "min", .free "int", .free "bool", .free "tuple", .free "list", .free "repr", .free "range", .str "SIGNS" "abcdef", .str "WORN" ".abcdef", .str "SEEN" ".?abcdef", .int "MOST_SIGNS" 24, .int "MOST_PAIRS" 20, .int "MOST_ROOMS" 12, .int "MOST_DOORS" 72, .str "DIGITS" "0123456789", .str "NOTHING" "-"]
def T : Tab := {
  fns := [("is_one_of", 1), ("is_made_of", 2), ("is_sign", 3), ("is_worn", 4), ("is_text", 5), ("is_row", 6), ("is_pair", 7), ("show_wear", 8), ("show_book", 9), ("show_row", 10), ("words_of", 11), ("number_of_word", 12), ("pair_of", 20), ("read_wear", 21), ("read_door", 22), ("read_doors", 23), ("read_ends", 24), ("read_book", 25), ("read_one", 26), ("read_row", 27), ("read_text", 28), ("_law_purse", 29), ("_law_pull", 30), ("_law_pick", 31), ("_law_pairs_text", 32), ("_law_shelf_text", 33), ("_law_wide_rub", 34), ("_law_wide_shelf", 35), ("_law_signs", 36), ("_law_right", 37), ("law", 38)]
  nps := [(1, 2), (2, 3), (3, 1), (4, 1), (5, 1), (6, 1), (7, 1), (8, 1), (9, 1), (10, 1), (11, 1), (12, 1), (13, 2), (14, 1), (15, 1), (16, 1), (17, 2), (18, 3), (19, 1), (20, 1), (21, 1), (22, 3), (23, 2), (24, 2), (25, 1), (26, 2), (27, 1), (28, 1), (29, 2), (30, 2), (31, 2), (32, 1), (33, 1), (34, 1), (35, 1), (36, 2), (37, 1), (38, 1)]
  dfl := [(1, [[]]), (2, [[]]), (3, [[]]), (4, [[]]), (5, [[]]), (6, [[]]), (7, [[]]), (8, [[]]), (9, [[]]), (10, [[]]), (11, [[]]), (12, [[]]), (13, [[]]), (14, [[]]), (15, [[]]), (16, [[]]), (17, [[]]), (18, [[]]), (19, [[]]), (20, [[]]), (21, [[]]), (22, [[]]), (23, [[]]), (24, [[]]), (25, [[]]), (26, [[]]), (27, [[]]), (28, [[]]), (29, [[]]), (30, [[]]), (31, [[]]), (32, [[]]), (33, [[]]), (34, [[]]), (35, [[]]), (36, [[]]), (37, [[]]), (38, [[]])]
  kws := [(8, ["wear"]), (9, ["book"]), (10, ["row"]), (21, ["text"]), (25, ["text"]), (27, ["text"]), (28, ["text"])]
  con := [("SIGNS", (.str ['a', 'b', 'c', 'd', 'e', 'f'])), ("WORN", (.str ['.', 'a', 'b', 'c', 'd', 'e', 'f'])), ("SEEN", (.str ['.', '?', 'a', 'b', 'c', 'd', 'e', 'f'])), ("MOST_SIGNS", (.int 24)), ("MOST_PAIRS", (.int 20)), ("MOST_ROOMS", (.int 12)), ("MOST_DOORS", (.int 72)), ("DIGITS", (.str ['0', '1', '2', '3', '4', '5', '6', '7', '8', '9'])), ("NOTHING", (.str ['-']))]
  blt := ["isinstance", "str", "len", "all", "sorted", "max", "min", "int", "bool", "tuple", "list", "repr", "range"]
  cls := [("Words", 0)]
  ini := [(0, 13)]
  mth := [((0, "refuse"), 14), ((0, "next"), 15), ((0, "step"), 16), ((0, "want"), 17), ((0, "number"), 18), ((0, "end"), 19)]
  fld := ["words", "place"] }
def clsN : Nat → Str
  | 0 => "Words"
  | _ => "Words"
def defAt : Nat → Str × Option Str
  | 1 => d_1.at_
  | 2 => d_2.at_
  | 3 => d_3.at_
  | 4 => d_4.at_
  | 5 => d_5.at_
  | 6 => d_6.at_
  | 7 => d_7.at_
  | 8 => d_8.at_
  | 9 => d_9.at_
  | 10 => d_10.at_
  | 11 => d_11.at_
  | 12 => d_12.at_
  | 13 => d_13.at_
  | 14 => d_14.at_
  | 15 => d_15.at_
  | 16 => d_16.at_
  | 17 => d_17.at_
  | 18 => d_18.at_
  | 19 => d_19.at_
  | 20 => d_20.at_
  | 21 => d_21.at_
  | 22 => d_22.at_
  | 23 => d_23.at_
  | 24 => d_24.at_
  | 25 => d_25.at_
  | 26 => d_26.at_
  | 27 => d_27.at_
  | 28 => d_28.at_
  | 29 => d_29.at_
  | 30 => d_30.at_
  | 31 => d_31.at_
  | 32 => d_32.at_
  | 33 => d_33.at_
  | 34 => d_34.at_
  | 35 => d_35.at_
  | 36 => d_36.at_
  | 37 => d_37.at_
  | 38 => d_38.at_
  | _ => (Str.empty, none)
def gx (K : PySem.W.Frag) : Gx := { K := K, cadr := fun c => He.ga K (clsN c), fname := fnm T.fld, fadr := fun f => He.fAd K (defAt f), finj := fnm_inj (by decide +kernel) (by decide +kernel), xa := fun _ => 0, fx := Str.empty }
theorem sc_1 : FnScope ["thing", "signs"] ["thing", "signs"] (defScope s_1) := ⟨by kernel_rfl, by kernel_rfl, by kernel_rfl, by decide +kernel, rfl, by decide +kernel, by decide +kernel⟩
theorem chk_1 : chkSs a_is_one_of.body ⟨T, ["thing", "signs"], defScope s_1, true⟩ (defBody s_1) = true := by kernel_rfl
theorem sc_2 : FnScope ["thing", "signs", "most", "sign"] ["thing", "signs", "most"] (defScope s_2) := ⟨by kernel_rfl, by kernel_rfl, by kernel_rfl, by decide +kernel, rfl, by decide +kernel, by decide +kernel⟩
theorem chk_2 : chkSs a_is_made_of.body ⟨T, ["thing", "signs", "most", "sign"], defScope s_2, true⟩ (defBody s_2) = true := by kernel_rfl
theorem sc_3 : FnScope ["thing"] ["thing"] (defScope s_3) := ⟨by kernel_rfl, by kernel_rfl, by kernel_rfl, by decide +kernel, rfl, by decide +kernel, by decide +kernel⟩
theorem chk_3 : chkSs a_is_sign.body ⟨T, ["thing"], defScope s_3, true⟩ (defBody s_3) = true := by kernel_rfl
theorem sc_4 : FnScope ["thing"] ["thing"] (defScope s_4) := ⟨by kernel_rfl, by kernel_rfl, by kernel_rfl, by decide +kernel, rfl, by decide +kernel, by decide +kernel⟩
theorem chk_4 : chkSs a_is_worn.body ⟨T, ["thing"], defScope s_4, true⟩ (defBody s_4) = true := by kernel_rfl
theorem sc_5 : FnScope ["thing"] ["thing"] (defScope s_5) := ⟨by kernel_rfl, by kernel_rfl, by kernel_rfl, by decide +kernel, rfl, by decide +kernel, by decide +kernel⟩
theorem chk_5 : chkSs a_is_text.body ⟨T, ["thing"], defScope s_5, true⟩ (defBody s_5) = true := by kernel_rfl
theorem sc_6 : FnScope ["thing"] ["thing"] (defScope s_6) := ⟨by kernel_rfl, by kernel_rfl, by kernel_rfl, by decide +kernel, rfl, by decide +kernel, by decide +kernel⟩
theorem chk_6 : chkSs a_is_row.body ⟨T, ["thing"], defScope s_6, true⟩ (defBody s_6) = true := by kernel_rfl
theorem sc_7 : FnScope ["thing"] ["thing"] (defScope s_7) := ⟨by kernel_rfl, by kernel_rfl, by kernel_rfl, by decide +kernel, rfl, by decide +kernel, by decide +kernel⟩
theorem chk_7 : chkSs a_is_pair.body ⟨T, ["thing"], defScope s_7, true⟩ (defBody s_7) = true := by kernel_rfl
theorem sc_8 : FnScope ["wear", "one", "other"] ["wear"] (defScope s_8) := ⟨by kernel_rfl, by kernel_rfl, by kernel_rfl, by decide +kernel, rfl, by decide +kernel, by decide +kernel⟩
theorem chk_8 : chkSs a_show_wear.body ⟨T, ["wear", "one", "other"], defScope s_8, true⟩ (defBody s_8) = true := by kernel_rfl
theorem sc_9 : FnScope ["book", "ways", "last", "rooms", "doors", "ends", "room", "sign", "behind"] ["book"] (defScope s_9) := ⟨by kernel_rfl, by kernel_rfl, by kernel_rfl, by decide +kernel, rfl, by decide +kernel, by decide +kernel⟩
theorem chk_9 : chkSs a_show_book.body ⟨T, ["book", "ways", "last", "rooms", "doors", "ends", "room", "sign", "behind"], defScope s_9, true⟩ (defBody s_9) = true := by kernel_rfl
theorem sc_10 : FnScope ["row"] ["row"] (defScope s_10) := ⟨by kernel_rfl, by kernel_rfl, by kernel_rfl, by decide +kernel, rfl, by decide +kernel, by decide +kernel⟩
theorem chk_10 : chkSs a_show_row.body ⟨T, ["row"], defScope s_10, true⟩ (defBody s_10) = true := by kernel_rfl
theorem sc_11 : FnScope ["text"] ["text"] (defScope s_11) := ⟨by kernel_rfl, by kernel_rfl, by kernel_rfl, by decide +kernel, rfl, by decide +kernel, by decide +kernel⟩
theorem chk_11 : chkSs a_words_of.body ⟨T, ["text"], defScope s_11, true⟩ (defBody s_11) = true := by kernel_rfl
theorem sc_12 : FnScope ["word", "sign"] ["word"] (defScope s_12) := ⟨by kernel_rfl, by kernel_rfl, by kernel_rfl, by decide +kernel, rfl, by decide +kernel, by decide +kernel⟩
theorem chk_12 : chkSs a_number_of_word.body ⟨T, ["word", "sign"], defScope s_12, true⟩ (defBody s_12) = true := by kernel_rfl
theorem sc_13 : FnScope ["self", "words"] ["self", "words"] (defScope s_13) := ⟨by kernel_rfl, by kernel_rfl, by kernel_rfl, by decide +kernel, rfl, by decide +kernel, by decide +kernel⟩
theorem chk_13 : chkSs a_Words___init__.body ⟨T, ["self", "words"], defScope s_13, true⟩ (defBody s_13) = true := by kernel_rfl
theorem sc_14 : FnScope ["self"] ["self"] (defScope s_14) := ⟨by kernel_rfl, by kernel_rfl, by kernel_rfl, by decide +kernel, rfl, by decide +kernel, by decide +kernel⟩
theorem chk_14 : chkSs a_Words_refuse.body ⟨T, ["self"], defScope s_14, true⟩ (defBody s_14) = true := by kernel_rfl
theorem sc_15 : FnScope ["self"] ["self"] (defScope s_15) := ⟨by kernel_rfl, by kernel_rfl, by kernel_rfl, by decide +kernel, rfl, by decide +kernel, by decide +kernel⟩
theorem chk_15 : chkSs a_Words_next.body ⟨T, ["self"], defScope s_15, true⟩ (defBody s_15) = true := by kernel_rfl
theorem sc_16 : FnScope ["self"] ["self"] (defScope s_16) := ⟨by kernel_rfl, by kernel_rfl, by kernel_rfl, by decide +kernel, rfl, by decide +kernel, by decide +kernel⟩
theorem chk_16 : chkSs a_Words_step.body ⟨T, ["self"], defScope s_16, true⟩ (defBody s_16) = true := by kernel_rfl
theorem sc_17 : FnScope ["self", "word"] ["self", "word"] (defScope s_17) := ⟨by kernel_rfl, by kernel_rfl, by kernel_rfl, by decide +kernel, rfl, by decide +kernel, by decide +kernel⟩
theorem chk_17 : chkSs a_Words_want.body ⟨T, ["self", "word"], defScope s_17, true⟩ (defBody s_17) = true := by kernel_rfl
theorem sc_18 : FnScope ["self", "low", "below", "found"] ["self", "low", "below"] (defScope s_18) := ⟨by kernel_rfl, by kernel_rfl, by kernel_rfl, by decide +kernel, rfl, by decide +kernel, by decide +kernel⟩
theorem chk_18 : chkSs a_Words_number.body ⟨T, ["self", "low", "below", "found"], defScope s_18, true⟩ (defBody s_18) = true := by kernel_rfl
theorem sc_19 : FnScope ["self"] ["self"] (defScope s_19) := ⟨by kernel_rfl, by kernel_rfl, by kernel_rfl, by decide +kernel, rfl, by decide +kernel, by decide +kernel⟩
theorem chk_19 : chkSs a_Words_end.body ⟨T, ["self"], defScope s_19, true⟩ (defBody s_19) = true := by kernel_rfl
theorem sc_20 : FnScope ["word", "pair"] ["word"] (defScope s_20) := ⟨by kernel_rfl, by kernel_rfl, by kernel_rfl, by decide +kernel, rfl, by decide +kernel, by decide +kernel⟩
theorem chk_20 : chkSs a_pair_of.body ⟨T, ["word", "pair"], defScope s_20, true⟩ (defBody s_20) = true := by kernel_rfl
theorem sc_21 : FnScope ["text", "reader", "found", "word", "pair"] ["text"] (defScope s_21) := ⟨by kernel_rfl, by kernel_rfl, by kernel_rfl, by decide +kernel, rfl, by decide +kernel, by decide +kernel⟩
theorem chk_21 : chkSs a_read_wear.body ⟨T, ["text", "reader", "found", "word", "pair"], defScope s_21, true⟩ (defBody s_21) = true := by kernel_rfl
theorem sc_22 : FnScope ["reader", "rooms", "doors", "room", "sign", "is_like"] ["reader", "rooms", "doors"] (defScope s_22) := ⟨by kernel_rfl, by kernel_rfl, by kernel_rfl, by decide +kernel, rfl, by decide +kernel, by decide +kernel⟩
theorem chk_22 : chkSs a_read_door.body ⟨T, ["reader", "rooms", "doors", "room", "sign", "is_like"], defScope s_22, true⟩ (defBody s_22) = true := by kernel_rfl
theorem sc_23 : FnScope ["reader", "rooms", "doors"] ["reader", "rooms"] (defScope s_23) := ⟨by kernel_rfl, by kernel_rfl, by kernel_rfl, by decide +kernel, rfl, by decide +kernel, by decide +kernel⟩
theorem chk_23 : chkSs a_read_doors.body ⟨T, ["reader", "rooms", "doors"], defScope s_23, true⟩ (defBody s_23) = true := by kernel_rfl
theorem sc_24 : FnScope ["reader", "rooms", "ends"] ["reader", "rooms"] (defScope s_24) := ⟨by kernel_rfl, by kernel_rfl, by kernel_rfl, by decide +kernel, rfl, by decide +kernel, by decide +kernel⟩
theorem chk_24 : chkSs a_read_ends.body ⟨T, ["reader", "rooms", "ends"], defScope s_24, true⟩ (defBody s_24) = true := by kernel_rfl
theorem sc_25 : FnScope ["text", "reader", "rooms", "doors"] ["text"] (defScope s_25) := ⟨by kernel_rfl, by kernel_rfl, by kernel_rfl, by decide +kernel, rfl, by decide +kernel, by decide +kernel⟩
theorem chk_25 : chkSs a_read_book.body ⟨T, ["text", "reader", "rooms", "doors"], defScope s_25, true⟩ (defBody s_25) = true := by kernel_rfl
theorem sc_26 : FnScope ["text", "is_right", "reader", "word"] ["text", "is_right"] (defScope s_26) := ⟨by kernel_rfl, by kernel_rfl, by kernel_rfl, by decide +kernel, rfl, by decide +kernel, by decide +kernel⟩
theorem chk_26 : chkSs a_read_one.body ⟨T, ["text", "is_right", "reader", "word"], defScope s_26, true⟩ (defBody s_26) = true := by kernel_rfl
theorem sc_27 : FnScope ["text"] ["text"] (defScope s_27) := ⟨by kernel_rfl, by kernel_rfl, by kernel_rfl, by decide +kernel, rfl, by decide +kernel, by decide +kernel⟩
theorem chk_27 : chkSs a_read_row.body ⟨T, ["text"], defScope s_27, true⟩ (defBody s_27) = true := by kernel_rfl
theorem sc_28 : FnScope ["text"] ["text"] (defScope s_28) := ⟨by kernel_rfl, by kernel_rfl, by kernel_rfl, by decide +kernel, rfl, by decide +kernel, by decide +kernel⟩
theorem chk_28 : chkSs a_read_text.body ⟨T, ["text"], defScope s_28, true⟩ (defBody s_28) = true := by kernel_rfl
theorem sc_29 : FnScope ["_law_script", "_law_k", "_law_cell"] ["_law_script", "_law_k"] (defScope s_29) := ⟨by kernel_rfl, by kernel_rfl, by kernel_rfl, by decide +kernel, rfl, by decide +kernel, by decide +kernel⟩
theorem chk_29 : chkSs a_law_purse.body ⟨T, ["_law_script", "_law_k", "_law_cell"], defScope s_29, true⟩ (defBody s_29) = true := by kernel_rfl
theorem sc_30 : FnScope ["_law_purse_here", "_law_many", "_law_mixed", "_law_found"] ["_law_purse_here", "_law_many"] (defScope s_30) := ⟨by kernel_rfl, by kernel_rfl, by kernel_rfl, by decide +kernel, rfl, by decide +kernel, by decide +kernel⟩
theorem chk_30 : chkSs a_law_pull.body ⟨T, ["_law_purse_here", "_law_many", "_law_mixed", "_law_found"], defScope s_30, true⟩ (defBody s_30) = true := by kernel_rfl
theorem sc_31 : FnScope ["_law_purse_here", "_law_items"] ["_law_purse_here", "_law_items"] (defScope s_31) := ⟨by kernel_rfl, by kernel_rfl, by kernel_rfl, by decide +kernel, rfl, by decide +kernel, by decide +kernel⟩
theorem chk_31 : chkSs a_law_pick.body ⟨T, ["_law_purse_here", "_law_items"], defScope s_31, true⟩ (defBody s_31) = true := by kernel_rfl
theorem sc_32 : FnScope ["_law_rub", "_law_one", "_law_other"] ["_law_rub"] (defScope s_32) := ⟨by kernel_rfl, by kernel_rfl, by kernel_rfl, by decide +kernel, rfl, by decide +kernel, by decide +kernel⟩
theorem chk_32 : chkSs a_law_pairs_text.body ⟨T, ["_law_rub", "_law_one", "_law_other"], defScope s_32, true⟩ (defBody s_32) = true := by kernel_rfl
theorem sc_33 : FnScope ["_law_shelf", "_law_doors", "_law_ends", "_law_inside", "_law_start", "_law_mark", "_law_behind"] ["_law_shelf"] (defScope s_33) := ⟨by kernel_rfl, by kernel_rfl, by kernel_rfl, by decide +kernel, rfl, by decide +kernel, by decide +kernel⟩
theorem chk_33 : chkSs a_law_shelf_text.body ⟨T, ["_law_shelf", "_law_doors", "_law_ends", "_law_inside", "_law_start", "_law_mark", "_law_behind"], defScope s_33, true⟩ (defBody s_33) = true := by kernel_rfl
theorem sc_34 : FnScope ["_law_purse_here", "_law_pool", "_law_one", "_law_turn", "_law_many", "_law_found", "_law_other"] ["_law_purse_here"] (defScope s_34) := ⟨by kernel_rfl, by kernel_rfl, by kernel_rfl, by decide +kernel, rfl, by decide +kernel, by decide +kernel⟩
theorem chk_34 : chkSs a_law_wide_rub.body ⟨T, ["_law_purse_here", "_law_pool", "_law_one", "_law_turn", "_law_many", "_law_found", "_law_other"], defScope s_34, true⟩ (defBody s_34) = true := by kernel_rfl
theorem sc_35 : FnScope ["_law_purse_here", "_law_rooms", "_law_start", "_law_inside", "_law_thick", "_law_doors", "_law_mark", "_law_least", "_law_ends"] ["_law_purse_here"] (defScope s_35) := ⟨by kernel_rfl, by kernel_rfl, by kernel_rfl, by decide +kernel, rfl, by decide +kernel, by decide +kernel⟩
theorem chk_35 : chkSs a_law_wide_shelf.body ⟨T, ["_law_purse_here", "_law_rooms", "_law_start", "_law_inside", "_law_thick", "_law_doors", "_law_mark", "_law_least", "_law_ends"], defScope s_35, true⟩ (defBody s_35) = true := by kernel_rfl
theorem sc_36 : FnScope ["_law_purse_here", "_law_pool", "_law_many", "_law_turn"] ["_law_purse_here", "_law_pool"] (defScope s_36) := ⟨by kernel_rfl, by kernel_rfl, by kernel_rfl, by decide +kernel, rfl, by decide +kernel, by decide +kernel⟩
theorem chk_36 : chkSs a_law_signs.body ⟨T, ["_law_purse_here", "_law_pool", "_law_many", "_law_turn"], defScope s_36, true⟩ (defBody s_36) = true := by kernel_rfl
theorem sc_37 : FnScope ["_law_purse_here", "_law_kept", "_law_written", "_law_rub", "_law_shelf", "_law_one", "_law_told"] ["_law_purse_here"] (defScope s_37) := ⟨by kernel_rfl, by kernel_rfl, by kernel_rfl, by decide +kernel, rfl, by decide +kernel, by decide +kernel⟩
theorem chk_37 : chkSs a_law_right.body ⟨T, ["_law_purse_here", "_law_kept", "_law_written", "_law_rub", "_law_shelf", "_law_one", "_law_told"], defScope s_37, true⟩ (defBody s_37) = true := by kernel_rfl
theorem sc_38 : FnScope ["_law_script", "_law_k"] ["_law_script"] (defScope s_38) := ⟨by kernel_rfl, by kernel_rfl, by kernel_rfl, by decide +kernel, rfl, by decide +kernel, by decide +kernel⟩
theorem chk_38 : chkSs a_law.body ⟨T, ["_law_script", "_law_k"], defScope s_38, true⟩ (defBody s_38) = true := by kernel_rfl
section
variable {K : PySem.W.Frag}
theorem df_1 (c : He.SaysD faL fnL K) : DfP K (gx K) T tab 1 2 := by
  obtain ⟨fd, F⟩ := c.def_ 0 (d := d_1) rfl
  have b : Binds K fd ["thing", "signs"] [] := FunD.bindsN (ps := ["thing", "signs"]) F fun _ _ _ _ _ _ us hl => match us, hl with | [_, _], _ => rfl
  exact ⟨a_is_one_of, ["thing", "signs"], _, _, _, _, _, _, _, fd, rfl, rfl, rfl, by decide, F, sc_1, chk_1, dfl0 b, kw_none⟩
theorem df_2 (c : He.SaysD faL fnL K) : DfP K (gx K) T tab 2 3 := by
  obtain ⟨fd, F⟩ := c.def_ 1 (d := d_2) rfl
  have b : Binds K fd ["thing", "signs", "most"] [] := FunD.bindsN (ps := ["thing", "signs", "most"]) F fun _ _ _ _ _ _ us hl => match us, hl with | [_, _, _], _ => rfl
  exact ⟨a_is_made_of, ["thing", "signs", "most", "sign"], _, _, _, _, _, _, _, fd, rfl, rfl, rfl, by decide, F, sc_2, chk_2, dfl0 b, kw_none⟩
theorem df_3 (c : He.SaysD faL fnL K) : DfP K (gx K) T tab 3 1 := by
  obtain ⟨fd, F⟩ := c.def_ 2 (d := d_3) rfl
  have b : Binds K fd ["thing"] [] := FunD.bindsN (ps := ["thing"]) F fun _ _ _ _ _ _ us hl => match us, hl with | [_], _ => rfl
  exact ⟨a_is_sign, ["thing"], _, _, _, _, _, _, _, fd, rfl, rfl, rfl, by decide, F, sc_3, chk_3, dfl0 b, kw_none⟩
theorem df_4 (c : He.SaysD faL fnL K) : DfP K (gx K) T tab 4 1 := by
  obtain ⟨fd, F⟩ := c.def_ 3 (d := d_4) rfl
  have b : Binds K fd ["thing"] [] := FunD.bindsN (ps := ["thing"]) F fun _ _ _ _ _ _ us hl => match us, hl with | [_], _ => rfl
  exact ⟨a_is_worn, ["thing"], _, _, _, _, _, _, _, fd, rfl, rfl, rfl, by decide, F, sc_4, chk_4, dfl0 b, kw_none⟩
theorem df_5 (c : He.SaysD faL fnL K) : DfP K (gx K) T tab 5 1 := by
  obtain ⟨fd, F⟩ := c.def_ 4 (d := d_5) rfl
  have b : Binds K fd ["thing"] [] := FunD.bindsN (ps := ["thing"]) F fun _ _ _ _ _ _ us hl => match us, hl with | [_], _ => rfl
  exact ⟨a_is_text, ["thing"], _, _, _, _, _, _, _, fd, rfl, rfl, rfl, by decide, F, sc_5, chk_5, dfl0 b, kw_none⟩
theorem df_6 (c : He.SaysD faL fnL K) : DfP K (gx K) T tab 6 1 := by
  obtain ⟨fd, F⟩ := c.def_ 5 (d := d_6) rfl
  have b : Binds K fd ["thing"] [] := FunD.bindsN (ps := ["thing"]) F fun _ _ _ _ _ _ us hl => match us, hl with | [_], _ => rfl
  exact ⟨a_is_row, ["thing"], _, _, _, _, _, _, _, fd, rfl, rfl, rfl, by decide, F, sc_6, chk_6, dfl0 b, kw_none⟩
theorem df_7 (c : He.SaysD faL fnL K) : DfP K (gx K) T tab 7 1 := by
  obtain ⟨fd, F⟩ := c.def_ 6 (d := d_7) rfl
  have b : Binds K fd ["thing"] [] := FunD.bindsN (ps := ["thing"]) F fun _ _ _ _ _ _ us hl => match us, hl with | [_], _ => rfl
  exact ⟨a_is_pair, ["thing"], _, _, _, _, _, _, _, fd, rfl, rfl, rfl, by decide, F, sc_7, chk_7, dfl0 b, kw_none⟩
theorem df_8 (c : He.SaysD faL fnL K) : DfP K (gx K) T tab 8 1 := by
  obtain ⟨fd, F⟩ := c.def_ 7 (d := d_8) rfl
  have b : Binds K fd ["wear"] [] := FunD.bindsN (ps := ["wear"]) F fun _ _ _ _ _ _ us hl => match us, hl with | [_], _ => rfl
  exact ⟨a_show_wear, ["wear", "one", "other"], _, _, _, _, _, _, _, fd, rfl, rfl, rfl, by decide, F, sc_8, chk_8, dfl0 b, kwA (ks := ["wear"]) (ps := ["wear"]) F rfl fun _ _ _ _ _ _ us hl => match us, hl with | [_], _ => rfl⟩
theorem df_9 (c : He.SaysD faL fnL K) : DfP K (gx K) T tab 9 1 := by
  obtain ⟨fd, F⟩ := c.def_ 8 (d := d_9) rfl
  have b : Binds K fd ["book"] [] := FunD.bindsN (ps := ["book"]) F fun _ _ _ _ _ _ us hl => match us, hl with | [_], _ => rfl
  exact ⟨a_show_book, ["book", "ways", "last", "rooms", "doors", "ends", "room", "sign", "behind"], _, _, _, _, _, _, _, fd, rfl, rfl, rfl, by decide, F, sc_9, chk_9, dfl0 b, kwA (ks := ["book"]) (ps := ["book"]) F rfl fun _ _ _ _ _ _ us hl => match us, hl with | [_], _ => rfl⟩
theorem df_10 (c : He.SaysD faL fnL K) : DfP K (gx K) T tab 10 1 := by
  obtain ⟨fd, F⟩ := c.def_ 9 (d := d_10) rfl
  have b : Binds K fd ["row"] [] := FunD.bindsN (ps := ["row"]) F fun _ _ _ _ _ _ us hl => match us, hl with | [_], _ => rfl
  exact ⟨a_show_row, ["row"], _, _, _, _, _, _, _, fd, rfl, rfl, rfl, by decide, F, sc_10, chk_10, dfl0 b, kwA (ks := ["row"]) (ps := ["row"]) F rfl fun _ _ _ _ _ _ us hl => match us, hl with | [_], _ => rfl⟩
theorem df_11 (c : He.SaysD faL fnL K) : DfP K (gx K) T tab 11 1 := by
  obtain ⟨fd, F⟩ := c.def_ 10 (d := d_11) rfl
  have b : Binds K fd ["text"] [] := FunD.bindsN (ps := ["text"]) F fun _ _ _ _ _ _ us hl => match us, hl with | [_], _ => rfl
  exact ⟨a_words_of, ["text"], _, _, _, _, _, _, _, fd, rfl, rfl, rfl, by decide, F, sc_11, chk_11, dfl0 b, kw_none⟩
theorem df_12 (c : He.SaysD faL fnL K) : DfP K (gx K) T tab 12 1 := by
  obtain ⟨fd, F⟩ := c.def_ 11 (d := d_12) rfl
  have b : Binds K fd ["word"] [] := FunD.bindsN (ps := ["word"]) F fun _ _ _ _ _ _ us hl => match us, hl with | [_], _ => rfl
  exact ⟨a_number_of_word, ["word", "sign"], _, _, _, _, _, _, _, fd, rfl, rfl, rfl, by decide, F, sc_12, chk_12, dfl0 b, kw_none⟩
theorem df_13 (c : He.SaysD faL fnL K) : DfP K (gx K) T tab 13 2 := by
  obtain ⟨fd, F⟩ := c.def_ 12 (d := d_13) rfl
  have b : Binds K fd ["self", "words"] [] := FunD.bindsN (ps := ["self", "words"]) F fun _ _ _ _ _ _ us hl => match us, hl with | [_, _], _ => rfl
  exact ⟨a_Words___init__, ["self", "words"], _, _, _, _, _, _, _, fd, rfl, rfl, rfl, by decide, F, sc_13, chk_13, dfl0 b, kw_none⟩
theorem df_14 (c : He.SaysD faL fnL K) : DfP K (gx K) T tab 14 1 := by
  obtain ⟨fd, F⟩ := c.def_ 13 (d := d_14) rfl
  have b : Binds K fd ["self"] [] := FunD.bindsN (ps := ["self"]) F fun _ _ _ _ _ _ us hl => match us, hl with | [_], _ => rfl
  exact ⟨a_Words_refuse, ["self"], _, _, _, _, _, _, _, fd, rfl, rfl, rfl, by decide, F, sc_14, chk_14, dfl0 b, kw_none⟩
theorem df_15 (c : He.SaysD faL fnL K) : DfP K (gx K) T tab 15 1 := by
  obtain ⟨fd, F⟩ := c.def_ 14 (d := d_15) rfl
  have b : Binds K fd ["self"] [] := FunD.bindsN (ps := ["self"]) F fun _ _ _ _ _ _ us hl => match us, hl with | [_], _ => rfl
  exact ⟨a_Words_next, ["self"], _, _, _, _, _, _, _, fd, rfl, rfl, rfl, by decide, F, sc_15, chk_15, dfl0 b, kw_none⟩
theorem df_16 (c : He.SaysD faL fnL K) : DfP K (gx K) T tab 16 1 := by
  obtain ⟨fd, F⟩ := c.def_ 15 (d := d_16) rfl
  have b : Binds K fd ["self"] [] := FunD.bindsN (ps := ["self"]) F fun _ _ _ _ _ _ us hl => match us, hl with | [_], _ => rfl
  exact ⟨a_Words_step, ["self"], _, _, _, _, _, _, _, fd, rfl, rfl, rfl, by decide, F, sc_16, chk_16, dfl0 b, kw_none⟩
theorem df_17 (c : He.SaysD faL fnL K) : DfP K (gx K) T tab 17 2 := by
  obtain ⟨fd, F⟩ := c.def_ 16 (d := d_17) rfl
  have b : Binds K fd ["self", "word"] [] := FunD.bindsN (ps := ["self", "word"]) F fun _ _ _ _ _ _ us hl => match us, hl with | [_, _], _ => rfl
  exact ⟨a_Words_want, ["self", "word"], _, _, _, _, _, _, _, fd, rfl, rfl, rfl, by decide, F, sc_17, chk_17, dfl0 b, kw_none⟩
theorem df_18 (c : He.SaysD faL fnL K) : DfP K (gx K) T tab 18 3 := by
  obtain ⟨fd, F⟩ := c.def_ 17 (d := d_18) rfl
  have b : Binds K fd ["self", "low", "below"] [] := FunD.bindsN (ps := ["self", "low", "below"]) F fun _ _ _ _ _ _ us hl => match us, hl with | [_, _, _], _ => rfl
  exact ⟨a_Words_number, ["self", "low", "below", "found"], _, _, _, _, _, _, _, fd, rfl, rfl, rfl, by decide, F, sc_18, chk_18, dfl0 b, kw_none⟩
theorem df_19 (c : He.SaysD faL fnL K) : DfP K (gx K) T tab 19 1 := by
  obtain ⟨fd, F⟩ := c.def_ 18 (d := d_19) rfl
  have b : Binds K fd ["self"] [] := FunD.bindsN (ps := ["self"]) F fun _ _ _ _ _ _ us hl => match us, hl with | [_], _ => rfl
  exact ⟨a_Words_end, ["self"], _, _, _, _, _, _, _, fd, rfl, rfl, rfl, by decide, F, sc_19, chk_19, dfl0 b, kw_none⟩
theorem df_20 (c : He.SaysD faL fnL K) : DfP K (gx K) T tab 20 1 := by
  obtain ⟨fd, F⟩ := c.def_ 19 (d := d_20) rfl
  have b : Binds K fd ["word"] [] := FunD.bindsN (ps := ["word"]) F fun _ _ _ _ _ _ us hl => match us, hl with | [_], _ => rfl
  exact ⟨a_pair_of, ["word", "pair"], _, _, _, _, _, _, _, fd, rfl, rfl, rfl, by decide, F, sc_20, chk_20, dfl0 b, kw_none⟩
theorem df_21 (c : He.SaysD faL fnL K) : DfP K (gx K) T tab 21 1 := by
  obtain ⟨fd, F⟩ := c.def_ 20 (d := d_21) rfl
  have b : Binds K fd ["text"] [] := FunD.bindsN (ps := ["text"]) F fun _ _ _ _ _ _ us hl => match us, hl with | [_], _ => rfl
  exact ⟨a_read_wear, ["text", "reader", "found", "word", "pair"], _, _, _, _, _, _, _, fd, rfl, rfl, rfl, by decide, F, sc_21, chk_21, dfl0 b, kwA (ks := ["text"]) (ps := ["text"]) F rfl fun _ _ _ _ _ _ us hl => match us, hl with | [_], _ => rfl⟩
theorem df_22 (c : He.SaysD faL fnL K) : DfP K (gx K) T tab 22 3 := by
  obtain ⟨fd, F⟩ := c.def_ 21 (d := d_22) rfl
  have b : Binds K fd ["reader", "rooms", "doors"] [] := FunD.bindsN (ps := ["reader", "rooms", "doors"]) F fun _ _ _ _ _ _ us hl => match us, hl with | [_, _, _], _ => rfl
  exact ⟨a_read_door, ["reader", "rooms", "doors", "room", "sign", "is_like"], _, _, _, _, _, _, _, fd, rfl, rfl, rfl, by decide, F, sc_22, chk_22, dfl0 b, kw_none⟩
theorem df_23 (c : He.SaysD faL fnL K) : DfP K (gx K) T tab 23 2 := by
  obtain ⟨fd, F⟩ := c.def_ 22 (d := d_23) rfl
  have b : Binds K fd ["reader", "rooms"] [] := FunD.bindsN (ps := ["reader", "rooms"]) F fun _ _ _ _ _ _ us hl => match us, hl with | [_, _], _ => rfl
  exact ⟨a_read_doors, ["reader", "rooms", "doors"], _, _, _, _, _, _, _, fd, rfl, rfl, rfl, by decide, F, sc_23, chk_23, dfl0 b, kw_none⟩
theorem df_24 (c : He.SaysD faL fnL K) : DfP K (gx K) T tab 24 2 := by
  obtain ⟨fd, F⟩ := c.def_ 23 (d := d_24) rfl
  have b : Binds K fd ["reader", "rooms"] [] := FunD.bindsN (ps := ["reader", "rooms"]) F fun _ _ _ _ _ _ us hl => match us, hl with | [_, _], _ => rfl
  exact ⟨a_read_ends, ["reader", "rooms", "ends"], _, _, _, _, _, _, _, fd, rfl, rfl, rfl, by decide, F, sc_24, chk_24, dfl0 b, kw_none⟩
theorem df_25 (c : He.SaysD faL fnL K) : DfP K (gx K) T tab 25 1 := by
  obtain ⟨fd, F⟩ := c.def_ 24 (d := d_25) rfl
  have b : Binds K fd ["text"] [] := FunD.bindsN (ps := ["text"]) F fun _ _ _ _ _ _ us hl => match us, hl with | [_], _ => rfl
  exact ⟨a_read_book, ["text", "reader", "rooms", "doors"], _, _, _, _, _, _, _, fd, rfl, rfl, rfl, by decide, F, sc_25, chk_25, dfl0 b, kwA (ks := ["text"]) (ps := ["text"]) F rfl fun _ _ _ _ _ _ us hl => match us, hl with | [_], _ => rfl⟩
theorem df_26 (c : He.SaysD faL fnL K) : DfP K (gx K) T tab 26 2 := by
  obtain ⟨fd, F⟩ := c.def_ 25 (d := d_26) rfl
  have b : Binds K fd ["text", "is_right"] [] := FunD.bindsN (ps := ["text", "is_right"]) F fun _ _ _ _ _ _ us hl => match us, hl with | [_, _], _ => rfl
  exact ⟨a_read_one, ["text", "is_right", "reader", "word"], _, _, _, _, _, _, _, fd, rfl, rfl, rfl, by decide, F, sc_26, chk_26, dfl0 b, kw_none⟩
theorem df_27 (c : He.SaysD faL fnL K) : DfP K (gx K) T tab 27 1 := by
  obtain ⟨fd, F⟩ := c.def_ 26 (d := d_27) rfl
  have b : Binds K fd ["text"] [] := FunD.bindsN (ps := ["text"]) F fun _ _ _ _ _ _ us hl => match us, hl with | [_], _ => rfl
  exact ⟨a_read_row, ["text"], _, _, _, _, _, _, _, fd, rfl, rfl, rfl, by decide, F, sc_27, chk_27, dfl0 b, kwA (ks := ["text"]) (ps := ["text"]) F rfl fun _ _ _ _ _ _ us hl => match us, hl with | [_], _ => rfl⟩
theorem df_28 (c : He.SaysD faL fnL K) : DfP K (gx K) T tab 28 1 := by
  obtain ⟨fd, F⟩ := c.def_ 27 (d := d_28) rfl
  have b : Binds K fd ["text"] [] := FunD.bindsN (ps := ["text"]) F fun _ _ _ _ _ _ us hl => match us, hl with | [_], _ => rfl
  exact ⟨a_read_text, ["text"], _, _, _, _, _, _, _, fd, rfl, rfl, rfl, by decide, F, sc_28, chk_28, dfl0 b, kwA (ks := ["text"]) (ps := ["text"]) F rfl fun _ _ _ _ _ _ us hl => match us, hl with | [_], _ => rfl⟩
theorem df_29 (c : He.SaysD faL fnL K) : DfP K (gx K) T tab 29 2 := by
  obtain ⟨fd, F⟩ := c.def_ 28 (d := d_29) rfl
  have b : Binds K fd ["_law_script", "_law_k"] [] := FunD.bindsN (ps := ["_law_script", "_law_k"]) F fun _ _ _ _ _ _ us hl => match us, hl with | [_, _], _ => rfl
  exact ⟨a_law_purse, ["_law_script", "_law_k", "_law_cell"], _, _, _, _, _, _, _, fd, rfl, rfl, rfl, by decide, F, sc_29, chk_29, dfl0 b, kw_none⟩
theorem df_30 (c : He.SaysD faL fnL K) : DfP K (gx K) T tab 30 2 := by
  obtain ⟨fd, F⟩ := c.def_ 29 (d := d_30) rfl
  have b : Binds K fd ["_law_purse_here", "_law_many"] [] := FunD.bindsN (ps := ["_law_purse_here", "_law_many"]) F fun _ _ _ _ _ _ us hl => match us, hl with | [_, _], _ => rfl
  exact ⟨a_law_pull, ["_law_purse_here", "_law_many", "_law_mixed", "_law_found"], _, _, _, _, _, _, _, fd, rfl, rfl, rfl, by decide, F, sc_30, chk_30, dfl0 b, kw_none⟩
theorem df_31 (c : He.SaysD faL fnL K) : DfP K (gx K) T tab 31 2 := by
  obtain ⟨fd, F⟩ := c.def_ 30 (d := d_31) rfl
  have b : Binds K fd ["_law_purse_here", "_law_items"] [] := FunD.bindsN (ps := ["_law_purse_here", "_law_items"]) F fun _ _ _ _ _ _ us hl => match us, hl with | [_, _], _ => rfl
  exact ⟨a_law_pick, ["_law_purse_here", "_law_items"], _, _, _, _, _, _, _, fd, rfl, rfl, rfl, by decide, F, sc_31, chk_31, dfl0 b, kw_none⟩
theorem df_32 (c : He.SaysD faL fnL K) : DfP K (gx K) T tab 32 1 := by
  obtain ⟨fd, F⟩ := c.def_ 31 (d := d_32) rfl
  have b : Binds K fd ["_law_rub"] [] := FunD.bindsN (ps := ["_law_rub"]) F fun _ _ _ _ _ _ us hl => match us, hl with | [_], _ => rfl
  exact ⟨a_law_pairs_text, ["_law_rub", "_law_one", "_law_other"], _, _, _, _, _, _, _, fd, rfl, rfl, rfl, by decide, F, sc_32, chk_32, dfl0 b, kw_none⟩
theorem df_33 (c : He.SaysD faL fnL K) : DfP K (gx K) T tab 33 1 := by
  obtain ⟨fd, F⟩ := c.def_ 32 (d := d_33) rfl
  have b : Binds K fd ["_law_shelf"] [] := FunD.bindsN (ps := ["_law_shelf"]) F fun _ _ _ _ _ _ us hl => match us, hl with | [_], _ => rfl
  exact ⟨a_law_shelf_text, ["_law_shelf", "_law_doors", "_law_ends", "_law_inside", "_law_start", "_law_mark", "_law_behind"], _, _, _, _, _, _, _, fd, rfl, rfl, rfl, by decide, F, sc_33, chk_33, dfl0 b, kw_none⟩
theorem df_34 (c : He.SaysD faL fnL K) : DfP K (gx K) T tab 34 1 := by
  obtain ⟨fd, F⟩ := c.def_ 33 (d := d_34) rfl
  have b : Binds K fd ["_law_purse_here"] [] := FunD.bindsN (ps := ["_law_purse_here"]) F fun _ _ _ _ _ _ us hl => match us, hl with | [_], _ => rfl
  exact ⟨a_law_wide_rub, ["_law_purse_here", "_law_pool", "_law_one", "_law_turn", "_law_many", "_law_found", "_law_other"], _, _, _, _, _, _, _, fd, rfl, rfl, rfl, by decide, F, sc_34, chk_34, dfl0 b, kw_none⟩
theorem df_35 (c : He.SaysD faL fnL K) : DfP K (gx K) T tab 35 1 := by
  obtain ⟨fd, F⟩ := c.def_ 34 (d := d_35) rfl
  have b : Binds K fd ["_law_purse_here"] [] := FunD.bindsN (ps := ["_law_purse_here"]) F fun _ _ _ _ _ _ us hl => match us, hl with | [_], _ => rfl
  exact ⟨a_law_wide_shelf, ["_law_purse_here", "_law_rooms", "_law_start", "_law_inside", "_law_thick", "_law_doors", "_law_mark", "_law_least", "_law_ends"], _, _, _, _, _, _, _, fd, rfl, rfl, rfl, by decide, F, sc_35, chk_35, dfl0 b, kw_none⟩
theorem df_36 (c : He.SaysD faL fnL K) : DfP K (gx K) T tab 36 2 := by
  obtain ⟨fd, F⟩ := c.def_ 35 (d := d_36) rfl
  have b : Binds K fd ["_law_purse_here", "_law_pool"] [] := FunD.bindsN (ps := ["_law_purse_here", "_law_pool"]) F fun _ _ _ _ _ _ us hl => match us, hl with | [_, _], _ => rfl
  exact ⟨a_law_signs, ["_law_purse_here", "_law_pool", "_law_many", "_law_turn"], _, _, _, _, _, _, _, fd, rfl, rfl, rfl, by decide, F, sc_36, chk_36, dfl0 b, kw_none⟩
theorem df_37 (c : He.SaysD faL fnL K) : DfP K (gx K) T tab 37 1 := by
  obtain ⟨fd, F⟩ := c.def_ 36 (d := d_37) rfl
  have b : Binds K fd ["_law_purse_here"] [] := FunD.bindsN (ps := ["_law_purse_here"]) F fun _ _ _ _ _ _ us hl => match us, hl with | [_], _ => rfl
  exact ⟨a_law_right, ["_law_purse_here", "_law_kept", "_law_written", "_law_rub", "_law_shelf", "_law_one", "_law_told"], _, _, _, _, _, _, _, fd, rfl, rfl, rfl, by decide, F, sc_37, chk_37, dfl0 b, kw_none⟩
theorem df_38 (c : He.SaysD faL fnL K) : DfP K (gx K) T tab 38 1 := by
  obtain ⟨fd, F⟩ := c.def_ 37 (d := d_38) rfl
  have b : Binds K fd ["_law_script"] [] := FunD.bindsN (ps := ["_law_script"]) F fun _ _ _ _ _ _ us hl => match us, hl with | [_], _ => rfl
  exact ⟨a_law, ["_law_script", "_law_k"], _, _, _, _, _, _, _, fd, rfl, rfl, rfl, by decide, F, sc_38, chk_38, dfl0 b, kw_none⟩
theorem stat {h : Heap} {mg : Str → Option Value} (X : K.In h) (G : h.Ns mainGlobals mg) (c : He.SaysD faL fnL K) : Stat K mg (gx K) T tab where
  fn := fun x f e => AllP.look (P := fun x f => mg x = some (.ref ((gx K).fadr f))) (show AllP _ T.fns from ⟨He.glo_ok X G (c.fact 0 rfl), He.glo_ok X G (c.fact 1 rfl), He.glo_ok X G (c.fact 2 rfl), He.glo_ok X G (c.fact 3 rfl), He.glo_ok X G (c.fact 4 rfl), He.glo_ok X G (c.fact 5 rfl), He.glo_ok X G (c.fact 6 rfl), He.glo_ok X G (c.fact 7 rfl), He.glo_ok X G (c.fact 8 rfl), He.glo_ok X G (c.fact 9 rfl), He.glo_ok X G (c.fact 10 rfl), He.glo_ok X G (c.fact 11 rfl), He.glo_ok X G (c.fact 12 rfl), He.glo_ok X G (c.fact 13 rfl), He.glo_ok X G (c.fact 14 rfl), He.glo_ok X G (c.fact 15 rfl), He.glo_ok X G (c.fact 16 rfl), He.glo_ok X G (c.fact 17 rfl), He.glo_ok X G (c.fact 18 rfl), He.glo_ok X G (c.fact 19 rfl), He.glo_ok X G (c.fact 20 rfl), He.glo_ok X G (c.fact 21 rfl), He.glo_ok X G (c.fact 22 rfl), He.glo_ok X G (c.fact 23 rfl), He.glo_ok X G (c.fact 24 rfl), He.glo_ok X G (c.fact 25 rfl), He.glo_ok X G (c.fact 26 rfl), He.glo_ok X G (c.fact 27 rfl), He.glo_ok X G (c.fact 28 rfl), He.glo_ok X G (c.fact 29 rfl), He.glo_ok X G (c.fact 30 rfl), trivial⟩) e
  df := fun f np e => AllP.look (P := DfP K (gx K) T tab) (show AllP _ T.nps from ⟨df_1 c, df_2 c, df_3 c, df_4 c, df_5 c, df_6 c, df_7 c, df_8 c, df_9 c, df_10 c, df_11 c, df_12 c, df_13 c, df_14 c, df_15 c, df_16 c, df_17 c, df_18 c, df_19 c, df_20 c, df_21 c, df_22 c, df_23 c, df_24 c, df_25 c, df_26 c, df_27 c, df_28 c, df_29 c, df_30 c, df_31 c, df_32 c, df_33 c, df_34 c, df_35 c, df_36 c, df_37 c, df_38 c, trivial⟩) e
  con := fun x d e => AllP.look (P := fun x d => ∃ u v, mg x = some u ∧ RelV v u ∧ ∀ ρ Z H, RelD (gx K).toGv ρ Z H d v) (show AllP _ T.con from ⟨(let ⟨t, e⟩ := He.str_ok X G (c.fact 55 rfl); ⟨_, .str _, e, ⟨t, rfl⟩, fun _ _ _ => RelD.str_iff.mpr (by decide +kernel)⟩), (let ⟨t, e⟩ := He.str_ok X G (c.fact 56 rfl); ⟨_, .str _, e, ⟨t, rfl⟩, fun _ _ _ => RelD.str_iff.mpr (by decide +kernel)⟩), (let ⟨t, e⟩ := He.str_ok X G (c.fact 57 rfl); ⟨_, .str _, e, ⟨t, rfl⟩, fun _ _ _ => RelD.str_iff.mpr (by decide +kernel)⟩), (let ⟨t, e⟩ := He.int_ok X G (c.fact 58 rfl); ⟨_, .int _, e, ⟨t, rfl⟩, fun _ _ _ => RelD.int_iff.mpr rfl⟩), (let ⟨t, e⟩ := He.int_ok X G (c.fact 59 rfl); ⟨_, .int _, e, ⟨t, rfl⟩, fun _ _ _ => RelD.int_iff.mpr rfl⟩), (let ⟨t, e⟩ := He.int_ok X G (c.fact 60 rfl); ⟨_, .int _, e, ⟨t, rfl⟩, fun _ _ _ => RelD.int_iff.mpr rfl⟩), (let ⟨t, e⟩ := He.int_ok X G (c.fact 61 rfl); ⟨_, .int _, e, ⟨t, rfl⟩, fun _ _ _ => RelD.int_iff.mpr rfl⟩), (let ⟨t, e⟩ := He.str_ok X G (c.fact 62 rfl); ⟨_, .str _, e, ⟨t, rfl⟩, fun _ _ _ => RelD.str_iff.mpr (by decide +kernel)⟩), (let ⟨t, e⟩ := He.str_ok X G (c.fact 63 rfl); ⟨_, .str _, e, ⟨t, rfl⟩, fun _ _ _ => RelD.str_iff.mpr (by decide +kernel)⟩), trivial⟩) e
  blt := fun x e => AllL.mem (P := fun x => mg x = none) (show AllL _ T.blt from ⟨He.free_ok X G (c.fact 42 rfl), He.free_ok X G (c.fact 43 rfl), He.free_ok X G (c.fact 44 rfl), He.free_ok X G (c.fact 45 rfl), He.free_ok X G (c.fact 46 rfl), He.free_ok X G (c.fact 47 rfl), He.free_ok X G (c.fact 48 rfl), He.free_ok X G (c.fact 49 rfl), He.free_ok X G (c.fact 50 rfl), He.free_ok X G (c.fact 51 rfl), He.free_ok X G (c.fact 52 rfl), He.free_ok X G (c.fact 53 rfl), He.free_ok X G (c.fact 54 rfl), trivial⟩) e
  cls := fun x n e => AllP.look (P := fun x n => mg x = some (.ref ((gx K).cadr n))) (show AllP _ T.cls from ⟨He.glo_ok X G (c.fact 31 rfl), trivial⟩) e
  ini := fun n f e => AllP.look (P := fun n f => Mk K ((gx K).cadr n) ((gx K).fadr f)) (show AllP _ T.ini from ⟨He.mkr_ok (c.fact 33 rfl), trivial⟩) e
  clk := fun _ n => match n with
    | 0 => He.cls_ok (c.fact 32 rfl)
    | _ + 1 => He.cls_ok (c.fact 32 rfl)
  nat := fun n i x e => ⟨fnm_at e, match n, i, e with
    | 0, 0, _ => He.noat_ok (c.fact 34 rfl)
    | 0, 1, _ => He.noat_ok (c.fact 35 rfl)
    | _ + 1, 0, _ => He.noat_ok (c.fact 34 rfl)
    | _ + 1, 1, _ => He.noat_ok (c.fact 35 rfl)
    | _, _ + 2, e => by simp [T] at e⟩
  mth := fun n m f e => AllP.look (P := fun (q : Nat × Str) f => Cls K ((gx K).cadr q.1) ∧ Meth K ((gx K).cadr q.1) q.2 ((gx K).fadr f) ∧ ∀ i, (gx K).fname i ≠ q.2) (show AllP _ T.mth from ⟨⟨He.cls_ok (c.fact 32 rfl), He.meth_ok (c.fact 36 rfl), fnm_ne (by decide +kernel) (by decide +kernel)⟩, ⟨He.cls_ok (c.fact 32 rfl), He.meth_ok (c.fact 37 rfl), fnm_ne (by decide +kernel) (by decide +kernel)⟩, ⟨He.cls_ok (c.fact 32 rfl), He.meth_ok (c.fact 38 rfl), fnm_ne (by decide +kernel) (by decide +kernel)⟩, ⟨He.cls_ok (c.fact 32 rfl), He.meth_ok (c.fact 39 rfl), fnm_ne (by decide +kernel) (by decide +kernel)⟩, ⟨He.cls_ok (c.fact 32 rfl), He.meth_ok (c.fact 40 rfl), fnm_ne (by decide +kernel) (by decide +kernel)⟩, ⟨He.cls_ok (c.fact 32 rfl), He.meth_ok (c.fact 41 rfl), fnm_ne (by decide +kernel) (by decide +kernel)⟩, trivial⟩) e
end
abbrev RR : PySem.W.OpenRow := PySem.W.OpenLaw.row PySem.Challenge.rw_wornstones_k82_wears_rows_and_books_writ
abbrev hkL : PySem.W.Hook := He.hookD 6 faL fnL
def obL (s : PySem.W.SharedT) : He.AlD := He.obsDG 6 faL fnL (HandSHeadRun.getT s)
theorem ob_eq (s : PySem.W.SharedT) : obL s = hkL.obs s.abs := He.obsDG_eq (HandSHeadRun.getT_eq s)
def loose0 : List Str := ["__name__", "StoneError", "BadWords", "SIGNS", "WORN", "SEEN", "MOST_SIGNS", "MOST_PAIRS", "MOST_ROOMS", "MOST_DOORS", "is_one_of", "is_made_of", "is_sign", "is_worn", "is_text", "is_row", "is_pair", "DIGITS", "NOTHING", "show_wear", "show_book", "show_row", "words_of", "number_of_word", "Words", "pair_of", "read_wear", "read_door", "read_doors", "read_ends"]
def loose1 : List Str := ["read_book", "read_one", "read_row", "read_text", "_law_purse", "_law_pull", "_law_pick", "_law_pairs_text", "_law_shelf_text", "_law_wide_rub", "_law_wide_shelf", "_law_signs", "_law_right"]
def looseL : List Str := loose0 ++ loose1
def lawI : Nat := 46
def lawF : Nat := 38
def STEPS : Nat := 4000
theorem runL (w : World) : HandSHeadRun.RunEq RR (PySem.W.view RR.prog [lawI]) hkL obL STEPS looseL w := by
  intro os
  kernel_rfl
end MP
namespace MP
open PySem PySem.W PySem.Calls PyProof.Rows L2
theorem law_holds (n : Nat) (hroom : Room (2 * n) callerA) (hm : ∀ ns : List Int, ns.length ≤ 63 → ∃ S, tower tab n lawF [.klst (ns.map D.int)] [] = .ok (.bl true) S) : PySem.Challenge.rw_wornstones_k82_wears_rows_and_books_writ.Holds := by
  w_on; o_law
  refine HandSHeadRun.head_any (r := OpenLaw.row PySem.Challenge.rw_wornstones_k82_wears_rows_and_books_writ) (q := view (OpenLaw.row PySem.Challenge.rw_wornstones_k82_wears_rows_and_books_writ).prog [lawI]) (H := hkL) (ob := obL) (M := STEPS) (loose := looseL) (d := HandSHeadRun.topDef (OpenLaw.row PySem.Challenge.rw_wornstones_k82_wears_rows_and_books_writ).prog lawI) (kwd := []) ob_eq
    (by kernel_rfl) (fun s => by kernel_rfl) runL (by kernel_rfl) (by kernel_rfl) (by kernel_rfl) (by rfl) (by first | assumption | decide +kernel) (by decide +kernel) ⟨rfl, rfl, rfl, rfl, rfl, by decide +kernel⟩ ?hw ?hc
  case hw => w_witness2
  case hc =>
    refine walk_G (l := PySem.Challenge.rw_wornstones_k82_wears_rows_and_books_writ) (n := 63) (k := 2 * n) (x := "_law_script") rfl (by decide) (by kernel_rfl) hroom ?F
    intro w mg fa h Y G hmg0
    obtain ⟨K, KX, c⟩ := Y
    have hmg : mg ("law" : PySem.Str) = some (.ref fa) := by
      have e : (HandSHeadRun.topDef (OpenLaw.row PySem.Challenge.rw_wornstones_k82_wears_rows_and_books_writ).prog lawI).name = ("law" : PySem.Str) := by kernel_rfl
      rw [← e]
      exact hmg0
    have efa : fa = (gx K).fadr lawF := by
      have z := hmg.symm.trans (He.glo_ok KX G (c.fact 30 rfl))
      cases z
      rfl
    subst efa
    obtain ⟨fd, F⟩ := c.def_ 37 (d := d_38) rfl
    have b := FunD.bindsA (ps := ["_law_script"]) F fun _ _ _ _ _ _ us hl => match us, hl with | [_], _ => rfl
    refine ⟨K, fd, spF (gx K) (tower tab n) 1 lawF, KX, fun s v => b s [v] rfl, fun H a ns hl _ hS => law_sp hS (hm ns hl), fun base KB GB => ?_⟩
    have St := stat KB GB c
    exact tower_fn St rfl n (fn := a_law) (N := ["_law_script", "_law_k"]) (f := lawF) (np := 1) rfl rfl rfl (by decide) F sc_38 chk_38
end MP
end

/-! text MPX -/
section
set_option Elab.async false
set_option linter.all false
set_option maxRecDepth 100000
namespace MP
/-! MPX: rules for simp, one for each shape, so that what is not told stays small -/
/-- continuations are left alone until what stands ahead of them is told: the tag makes simp keep them -/
structure Tg {A : Sort _} (f : A) : Type where
def bT {A B : Type} (f : A → Stt → R B) (g : Tg f) (r : R A) : R B := r.bind f
def sT {A : Type} (f : A → Stt → RS) (g : Tg f) (sg : Sg) (r : R A) : RS := r.stm sg f
def qT (f : Sg → Stt → RS) (g : Tg f) (r : RS) : RS := r.seq f
theorem b_T {A B : Type} (r : R A) (f : A → Stt → R B) : r.bind f = bT f ⟨⟩ r := rfl
theorem s_T {A : Type} (r : R A) (sg : Sg) (f : A → Stt → RS) : r.stm sg f = sT f ⟨⟩ sg r := rfl
theorem q_T (r : RS) (f : Sg → Stt → RS) : r.seq f = qT f ⟨⟩ r := rfl
theorem bT_ok {A B : Type} (a : A) (t : Stt) (f : A → Stt → R B) (g : Tg f) : bT f g (.ok a t) = f a t := rfl
theorem bT_exc {A B : Type} (x : XD) (t : Stt) (f : A → Stt → R B) (g : Tg f) : bT f g (.exc x t) = .exc x t := rfl
theorem bT_stk {A B : Type} (f : A → Stt → R B) (g : Tg f) : bT f g .stk = .stk := rfl
theorem sT_ok {A : Type} (a : A) (t : Stt) (f : A → Stt → RS) (g : Tg f) (sg : Sg) : sT f g sg (.ok a t) = f a t := rfl
theorem sT_exc {A : Type} (x : XD) (t : Stt) (f : A → Stt → RS) (g : Tg f) (sg : Sg) : sT f g sg (.exc x t) = .exc x sg t := rfl
theorem sT_stk {A : Type} (f : A → Stt → RS) (g : Tg f) (sg : Sg) : sT f g sg .stk = .stk := rfl
theorem qT_next (sg : Sg) (t : Stt) (f : Sg → Stt → RS) (g : Tg f) : qT f g (.next sg t) = f sg t := rfl
theorem qT_brk (sg : Sg) (t : Stt) (f : Sg → Stt → RS) (g : Tg f) : qT f g (.brk sg t) = .brk sg t := rfl
theorem qT_cnt (sg : Sg) (t : Stt) (f : Sg → Stt → RS) (g : Tg f) : qT f g (.cnt sg t) = .cnt sg t := rfl
theorem qT_ret (w : W) (t : Stt) (f : Sg → Stt → RS) (g : Tg f) : qT f g (.ret w t) = .ret w t := rfl
theorem qT_exc (x : XD) (sg : Sg) (t : Stt) (f : Sg → Stt → RS) (g : Tg f) : qT f g (.exc x sg t) = .exc x sg t := rfl
theorem qT_stk (f : Sg → Stt → RS) (g : Tg f) : qT f g .stk = .stk := rfl
/-! options told -/
def itS : Option SC → Option (List W)
  | some (.lst xs) => some (xs.map .d)
  | _ => none
def itL : Option LC → Option (List W)
  | some (.lst _ ws) => some ws
  | _ => none
def okO {α : Type} (t : Stt) : Option α → R α
  | some a => .ok a t
  | none => .stk
def okW (t : Stt) : Option D → R W
  | some d => .ok (.d d) t
  | none => .stk
theorem itS_l (xs : List D) : itS (some (.lst xs)) = some (xs.map .d) := rfl
theorem itL_l (z : Bool) (ws : List W) : itL (some (.lst z ws)) = some ws := rfl
theorem okO_s {α : Type} (t : Stt) (a : α) : okO t (some a) = .ok a t := rfl
theorem okO_n {α : Type} (t : Stt) : okO t (none : Option α) = .stk := rfl
theorem okW_s (t : Stt) (d : D) : okW t (some d) = .ok (.d d) t := rfl
theorem it_lst (t : Stt) (xs : List D) : items? t (.d (.lst xs)) = some (xs.map .d) := rfl
theorem it_tup (t : Stt) (xs : List D) : items? t (.d (.tup xs)) = some (xs.map .d) := rfl
theorem it_klst (t : Stt) (xs : List D) : items? t (.d (.klst xs)) = some (xs.map .d) := rfl
theorem it_ref (t : Stt) (n : Nat) : items? t (.d (.ref n)) = itS (t.S[n]?) := rfl
theorem it_loc (t : Stt) (n : Nat) : items? t (.loc n) = itL (t.L[n]?) := rfl
theorem lo_lst (t : Stt) (xs : List D) : lstOnly? t (.d (.lst xs)) = some (xs.map .d) := rfl
theorem lo_klst (t : Stt) (xs : List D) : lstOnly? t (.d (.klst xs)) = some (xs.map .d) := rfl
theorem lo_ref (t : Stt) (n : Nat) : lstOnly? t (.d (.ref n)) = itS (t.S[n]?) := rfl
theorem lo_loc (t : Stt) (n : Nat) : lstOnly? t (.loc n) = itL (t.L[n]?) := rfl
theorem eo_lst (t : Stt) (xs : List D) : extOnly? t (.d (.lst xs)) = some (xs.map .d) := rfl
theorem eo_ref (t : Stt) (n : Nat) : extOnly? t (.d (.ref n)) = itS (t.S[n]?) := rfl
theorem eo_loc (t : Stt) (n : Nat) : extOnly? t (.loc n) = itL (t.L[n]?) := rfl
/-! data out of values -/
theorem dsOf_map (ds : List D) : dsOf? (ds.map W.d) = some ds := by
  induction ds with
  | nil => rfl
  | cons d r ih => simp [dsOf?, dOf?, ih]
theorem dsOf_mapf {α : Type} (f : α → D) (ds : List α) : dsOf? (ds.map fun x => W.d (f x)) = some (ds.map f) := by
  have := dsOf_map (ds.map f)
  rw [List.map_map] at this
  exact this
theorem dsOf_n : dsOf? [] = some [] := rfl
theorem dsOf_c (x : D) (r : List W) : dsOf? (.d x :: r) = (dsOf? r).map (x :: ·) := by
  simp only [dsOf?, dOf?]
  cases dsOf? r <;> rfl
theorem dsOf_app (xs : List D) (r : List W) : dsOf? (xs.map W.d ++ r) = (dsOf? r).map (xs ++ ·) := by
  induction xs with
  | nil => cases h : dsOf? r <;> simp [h]
  | cons x s ih =>
    rw [List.map_cons, List.cons_append, dsOf_c, ih]
    cases dsOf? r <;> rfl
theorem toD_d (x : D) (t : Stt) : toD (.d x) t = .ok x t := rfl
def tdL (i : Nat) (t : Stt) : Option LC → R D
  | some (.lst _ ws) => match dsOf? ws with
    | some ds => .ok (.lst ds) { t with L := t.L.set i (.lst true ws) }
    | none => .stk
  | some (.dic _ kvs) => match dsOf? (kvs.map (·.2)) with
    | some ds => .ok (.dic (kvs.map (·.1)) ds) { t with L := t.L.set i (.dic true kvs) }
    | none => .stk
  | none => .stk
theorem toD_loc (i : Nat) (t : Stt) : toD (.loc i) t = tdL i t t.L[i]? := rfl
theorem tdL_l (i : Nat) (t : Stt) (z : Bool) (ws : List W) : tdL i t (some (.lst z ws)) = match dsOf? ws with
    | some ds => .ok (.lst ds) { t with L := t.L.set i (.lst true ws) }
    | none => .stk := rfl
theorem toDs_map (ds : List D) (t : Stt) : toDs (ds.map W.d) t = .ok ds t := by
  induction ds with
  | nil => rfl
  | cons d r ih => simp [toDs, toD, ih]
theorem toDs_n (t : Stt) : toDs [] t = .ok [] t := rfl
theorem toDs_c (w : W) (r : List W) (t : Stt) : toDs (w :: r) t = (toD w t).bind fun x t => (toDs r t).bind fun xs t => .ok (x :: xs) t := rfl
theorem mk_val (ws : List W) (t : Stt) : mkLst .val ws t = (toDs ws t).bind fun ds t => .ok (.d (.lst ds)) t := rfl
theorem mk_loc (ws : List W) (t : Stt) : mkLst .loc ws t = .ok (.loc t.L.length) { t with L := t.L ++ [.lst false ws] } := rfl
theorem mk_shr (ws : List W) (t : Stt) : mkLst .shr ws t = (toDs ws t).bind fun ds t => .ok (.d (.ref t.S.length)) { t with S := t.S ++ [.lst ds] } := rfl
/-! truth -/
theorem tr_non (t : Stt) : truth (.d .non) t = .ok false t := rfl
theorem tr_bl (b : Bool) (t : Stt) : truth (.d (.bl b)) t = .ok b t := rfl
theorem tr_int (i : Int) (t : Stt) : truth (.d (.int i)) t = .ok (i != 0) t := rfl
theorem tr_str (x : Tx) (t : Stt) : truth (.d (.str x)) t = if x.length ≤ 1000000 then .ok (x.length != 0) t else .stk := rfl
theorem tr_lst (x : List D) (t : Stt) : truth (.d (.lst x)) t = .ok (!x.isEmpty) t := by cases x <;> rfl
theorem tr_tup (x : List D) (t : Stt) : truth (.d (.tup x)) t = .ok (!x.isEmpty) t := by cases x <;> rfl
theorem tr_ref (n : Nat) (t : Stt) : truth (.d (.ref n)) t = okO t ((itS t.S[n]?).map fun xs => !xs.isEmpty) := by
  show (match itS t.S[n]? with | some xs => R.ok (!xs.isEmpty) t | none => .stk) = _
  cases itS t.S[n]? <;> rfl
theorem tr_loc (n : Nat) (t : Stt) : truth (.loc n) t = okO t ((itL t.L[n]?).map fun xs => !xs.isEmpty) := by
  show (match itL t.L[n]? with | some xs => R.ok (!xs.isEmpty) t | none => .stk) = _
  cases itL t.L[n]? <;> rfl
/-! operators -/
theorem bop_ii (op : Bop) (a b : Int) (t : Stt) : bop op (.d (.int a)) (.d (.int b)) t = okW t ((bopI op a b).map .int) := by
  show (match bopI op a b with | some c => R.ok (W.d (.int c)) t | none => .stk) = _
  cases bopI op a b <;> rfl
theorem bop_ss (a b : Tx) (t : Stt) : bop .add (.d (.str a)) (.d (.str b)) t = if a.length + b.length ≤ 1000000 then .ok (.d (.str (a ++ b))) t else .stk := rfl
theorem bI_add (a b : Int) : bopI .add a b = some (a + b) := rfl
theorem bI_sub (a b : Int) : bopI .sub a b = some (a - b) := rfl
theorem log2_lt {i : Int} {k : Nat} (h0 : 0 ≤ i) (h : i < 2 ^ k) (hk : 0 < k) : i.natAbs.log2 < k := by
  by_cases z : i.natAbs = 0
  · rw [z]; simpa using hk
  · rw [Nat.log2_lt z]
    have : (i.natAbs : Int) < 2 ^ k := by rw [Int.natAbs_of_nonneg h0]; exact h
    exact_mod_cast this
theorem bI_mod {a b : Int} (h : 0 < b) : bopI .mod a b = some (a % b) := by unfold bopI; simp [h]
theorem bI_fdiv {a b : Int} (h : 0 < b) (k : b < 2 ^ 200) : bopI .fdiv a b = some (a / b) := by
  unfold bopI
  have := log2_lt (k := 200) (by omega) k (by decide)
  simp only [if_pos (show 0 < b ∧ b.natAbs.log2 < 9000 from ⟨h, by omega⟩)]
theorem bI_mul {a b : Int} (h : 0 ≤ a) (h1 : a < 2 ^ 200) (k : 0 ≤ b) (k1 : b < 2 ^ 200) : bopI .mul a b = some (a * b) := by
  unfold bopI
  have := log2_lt (k := 200) h h1 (by decide)
  have := log2_lt (k := 200) k k1 (by decide)
  simp only [if_pos (show a.natAbs.log2 + b.natAbs.log2 < 1000000 by omega)]
theorem bI_pow {a b : Int} (h : 0 ≤ a) (h1 : a < 2 ^ 200) (k : 0 ≤ b) (k1 : b ≤ 100) : bopI .pow a b = some (a ^ b.toNat) := by
  unfold bopI
  have := log2_lt (k := 200) h h1 (by decide)
  simp only [if_pos (show 0 ≤ b ∧ b ≤ 100 ∧ a.natAbs.log2 < 1000 from ⟨k, k1, by omega⟩)]
theorem neg_i (Φ : Fns) (a : Int) (σ : Sg) (t : Stt) : evE Φ (.neg (.con (.int a))) σ t = .ok (.d (.int (-a))) t := by simp only [evE, R.bind_ok]
/-! comparisons -/
theorem cop_dd (op : Cop) (a b : D) (t : Stt) : cop op (.d a) (.d b) t = okO t (cmpD op a b) := by
  show (match cmpD op a b with | some k => R.ok k t | none => .stk) = _
  cases cmpD op a b <;> rfl
def pkL : Option LC → Option D
  | some (.lst _ ws) => (dsOf? ws).map D.lst
  | _ => none
theorem pkL_l (z : Bool) (ws : List W) : pkL (some (.lst z ws)) = (dsOf? ws).map D.lst := rfl
theorem cop_ld (op : Cop) (i : Nat) (b : D) (t : Stt) : cop op (.loc i) (.d b) t = okO t ((pkL t.L[i]?).bind fun a => cmpD op a b) := by
  have h : peek t (.loc i) = pkL t.L[i]? := by
    show (match t.L[i]? with | some (.lst _ ws) => (dsOf? ws).map D.lst | _ => none) = _
    cases t.L[i]? with
    | none => rfl
    | some c => cases c <;> rfl
  unfold cop
  rw [h]
  cases pkL t.L[i]? with
  | none => rfl
  | some a =>
    show (match cmpD op a b with | some k => R.ok k t | none => .stk) = _
    cases e : cmpD op a b <;> simp [okO, e]
theorem cop_dl (op : Cop) (i : Nat) (b : D) (t : Stt) : cop op (.d b) (.loc i) t = okO t ((pkL t.L[i]?).bind fun a => cmpD op b a) := by
  have h : peek t (.loc i) = pkL t.L[i]? := by
    show (match t.L[i]? with | some (.lst _ ws) => (dsOf? ws).map D.lst | _ => none) = _
    cases t.L[i]? with
    | none => rfl
    | some c => cases c <;> rfl
  unfold cop
  rw [h]
  cases pkL t.L[i]? with
  | none => rfl
  | some a =>
    show (match cmpD op b a with | some k => R.ok k t | none => .stk) = _
    cases e : cmpD op b a <;> simp [okO, e]
theorem eq_int (a b : Int) : cmpD .eq (.int a) (.int b) = some (decide (a = b)) := by simp only [cmpD, eqD]
theorem ne_int (a b : Int) : cmpD .ne (.int a) (.int b) = some (!decide (a = b)) := by simp only [cmpD, eqD, Option.map_some]
theorem eq_str (a b : Tx) : cmpD .eq (.str a) (.str b) = some (decide (a = b)) := by simp only [cmpD, eqD]
theorem ne_str (a b : Tx) : cmpD .ne (.str a) (.str b) = some (!decide (a = b)) := by simp only [cmpD, eqD, Option.map_some]
theorem eq_rep (a : D) : cmpD .eq (.rep a) (.rep a) = some true := by simp [cmpD]
theorem ne_rep (a : D) : cmpD .ne (.rep a) (.rep a) = some false := by simp [cmpD]
theorem lt_int (a b : Int) : cmpD .lt (.int a) (.int b) = some (decide (a < b)) := rfl
theorem le_int (a b : Int) : cmpD .le (.int a) (.int b) = some (decide (a ≤ b)) := rfl
theorem gt_int (a b : Int) : cmpD .gt (.int a) (.int b) = some (decide (b < a)) := rfl
theorem ge_int (a b : Int) : cmpD .ge (.int a) (.int b) = some (decide (b ≤ a)) := rfl
theorem lt_str (a b : Tx) : cmpD .lt (.str a) (.str b) = some (decide (a < b)) := rfl
theorem le_str (a b : Tx) : cmpD .le (.str a) (.str b) = some (!decide (b < a)) := rfl
theorem gt_str (a b : Tx) : cmpD .gt (.str a) (.str b) = some (decide (b < a)) := rfl
theorem ge_str (a b : Tx) : cmpD .ge (.str a) (.str b) = some (!decide (a < b)) := rfl
theorem isN_n : cmpD .isN .non .non = some true := rfl
theorem isN_i (a : Int) : cmpD .isN (.int a) .non = some false := by simp [cmpD]
theorem isN_s (a : Tx) : cmpD .isN (.str a) .non = some false := by simp [cmpD]
theorem isN_t (a : List D) : cmpD .isN (.tup a) .non = some false := by simp [cmpD]
theorem isN_l (a : List D) : cmpD .isN (.lst a) .non = some false := by simp [cmpD]
theorem isN_b (a : Bool) : cmpD .isN (.bl a) .non = some false := by simp [cmpD]
theorem notN_n : cmpD .notN .non .non = some false := rfl
theorem notN_i (a : Int) : cmpD .notN (.int a) .non = some true := by simp [cmpD]
theorem notN_s (a : Tx) : cmpD .notN (.str a) .non = some true := by simp [cmpD]
theorem notN_t (a : List D) : cmpD .notN (.tup a) .non = some true := by simp [cmpD]
theorem notN_l (a : List D) : cmpD .notN (.lst a) .non = some true := by simp [cmpD]
theorem in_str (c : Char) (b : Tx) : cmpD .isin (.str [c]) (.str b) = some (decide (c ∈ b)) := rfl
theorem nin_str (c : Char) (b : Tx) : cmpD .notin (.str [c]) (.str b) = some (!decide (c ∈ b)) := rfl
/-! subscripts -/
theorem sub_str (x : Tx) (k : Int) (t : Stt) : subs (.d (.str x)) (.d (.int k)) t = if x.length ≤ 1000000 then okW t ((nth x k).map fun c => .str [c]) else .stk := by
  show (if x.length ≤ LIM then match nth x k with | some c => R.ok (W.d (.str [c])) t | none => .stk else .stk) = _
  cases nth x k <;> rfl
theorem sub_lst (xs : List D) (k : Int) (t : Stt) : subs (.d (.lst xs)) (.d (.int k)) t = okO t (nth (xs.map .d) k) := by
  show (match nth (xs.map W.d) k with | some w => R.ok w t | none => .stk) = _
  cases nth (xs.map W.d) k <;> rfl
theorem sub_tup (xs : List D) (k : Int) (t : Stt) : subs (.d (.tup xs)) (.d (.int k)) t = okO t (nth (xs.map .d) k) := by
  show (match nth (xs.map W.d) k with | some w => R.ok w t | none => .stk) = _
  cases nth (xs.map W.d) k <;> rfl
theorem sub_klst (xs : List D) (k : Int) (t : Stt) : subs (.d (.klst xs)) (.d (.int k)) t = okO t (nth (xs.map .d) k) := by
  show (match nth (xs.map W.d) k with | some w => R.ok w t | none => .stk) = _
  cases nth (xs.map W.d) k <;> rfl
theorem sub_ref (n : Nat) (k : Int) (t : Stt) : subs (.d (.ref n)) (.d (.int k)) t = okO t ((itS t.S[n]?).bind fun xs => nth xs k) := by
  show (match itS t.S[n]? with | some xs => (match nth xs k with | some w => R.ok w t | none => .stk) | none => .stk) = _
  cases itS t.S[n]? with
  | none => rfl
  | some xs => cases e : nth xs k <;> simp [okO, e]
theorem sub_loc (n : Nat) (k : Int) (t : Stt) : subs (.loc n) (.d (.int k)) t = okO t ((itL t.L[n]?).bind fun xs => nth xs k) := by
  show (match itL t.L[n]? with | some xs => (match nth xs k with | some w => R.ok w t | none => .stk) | none => .stk) = _
  cases itL t.L[n]? with
  | none => rfl
  | some xs => cases e : nth xs k <;> simp [okO, e]
theorem idxOk {n : Nat} {v : Int} (h0 : 0 ≤ v) (h1 : v < n) : idx n v = some v.toNat := by
  unfold idx
  rw [if_pos h0, if_pos h1]
theorem nth_nat {α : Type} (xs : List α) (k : Nat) : nth xs (k : Int) = xs[k]? := by
  unfold nth
  by_cases h : k < xs.length
  · rw [idxOk (by omega) (by omega)]; rfl
  · unfold idx
    rw [if_pos (by omega), if_neg (by omega), List.getElem?_eq_none (by omega)]
theorem nth_0 {α : Type} (xs : List α) : nth xs 0 = xs[0]? := nth_nat xs 0
theorem nth_1 {α : Type} (xs : List α) : nth xs 1 = xs[1]? := nth_nat xs 1
theorem nth_2 {α : Type} (xs : List α) : nth xs 2 = xs[2]? := nth_nat xs 2
theorem nth_m1 {α : Type} (xs : List α) : nth xs (-1) = xs.getLast? := by
  rcases List.eq_nil_or_concat xs with h | ⟨l, x, h⟩
  · subst h; rfl
  · subst h
    unfold nth idx
    have q : (-1 + ((l.length : Int) + 1)) = l.length := by omega
    have q2 : (0 : Int) ≤ l.length := by omega
    simp [q, q2]
theorem nth_int {α : Type} (xs : List α) {v : Int} (h : 0 ≤ v) : nth xs v = xs[v.toNat]? := by
  obtain ⟨k, rfl⟩ : ∃ k : Nat, v = k := ⟨v.toNat, by omega⟩
  rw [nth_nat]; rfl
theorem nth_map {α β : Type} (f : α → β) (xs : List α) (k : Int) : nth (xs.map f) k = (nth xs k).map f := by
  unfold nth
  rw [List.length_map]
  cases idx xs.length k <;> simp
/-! built-in functions -/
theorem len_str (x : Tx) (t : Stt) : bi .len [.d (.str x)] t = if x.length ≤ 1000000 then .ok (.d (.int x.length)) t else .stk := rfl
theorem len_lst (x : List D) (t : Stt) : bi .len [.d (.lst x)] t = .ok (.d (.int x.length)) t := by simp [bi, items?]
theorem len_tup (x : List D) (t : Stt) : bi .len [.d (.tup x)] t = .ok (.d (.int x.length)) t := by simp [bi, items?]
theorem len_klst (x : List D) (t : Stt) : bi .len [.d (.klst x)] t = .ok (.d (.int x.length)) t := by simp [bi, items?]
theorem len_ref (n : Nat) (t : Stt) : bi .len [.d (.ref n)] t = okW t ((itS t.S[n]?).map fun xs => .int xs.length) := by
  show (match itS t.S[n]? with | some xs => R.ok (W.d (.int xs.length)) t | none => .stk) = _
  cases itS t.S[n]? <;> rfl
theorem len_loc (n : Nat) (t : Stt) : bi .len [.loc n] t = okW t ((itL t.L[n]?).map fun xs => .int xs.length) := by
  show (match itL t.L[n]? with | some xs => R.ok (W.d (.int xs.length)) t | none => .stk) = _
  cases itL t.L[n]? <;> rfl
theorem isi_d (ty : Ty) (x : D) (t : Stt) : bi (.isi ty) [.d x] t = okW t ((isTy ty x).map .bl) := by
  show (match isTy ty x with | some k => R.ok (W.d (.bl k)) t | none => .stk) = _
  cases isTy ty x <;> rfl
theorem str_int (i : Int) (t : Stt) : bi .str [.d (.int i)] t = if i.natAbs.log2 < 1920 then .ok (.d (.str (toString i).toList)) t else .stk := rfl
theorem int_int (i : Int) (t : Stt) : bi .int [.d (.int i)] t = .ok (.d (.int i)) t := rfl
theorem int_bl (k : Bool) (t : Stt) : bi .int [.d (.bl k)] t = .ok (.d (.int (if k then 1 else 0))) t := rfl
theorem int_str (x : Tx) (t : Stt) : bi .int [.d (.str x)] t = okW t ((intOf? x).map .int) := by
  show (match intOf? x with | some n => R.ok (W.d (.int n)) t | none => .stk) = _
  cases intOf? x <;> rfl
theorem list_str (o : Own) (x : Tx) (t : Stt) : bi (.list o) [.d (.str x)] t = if x.length ≤ 1000000 then mkLst o ((signsOf x).map .d) t else .stk := rfl
theorem list_lst (o : Own) (x : List D) (t : Stt) : bi (.list o) [.d (.lst x)] t = mkLst o (x.map .d) t := rfl
theorem list_tup (o : Own) (x : List D) (t : Stt) : bi (.list o) [.d (.tup x)] t = mkLst o (x.map .d) t := rfl
theorem list_ref (o : Own) (n : Nat) (t : Stt) : bi (.list o) [.d (.ref n)] t = match itS t.S[n]? with | some xs => mkLst o xs t | none => .stk := rfl
theorem list_loc (o : Own) (n : Nat) (t : Stt) : bi (.list o) [.loc n] t = match itL t.L[n]? with | some xs => mkLst o xs t | none => .stk := rfl
theorem tuple_lst (x : List D) (t : Stt) : bi .tuple [.d (.lst x)] t = .ok (.d (.tup x)) t := by
  show (toDs (x.map W.d) t).bind _ = _
  rw [toDs_map]; rfl
theorem tuple_tup (x : List D) (t : Stt) : bi .tuple [.d (.tup x)] t = .ok (.d (.tup x)) t := by
  show (toDs (x.map W.d) t).bind _ = _
  rw [toDs_map]; rfl
theorem tuple_ref (n : Nat) (t : Stt) : bi .tuple [.d (.ref n)] t = match itS t.S[n]? with | some xs => (toDs xs t).bind fun ds t => .ok (.d (.tup ds)) t | none => .stk := rfl
theorem tuple_loc (n : Nat) (t : Stt) : bi .tuple [.loc n] t = match itL t.L[n]? with | some xs => (toDs xs t).bind fun ds t => .ok (.d (.tup ds)) t | none => .stk := rfl
theorem boolsOf_map (bs : List Bool) : boolsOf? (bs.map fun b => W.d (D.bl b)) = some bs := by
  induction bs with
  | nil => rfl
  | cons b r ih => simp [boolsOf?, ih]
theorem all_lst (bs : List Bool) (t : Stt) : bi .all [.d (.lst (bs.map D.bl))] t = .ok (.d (.bl (bs.all id))) t := by
  have := boolsOf_map bs
  simp [bi, lstOnly?, items?]
  rw [show (W.d ∘ D.bl) = fun b => W.d (D.bl b) from rfl, this]
theorem max_ii (a b : Int) (t : Stt) : bi .max2 [.d (.int a), .d (.int b)] t = .ok (.d (.int (if b > a then b else a))) t := rfl
theorem min_ii (a b : Int) (t : Stt) : bi .min2 [.d (.int a), .d (.int b)] t = .ok (.d (.int (if b < a then b else a))) t := rfl
theorem repr_d (x : D) (t : Stt) : bi .repr [.d x] t = if (D.pd? x).isSome ∧ x.wt ≤ 1000000 ∧ x.dp ≤ 8 ∧ x.shw = true then .ok (.d (.rep x)) t else .stk := by
  show (match x.pd? with | some p => if x.wt ≤ LIM ∧ x.dp ≤ 8 ∧ x.shw = true then R.ok (W.d (.rep x)) t else .stk | none => .stk) = _
  cases h : x.pd? with
  | none => simp
  | some p =>
    by_cases hc : x.wt ≤ LIM ∧ x.dp ≤ 8 ∧ x.shw = true
    · rw [if_pos (show (some p).isSome ∧ x.wt ≤ 1000000 ∧ x.dp ≤ 8 ∧ x.shw = true from ⟨rfl, hc⟩)]; exact if_pos hc
    · rw [if_neg (show ¬((some p).isSome ∧ x.wt ≤ 1000000 ∧ x.dp ≤ 8 ∧ x.shw = true) from fun h => hc h.2)]; exact if_neg hc
theorem bool_bl (k : Bool) (t : Stt) : bi .bool [.d (.bl k)] t = .ok (.d (.bl k)) t := rfl
theorem bool_int (k : Int) (t : Stt) : bi .bool [.d (.int k)] t = .ok (.d (.bl (k != 0))) t := rfl
theorem bool_lst (x : List D) (t : Stt) : bi .bool [.d (.lst x)] t = .ok (.d (.bl (!x.isEmpty))) t := by cases x <;> rfl
theorem bool_ref (n : Nat) (t : Stt) : bi .bool [.d (.ref n)] t = okW t ((itS t.S[n]?).map fun xs => .bl (!xs.isEmpty)) := by
  show (match itS t.S[n]? with | some xs => R.ok (W.d (.bl (!xs.isEmpty))) t | none => .stk) = _
  cases itS t.S[n]? <;> rfl
/-! methods -/
def wrS (n : Nat) (t : Stt) (f : List W → Option (List W × W)) : Option SC → R W
  | some (.lst xs) => match f (xs.map .d) with
    | some (ys, r) => match dsOf? ys with
      | some zs => if zs.length < LIM then .ok r { t with S := t.S.set n (.lst zs) } else .stk
      | none => .stk
    | none => .stk
  | _ => .stk
def wrL (i : Nat) (t : Stt) (f : List W → Option (List W × W)) : Option LC → R W
  | some (.lst false xs) => match f xs with
      | some (ys, r) => if ys.length < LIM then .ok r { t with L := t.L.set i (.lst false ys) } else .stk
      | none => .stk
  | _ => .stk
theorem wr_ref (n : Nat) (f : List W → Option (List W × W)) (t : Stt) : writeL (.d (.ref n)) f t = wrS n t f t.S[n]? := rfl
theorem wr_loc (n : Nat) (f : List W → Option (List W × W)) (t : Stt) : writeL (.loc n) f t = wrL n t f t.L[n]? := rfl
theorem wrS_l (n : Nat) (t : Stt) (f : List W → Option (List W × W)) (xs : List D) : wrS n t f (some (.lst xs)) = match f (xs.map .d) with
    | some (ys, r) => match dsOf? ys with
      | some zs => if zs.length < 1000000 then .ok r { t with S := t.S.set n (.lst zs) } else .stk
      | none => .stk
    | none => .stk := rfl
theorem wrL_l (n : Nat) (t : Stt) (f : List W → Option (List W × W)) (xs : List W) : wrL n t f (some (.lst false xs)) = match f xs with
    | some (ys, r) => if ys.length < 1000000 then .ok r { t with L := t.L.set n (.lst false ys) } else .stk
    | none => .stk := rfl
theorem bm_append (o x : W) (t : Stt) : bm .append o [x] t = writeL o (fun xs => some (xs ++ [x], .d .non)) t := rfl
theorem bm_extend (o x : W) (t : Stt) : bm .extend o [x] t = match extOnly? t x with | some ys => writeL o (fun xs => some (xs ++ ys, .d .non)) t | none => .stk := rfl
theorem bm_pop (o : W) (t : Stt) : bm .pop o [] t = writeL o (fun xs => xs.getLast?.map fun y => (xs.dropLast, y)) t := rfl
theorem bm_popAt (o : W) (i : Int) (t : Stt) : bm .popAt o [.d (.int i)] t = writeL o (fun xs => match idx xs.length i with
      | some k => xs[k]?.map fun y => (xs.eraseIdx k, y)
      | none => none) t := rfl
theorem strs_map (xs : List Tx) : strsOf? ((xs.map D.str).map W.d) = some xs := by
  induction xs with
  | nil => rfl
  | cons x r ih =>
    simp only [List.map_cons, strsOf?]
    rw [ih]; rfl
theorem bm_join (sep : Tx) (xs : List Tx) (t : Stt) : bm .join (.d (.str sep)) [.d (.lst (xs.map D.str))] t = if (xs.map (·.length)).sum + xs.length * sep.length ≤ 1000000 then .ok (.d (.str (joinL sep xs))) t else .stk := by
  show (match (some ((xs.map D.str).map W.d) : Option (List W)) with | some ws => (match strsOf? ws with | some (ss : List Tx) => if (ss.map fun y : Tx => y.length).sum + ss.length * sep.length ≤ LIM then R.ok (W.d (.str (joinL sep ss))) t else .stk | none => .stk) | none => .stk) = _
  simp only [strs_map]
  rfl
theorem bm_split (c : Char) (x : Tx) (t : Stt) : bm .split (.d (.str x)) [.d (.str [c])] t = if x.length + 2 ≤ 1000000 then .ok (.d (.lst ((splitL c [] x).map .str))) t else .stk := rfl
def tyS : Option SC → Bool
  | some (.lst _) => true
  | _ => false
def tyL : Option LC → Bool
  | some (.lst _ _) => true
  | _ => false
theorem tyS_l (xs : List D) : tyS (some (.lst xs)) = true := rfl
theorem tyL_l (z : Bool) (xs : List W) : tyL (some (.lst z xs)) = true := rfl
theorem ty_ref (t : Stt) (m : Bm) (n : Nat) (h : m ≠ .join ∧ m ≠ .split) : bmTy t m (.d (.ref n)) = tyS t.S[n]? := by
  cases m <;> simp at h <;> (simp only [bmTy]; cases t.S[n]? with
    | none => rfl
    | some c => cases c <;> rfl)
theorem ty_app_ref (t : Stt) (n : Nat) : bmTy t .append (.d (.ref n)) = tyS t.S[n]? := ty_ref t _ n (by decide)
theorem ty_ext_ref (t : Stt) (n : Nat) : bmTy t .extend (.d (.ref n)) = tyS t.S[n]? := ty_ref t _ n (by decide)
theorem ty_pop_ref (t : Stt) (n : Nat) : bmTy t .pop (.d (.ref n)) = tyS t.S[n]? := ty_ref t _ n (by decide)
theorem ty_popAt_ref (t : Stt) (n : Nat) : bmTy t .popAt (.d (.ref n)) = tyS t.S[n]? := ty_ref t _ n (by decide)
theorem ty_loc (t : Stt) (m : Bm) (n : Nat) (h : m ≠ .join ∧ m ≠ .split) : bmTy t m (.loc n) = tyL t.L[n]? := by
  cases m <;> simp at h <;> (simp only [bmTy]; cases t.L[n]? with
    | none => rfl
    | some c => cases c <;> rfl)
theorem ty_app_loc (t : Stt) (n : Nat) : bmTy t .append (.loc n) = tyL t.L[n]? := ty_loc t _ n (by decide)
theorem ty_ext_loc (t : Stt) (n : Nat) : bmTy t .extend (.loc n) = tyL t.L[n]? := ty_loc t _ n (by decide)
theorem ty_pop_loc (t : Stt) (n : Nat) : bmTy t .pop (.loc n) = tyL t.L[n]? := ty_loc t _ n (by decide)
theorem ty_popAt_loc (t : Stt) (n : Nat) : bmTy t .popAt (.loc n) = tyL t.L[n]? := ty_loc t _ n (by decide)
theorem ty_join (t : Stt) (x : Tx) : bmTy t .join (.d (.str x)) = true := rfl
theorem ty_split (t : Stt) (x : Tx) : bmTy t .split (.d (.str x)) = true := rfl
theorem ss_set (o v : W) (k : Int) (t : Stt) : subsSet o (.d (.int k)) v t = (writeL o (fun xs => match idx xs.length k with
      | some j => some (xs.set j v, .d .non)
      | none => none) t).bind fun _ t => .ok () t := rfl
/-! fields, calls -/
def flS (x : Nat) : Option SC → Option D
  | some (.ins _ fs) => fs.lookup x
  | _ => none
theorem flS_i (x c : Nat) (fs : List (Nat × D)) : flS x (some (.ins c fs)) = fs.lookup x := rfl
theorem fl_ref (t : Stt) (n x : Nat) : fldOf t (.d (.ref n)) x = flS x t.S[n]? := by
  simp only [fldOf]
  cases t.S[n]? with
  | none => rfl
  | some c => cases c <;> rfl
theorem fin_o (t : Stt) (d : D) (S : List SC) : fin t (.ok d S) = .ok (.d d) ⟨t.L, S⟩ := rfl
theorem fin_x (t : Stt) (d : XD) (S : List SC) : fin t (.exc d S) = .exc d ⟨t.L, S⟩ := rfl
theorem pt_n (i : Nat) (w : W) (σ : Sg) (t : Stt) : putP (.name i) w σ t = .ok (σ.set i (some w)) t := rfl
theorem pt_2 (i j : Nat) (x y : D) (σ : Sg) (t : Stt) : putP (.tup [i, j]) (.d (.tup [x, y])) σ t = .ok ((σ.set i (some (.d x))).set j (some (.d y))) t := rfl
theorem pt_3 (i j k : Nat) (x y z : D) (σ : Sg) (t : Stt) : putP (.tup [i, j, k]) (.d (.tup [x, y, z])) σ t = .ok (((σ.set i (some (.d x))).set j (some (.d y))).set k (some (.d z))) t := rfl
theorem ef_r (d : D) (t : Stt) : endF (.ret (.d d) t) = .ok d t.S := by simp [endF, deepF]
theorem ef_n (σ : Sg) (t : Stt) : endF (.next σ t) = .ok .non t.S := rfl
theorem ef_x (x : XD) (σ : Sg) (t : Stt) : endF (.exc x σ t) = .exc x t.S := rfl
theorem fm_s (x : Tx) : fmtOf (.d (.str x)) = if x.length ≤ 1000000 then some x else none := rfl
theorem fm_i (i : Int) : fmtOf (.d (.int i)) = if i.natAbs.log2 < 1920 then some (toString i).toList else none := rfl
theorem fm_M (w : W) (t : Stt) : fmtM w t = okO t (fmtOf w) := by
  show (match fmtOf w with | some x => R.ok x t | none => .stk) = _
  cases fmtOf w <;> rfl
theorem lk_0 (v : D) (r : List (Nat × D)) : List.lookup 0 ((0, v) :: r) = some v := rfl
theorem lk_1 (u v : D) (r : List (Nat × D)) : List.lookup 1 ((0, u) :: (1, v) :: r) = some v := rfl
theorem lk_2 (u u1 v : D) (r : List (Nat × D)) : List.lookup 2 ((0, u) :: (1, u1) :: (2, v) :: r) = some v := rfl
theorem lk_3 (u u1 u2 v : D) (r : List (Nat × D)) : List.lookup 3 ((0, u) :: (1, u1) :: (2, u2) :: (3, v) :: r) = some v := rfl
theorem sr_lst (t : Stt) (xs : List D) : srcOf t (.d (.lst xs)) = some (.fix (xs.map .d)) := rfl
theorem sr_tup (t : Stt) (xs : List D) : srcOf t (.d (.tup xs)) = some (.fix (xs.map .d)) := rfl
theorem sr_klst (t : Stt) (xs : List D) : srcOf t (.d (.klst xs)) = some (.fix (xs.map .d)) := rfl
def srS (n : Nat) : Option SC → Option Src
  | some (.lst xs) => some (.shr n xs)
  | _ => none
def srL (n : Nat) : Option LC → Option Src
  | some (.lst _ xs) => some (.loc n xs)
  | _ => none
theorem srS_l (n : Nat) (xs : List D) : srS n (some (.lst xs)) = some (.shr n xs) := rfl
theorem srL_l (n : Nat) (z : Bool) (xs : List W) : srL n (some (.lst z xs)) = some (.loc n xs) := rfl
theorem sr_ref (t : Stt) (n : Nat) : srcOf t (.d (.ref n)) = srS n t.S[n]? := by
  simp only [srcOf]
  cases t.S[n]? with
  | none => rfl
  | some c => cases c <;> rfl
theorem sr_loc (t : Stt) (n : Nat) : srcOf t (.loc n) = srL n t.L[n]? := by
  simp only [srcOf]
  cases t.L[n]? with
  | none => rfl
  | some c => cases c <;> rfl
theorem si_fix (xs : List W) : (Src.fix xs).items = xs := rfl
theorem si_loc (i : Nat) (xs : List W) : (Src.loc i xs).items = xs := rfl
theorem si_shr (i : Nat) (xs : List D) : (Src.shr i xs).items = xs.map .d := rfl
/-! one rule a form; loops and comprehensions are left to their own rules -/
section
variable (Φ : Fns)
theorem e_var (i : Nat) (σ : Sg) (t : Stt) : evE Φ (.var i) σ t = match σ[i]? with | some (some w) => .ok w t | _ => .stk := by simp only [evE] <;> rfl
theorem e_con (d : D) (σ : Sg) (t : Stt) : evE Φ (.con d) σ t = .ok (.d d) t := by simp only [evE]
theorem e_bin (op : Bop) (a b : E) (σ : Sg) (t : Stt) : evE Φ (.bin op a b) σ t = (evE Φ a σ t).bind fun x t => (evE Φ b σ t).bind fun y t => bop op x y t := by simp only [evE]
theorem e_cmp (op : Cop) (a b : E) (σ : Sg) (t : Stt) : evE Φ (.cmp op a b) σ t = (evE Φ a σ t).bind fun x t => (evE Φ b σ t).bind fun y t => (cop op x y t).bind fun k t => .ok (.d (.bl k)) t := by simp only [evE]
theorem e_chain (op op' : Cop) (a b c : E) (σ : Sg) (t : Stt) : evE Φ (.chain op op' a b c) σ t = (evE Φ a σ t).bind fun x t => (evE Φ b σ t).bind fun y t => (cop op x y t).bind fun k t =>
      if k = true then (evE Φ c σ t).bind fun z t => (cop op' y z t).bind fun k t => .ok (.d (.bl k)) t else .ok (.d (.bl false)) t := by simp only [evE]
theorem e_and (a b : E) (σ : Sg) (t : Stt) : evE Φ (.and a b) σ t = (evE Φ a σ t).bind fun x t => (truth x t).bind fun k t => if k = true then evE Φ b σ t else .ok x t := by simp only [evE]
theorem e_or (a b : E) (σ : Sg) (t : Stt) : evE Φ (.or a b) σ t = (evE Φ a σ t).bind fun x t => (truth x t).bind fun k t => if k = true then .ok x t else evE Φ b σ t := by simp only [evE]
theorem e_not (a : E) (σ : Sg) (t : Stt) : evE Φ (.not a) σ t = (evE Φ a σ t).bind fun x t => (truth x t).bind fun k t => .ok (.d (.bl !k)) t := by simp only [evE]
theorem e_neg (a : E) (σ : Sg) (t : Stt) : evE Φ (.neg a) σ t = (evE Φ a σ t).bind fun x t => match x with
    | .d (.int i) => .ok (.d (.int (-i))) t
    | _ => .stk := by simp only [evE] <;> rfl
theorem e_ite (c a b : E) (σ : Sg) (t : Stt) : evE Φ (.ite c a b) σ t = (evE Φ c σ t).bind fun x t => (truth x t).bind fun k t => if k = true then evE Φ a σ t else evE Φ b σ t := by simp only [evE]
theorem e_tup (es : Es) (σ : Sg) (t : Stt) : evE Φ (.tup es) σ t = (evEs Φ es σ t).bind fun ws t => (toDs ws t).bind fun ds t => .ok (.d (.tup ds)) t := by simp only [evE]
theorem e_lst (o : Own) (es : Es) (σ : Sg) (t : Stt) : evE Φ (.lst o es) σ t = (evEs Φ es σ t).bind fun ws t => mkLst o ws t := by simp only [evE]
theorem e_ix (a i : E) (σ : Sg) (t : Stt) : evE Φ (.ix a i) σ t = (evE Φ a σ t).bind fun x t => (evE Φ i σ t).bind fun y t => subs x y t := by simp only [evE]
theorem e_call (f : Nat) (es : Es) (dfl : List D) (σ : Sg) (t : Stt) : evE Φ (.call f es dfl) σ t = (evEs Φ es σ t).bind fun ws t => (toDs ws t).bind fun ds t => fin t (Φ f (ds ++ dfl) t.S) := by simp only [evE]
theorem e_callk (f : Nat) (es ks : Es) (σ : Sg) (t : Stt) : evE Φ (.callk f es ks) σ t = (evEs Φ es σ t).bind fun ws t => (evEs Φ ks σ t).bind fun us t => (toDs (ws ++ us) t).bind fun ds t => fin t (Φ f ds t.S) := by simp only [evE]
theorem e_callv (i : Nat) (fs : List Nat) (es : Es) (σ : Sg) (t : Stt) : evE Φ (.callv i fs es) σ t = match σ[i]? with
    | some (some (.d (.fn f))) => if f ∈ fs then (evEs Φ es σ t).bind fun ws t => (toDs ws t).bind fun ds t => fin t (Φ f ds t.S) else .stk
    | _ => .stk := by simp only [evE] <;> rfl
/-- an instance of the class c -/
def insS (c : Nat) : Option SC → Bool
  | some (.ins c' _) => c' == c
  | _ => false
theorem insS_i (c c' : Nat) (fs : List (Nat × D)) : insS c (some (.ins c' fs)) = (c' == c) := rfl
theorem e_meth (c f : Nat) (o : E) (es : Es) (dfl : List D) (σ : Sg) (t : Stt) : evE Φ (.meth c f o es dfl) σ t = (evE Φ o σ t).bind fun x t => match x with
    | .d (.ref n) => if insS c t.S[n]? = true then (evEs Φ es σ t).bind fun ws t => (toDs ws t).bind fun ds t => fin t (Φ f (.ref n :: (ds ++ dfl)) t.S) else .stk
    | _ => .stk := by
  simp only [evE]
  congr 1
  funext x t
  cases x with
  | loc _ => rfl
  | d x => cases x with
    | ref n =>
      simp only
      cases t.S[n]? with
      | none => rfl
      | some k => cases k with
        | lst _ => rfl
        | ins c' fs => simp only [insS, beq_iff_eq]
    | _ => rfl
def mkF (t : Stt) : RF → R W
  | .ok .non S => .ok (.d (.ref t.S.length)) { t with S := S }
  | .ok _ _ => .stk
  | .exc x S => .exc x { t with S := S }
  | .stk => .stk
theorem mkF_o (t : Stt) (S : List SC) : mkF t (.ok .non S) = .ok (.d (.ref t.S.length)) ⟨t.L, S⟩ := rfl
theorem mkF_x (t : Stt) (x : XD) (S : List SC) : mkF t (.exc x S) = .exc x ⟨t.L, S⟩ := rfl
theorem e_make (c f : Nat) (es : Es) (dfl : List D) (σ : Sg) (t : Stt) : evE Φ (.make c f es dfl) σ t = (evEs Φ es σ t).bind fun ws t => (toDs ws t).bind fun ds t => mkF t (Φ f (.ref t.S.length :: (ds ++ dfl)) (t.S ++ [.ins c []])) := by
  simp only [evE]
  congr 1
theorem e_fld (o : E) (x : Nat) (σ : Sg) (t : Stt) : evE Φ (.fld o x) σ t = (evE Φ o σ t).bind fun w t => okW t (fldOf t w x) := by
  simp only [evE]
  congr 1
theorem e_bi (b : Bi) (es : Es) (σ : Sg) (t : Stt) : evE Φ (.bi b es) σ t = (evEs Φ es σ t).bind fun ws t => bi b ws t := by simp only [evE]
theorem e_bm (m : Bm) (o : E) (es : Es) (σ : Sg) (t : Stt) : evE Φ (.bm m o es) σ t = (evE Φ o σ t).bind fun x t => if bmTy t m x = true then (evEs Φ es σ t).bind fun ws t => bm m x ws t else .stk := by simp only [evE]
theorem e_fstr (es : Es) (σ : Sg) (t : Stt) : evE Φ (.fstr es) σ t = evFs Φ es [] σ t := by simp only [evE]
theorem s_set (p : Pat) (e : E) (σ : Sg) (t : Stt) : evS Φ (.set p e) σ t = (evE Φ e σ t).stm σ fun w t => (putP p w σ t).stm σ fun σ t => .next σ t := by simp only [evS]
theorem s_par (i j : Nat) (a b : E) (σ : Sg) (t : Stt) : evS Φ (.par i j a b) σ t = (evE Φ a σ t).stm σ fun v t => (evE Φ b σ t).stm σ fun w t => .next ((σ.set i (some v)).set j (some w)) t := by simp only [evS]
/-- a field written -/
def wfS (n x : Nat) (v : D) (σ : Sg) (t : Stt) : Option SC → RS
  | some (.ins c fs) => if fs.length < 900 then .next σ { t with S := t.S.set n (.ins c (putFl x v fs)) } else .stk
  | _ => .stk
theorem wfS_i (n x : Nat) (v : D) (σ : Sg) (t : Stt) (c : Nat) (fs : List (Nat × D)) : wfS n x v σ t (some (.ins c fs)) = if fs.length < 900 then .next σ ⟨t.L, t.S.set n (.ins c (putFl x v fs))⟩ else .stk := rfl
theorem s_setf (o : E) (x : Nat) (e : E) (σ : Sg) (t : Stt) : evS Φ (.setf o x e) σ t = (evE Φ e σ t).stm σ fun v t => (toD v t).stm σ fun v t => (evE Φ o σ t).stm σ fun w t => match w with
    | .d (.ref n) => wfS n x v σ t t.S[n]?
    | _ => .stk := by
  simp only [evS]
  congr 1
theorem s_seti (o i e : E) (σ : Sg) (t : Stt) : evS Φ (.seti o i e) σ t = (evE Φ e σ t).stm σ fun v t => (evE Φ o σ t).stm σ fun w t => (evE Φ i σ t).stm σ fun k t => (subsSet w k v t).stm σ fun _ t => .next σ t := by simp only [evS]
theorem s_ex (e : E) (σ : Sg) (t : Stt) : evS Φ (.ex e) σ t = (evE Φ e σ t).stm σ fun _ t => .next σ t := by simp only [evS]
theorem s_ret (e : E) (σ : Sg) (t : Stt) : evS Φ (.ret e) σ t = (evE Φ e σ t).stm σ fun w t => .ret w t := by simp only [evS]
theorem s_retN (σ : Sg) (t : Stt) : evS Φ .retN σ t = .ret (.d .non) t := by simp only [evS]
theorem s_ife (c : E) (a b : List S) (σ : Sg) (t : Stt) : evS Φ (.ife c a b) σ t = (tst Φ c σ t).stm σ fun k t => if k = true then evSs Φ a σ t else evSs Φ b σ t := by simp only [evS]
theorem s_rai (c : Nat) (es : Es) (σ : Sg) (t : Stt) : evS Φ (.rai c es) σ t = (evEs Φ es σ t).stm σ fun ws t => (toDs ws t).stm σ fun ds t => .exc ⟨c, ds.head?⟩ σ t := by simp only [evS]
theorem s_pas (σ : Sg) (t : Stt) : evS Φ .pas σ t = .next σ t := by simp only [evS]
theorem s_brk (σ : Sg) (t : Stt) : evS Φ .brk σ t = .brk σ t := by simp only [evS]
theorem s_cnt (σ : Sg) (t : Stt) : evS Φ .cnt σ t = .cnt σ t := by simp only [evS]
theorem s_nil (σ : Sg) (t : Stt) : evSs Φ [] σ t = .next σ t := by simp only [evSs]
theorem s_cons (s : S) (r : List S) (σ : Sg) (t : Stt) : evSs Φ (s :: r) σ t = (evS Φ s σ t).seq fun σ t => evSs Φ r σ t := by simp only [evSs]
theorem t_tst (c : E) (σ : Sg) (t : Stt) : tst Φ c σ t = (evE Φ c σ t).bind fun x t => truth x t := rfl
theorem q_seq (e : E) (σ : Sg) (t : Stt) : evIt Φ (.seq e) σ t = (evE Φ e σ t).bind fun w t => okO t (srcOf t w) := by
  simp only [evIt]
  congr 1
  funext w t
  cases srcOf t w <;> rfl
theorem q_str (e : E) (σ : Sg) (t : Stt) : evIt Φ (.str e) σ t = (evE Φ e σ t).bind fun w t => match w with
    | .d (.str x) => if x.length ≤ LIM then .ok (.fix ((signsOf x).map .d)) t else .stk
    | _ => .stk := by simp only [evIt] <;> rfl
theorem q_r1 (e : E) (σ : Sg) (t : Stt) : evIt Φ (.range1 e) σ t = (evE Φ e σ t).bind fun w t => match w with
    | .d (.int n) => if n < 1000000000 ∧ -1000000000 < n then .ok (.fix (rngItems 0 n.toNat)) t else .stk
    | _ => .stk := by simp only [evIt] <;> rfl
theorem q_r2 (a b : E) (σ : Sg) (t : Stt) : evIt Φ (.range2 a b) σ t = (evE Φ a σ t).bind fun v t => (evE Φ b σ t).bind fun w t => match v, w with
    | .d (.int m), .d (.int n) => if n < 1000000000 ∧ -1000000000 < n ∧ m < 1000000000 ∧ -1000000000 < m then .ok (.fix (rngItems m (n - m).toNat)) t else .stk
    | _, _ => .stk := by simp only [evIt] <;> rfl
end
/-! the shared cells -/
theorem set_get {S : List SC} {p : Nat} {x y : SC} (h : S[p]? = some x) : (S.set p y)[p]? = some y := by
  rw [List.getElem?_set_self]
  exact (List.getElem?_eq_some_iff.mp h).1
theorem set_get_ne {S : List SC} {p q : Nat} {x y : SC} (h : S[q]? = some x) (hne : p ≠ q) : (S.set p y)[q]? = some x := by
  rw [List.getElem?_set_ne hne]; exact h
theorem at_app {S : List SC} {r : Nat} {x : SC} (c : List SC) (h : S[r]? = some x) : (S ++ c)[r]? = some x := by
  rw [List.getElem?_append_left (List.getElem?_eq_some_iff.mp h).1, h]
theorem at_new (S : List SC) (x : SC) : (S ++ [x])[S.length]? = some x := by rw [List.getElem?_append_right (Nat.le_refl _)]; simp
theorem set_new (S : List SC) (x y : SC) : (S ++ [x]).set S.length y = S ++ [y] := by rw [List.set_append_right _ _ (Nat.le_refl _)]; simp
theorem set_app {S : List SC} {r : Nat} {x : SC} (c : List SC) (y : SC) (h : S[r]? = some x) : (S ++ c).set r y = S.set r y ++ c := by
  rw [List.set_append_left _ _ (List.getElem?_eq_some_iff.mp h).1]
end MP
end

/-! text MPY -/
section
set_option Elab.async false
set_option linter.all false
set_option maxRecDepth 100000
namespace MP
/-! MPY: loops and comprehensions, by what holds at each turn -/
theorem s_whl (Φ : Fns) (c : E) (b : List S) (σ : Sg) (t : Stt) : evS Φ (.whl c b) σ t = whlL (tst Φ c) (evSs Φ b) FUEL σ t := by
  simp only [evS]
theorem s_fr (Φ : Fns) (p : Pat) (it : It) (b : List S) (σ : Sg) (t : Stt) : evS Φ (.fr p it b) σ t = (evIt Φ it σ t).stm σ fun src t => forL src p (evSs Φ b) src.items σ t := by
  simp only [evS]
/-- a while of m turns, told turn by turn -/
theorem whlF {test : Sg → M Bool} {body : Sg → Stt → RS} (σf : Nat → Sg) (tf : Nat → Stt) (m : Nat)
    (hb : ∀ i, i < m → test (σf i) (tf i) = .ok true (tf i) ∧ body (σf i) (tf i) = .next (σf (i + 1)) (tf (i + 1))) (he : test (σf m) (tf m) = .ok false (tf m)) :
    ∀ N i, i ≤ m → m - i < N → whlL test body N (σf i) (tf i) = .next (σf m) (tf m)
  | 0, i, _, h => absurd h (by omega)
  | N + 1, i, h1, h2 => by
    unfold whlL
    by_cases e : i = m
    · subst e
      rw [he]; simp
    · obtain ⟨a, b⟩ := hb i (by omega)
      rw [a]
      simp only [R.stm_ok, if_true, b]
      exact whlF σf tf m hb he N (i + 1) (by omega) (by omega)
theorem S_whlF {Φ : Fns} {c : E} {b : List S} (σf : Nat → Sg) (tf : Nat → Stt) (m : Nat) (hm : m < 900000)
    (hb : ∀ i, i < m → tst Φ c (σf i) (tf i) = .ok true (tf i) ∧ evSs Φ b (σf i) (tf i) = .next (σf (i + 1)) (tf (i + 1))) (he : tst Φ c (σf m) (tf m) = .ok false (tf m)) :
    evS Φ (.whl c b) (σf 0) (tf 0) = .next (σf m) (tf m) := by
  rw [s_whl]
  exact whlF σf tf m hb he FUEL 0 (by omega) (Nat.lt_of_lt_of_le (show m - 0 < 900000 by omega) (by decide))
theorem whl_inv {test : Sg → M Bool} {body : Sg → Stt → RS} (I : Nat → Sg → Stt → Prop) (m : Nat)
    (hb : ∀ i σ t, i < m → I i σ t → ∃ σ2 t2, test σ t = .ok true t ∧ body σ t = .next σ2 t2 ∧ I (i + 1) σ2 t2) (he : ∀ σ t, I m σ t → test σ t = .ok false t) :
    ∀ (N i : Nat) (σ : Sg) (t : Stt), i ≤ m → m - i < N → I i σ t → ∃ σ' t', whlL test body N σ t = .next σ' t' ∧ I m σ' t'
  | 0, _, _, _, _, h, _ => absurd h (by omega)
  | N + 1, i, σ, t, h1, h2, h => by
    by_cases e : i = m
    · subst e
      refine ⟨σ, t, ?_, h⟩
      unfold whlL
      rw [he σ t h]
      simp
    · obtain ⟨σ2, t2, e1, e2, h3⟩ := hb i σ t (by omega) h
      obtain ⟨σ', t', e3, h4⟩ := whl_inv I m hb he N (i + 1) σ2 t2 (by omega) (by omega) h3
      refine ⟨σ', t', ?_, h4⟩
      unfold whlL
      rw [e1]
      simp only [R.stm_ok, if_true, e2]
      exact e3
/-- a loop over what is walked, told turn by turn -/
theorem forF {src : Src} {p : Pat} {body : Sg → Stt → RS} (σf : Nat → Sg) (tf : Nat → Stt) (hs : ∀ i, i ≤ src.items.length → src.still (tf i) = true)
    (hb : ∀ i (h : i < src.items.length), ∃ σ1, putP p src.items[i] (σf i) (tf i) = .ok σ1 (tf i) ∧ body σ1 (tf i) = .next (σf (i + 1)) (tf (i + 1))) :
    ∀ (k i : Nat) (rest : List W), rest = src.items.drop i → rest.length = k → i + k = src.items.length → forL src p body rest (σf i) (tf i) = .next (σf src.items.length) (tf src.items.length)
  | 0, i, rest, hr, hk, hi => by
    have : rest = [] := List.length_eq_zero_iff.mp hk
    subst this
    unfold forL
    rw [if_pos (hs i (by omega))]
    rw [show i = src.items.length by omega]
  | k + 1, i, rest, hr, hk, hi => by
    have hlt : i < src.items.length := by omega
    have hd := List.drop_eq_getElem_cons hlt
    rw [hd] at hr
    subst hr
    obtain ⟨σ1, e1, e2⟩ := hb i hlt
    unfold forL
    rw [if_pos (hs i (by omega)), e1, R.stm_ok, e2]
    exact forF σf tf hs hb k (i + 1) _ rfl (by simp at hk ⊢; omega) (by omega)
theorem S_forF {Φ : Fns} {p : Pat} {it : It} {b : List S} {src : Src} {σ : Sg} {t : Stt} (σf : Nat → Sg) (tf : Nat → Stt) (n : Nat) (hit : evIt Φ it σ t = .ok src (tf 0)) (h0 : σ = σf 0) (hn : src.items.length = n) (hs : ∀ i, i ≤ n → src.still (tf i) = true)
    (hb : ∀ i (h : i < src.items.length), ∃ σ1, putP p src.items[i] (σf i) (tf i) = .ok σ1 (tf i) ∧ evSs Φ b σ1 (tf i) = .next (σf (i + 1)) (tf (i + 1))) :
    evS Φ (.fr p it b) σ t = .next (σf n) (tf n) := by
  subst hn h0
  rw [s_fr, hit, R.stm_ok]
  exact forF σf tf hs hb _ 0 _ rfl rfl (by omega)
theorem forL_inv {src : Src} {p : Pat} {body : Sg → Stt → RS} (I : Nat → Sg → Stt → Prop) (hs : ∀ i σ t, I i σ t → src.still t = true)
    (hb : ∀ i w σ t, src.items[i]? = some w → I i σ t → ∃ σ1 σ2 t2, putP p w σ t = .ok σ1 t ∧ body σ1 t = .next σ2 t2 ∧ I (i + 1) σ2 t2) :
    ∀ (k : Nat) (rest : List W) (i : Nat) (σ : Sg) (t : Stt), rest = src.items.drop i → rest.length = k → I i σ t → ∃ σ' t', forL src p body rest σ t = .next σ' t' ∧ I (i + k) σ' t'
  | 0, rest, i, σ, t, hr, hk, h => by
    have : rest = [] := List.length_eq_zero_iff.mp hk
    subst this
    refine ⟨σ, t, ?_, h⟩
    unfold forL
    rw [if_pos (hs i σ t h)]
  | k + 1, rest, i, σ, t, hr, hk, h => by
    cases rest with
    | nil => simp at hk
    | cons w r =>
      have hi : src.items[i]? = some w := by
        have := congrArg (fun l => l[0]?) hr
        simp at this
        exact this.symm
      have hr2 : r = src.items.drop (i + 1) := by
        have := congrArg List.tail hr
        simp at this
        exact this
      obtain ⟨σ1, σ2, t2, e1, e2, h2⟩ := hb i w σ t hi h
      obtain ⟨σ', t', e3, h3⟩ := forL_inv I hs hb k r (i + 1) σ2 t2 hr2 (by simpa using hk) h2
      refine ⟨σ', t', ?_, by rw [show i + (k + 1) = i + 1 + k by omega]; exact h3⟩
      unfold forL
      rw [if_pos (hs i σ t h), e1, R.stm_ok, e2]
      exact e3
theorem for_ok {src : Src} {p : Pat} {body : Sg → Stt → RS} {σ : Sg} {t : Stt} (I : Nat → Sg → Stt → Prop) (h0 : I 0 σ t) (hs : ∀ i σ t, I i σ t → src.still t = true)
    (hb : ∀ i w σ t, src.items[i]? = some w → I i σ t → ∃ σ1 σ2 t2, putP p w σ t = .ok σ1 t ∧ body σ1 t = .next σ2 t2 ∧ I (i + 1) σ2 t2) :
    ∃ σ' t', forL src p body src.items σ t = .next σ' t' ∧ I src.items.length σ' t' := by
  obtain ⟨σ', t', e, h⟩ := forL_inv I hs hb src.items.length src.items 0 σ t (by simp) rfl h0
  exact ⟨σ', t', e, by simpa using h⟩
theorem S_for {Φ : Fns} {p : Pat} {it : It} {b : List S} {src : Src} {σ : Sg} {t t1 : Stt} (I : Nat → Sg → Stt → Prop) (hit : evIt Φ it σ t = .ok src t1) (h0 : I 0 σ t1) (hs : ∀ i σ t, I i σ t → src.still t = true)
    (hb : ∀ i w σ t, src.items[i]? = some w → I i σ t → ∃ σ1 σ2 t2, putP p w σ t = .ok σ1 t ∧ evSs Φ b σ1 t = .next σ2 t2 ∧ I (i + 1) σ2 t2) :
    ∃ σ' t', evS Φ (.fr p it b) σ t = .next σ' t' ∧ I src.items.length σ' t' := by
  rw [s_fr, hit, R.stm_ok]
  exact for_ok I h0 hs hb
/-! comprehensions -/
theorem e_comp (Φ : Fns) (o : Own) (own : List Nat) (p : Pat) (it : It) (ifs : Es) (elt : E) (σ : Sg) (t : Stt) : evE Φ (.comp o own p it ifs elt) σ t = (evIt Φ it σ t).bind fun src t =>
      (compL src (fun x t => noX ((putP p x (wipeS σ own) t).bind fun σ t => (evIfs Φ ifs σ t).bind fun k t => if k = true then (evE Φ elt σ t).bind fun y t => .ok (some y) t else .ok none t)) src.items [] t).bind fun ws t => mkLst o ws t := by
  simp only [evE]
theorem compL_fix {src : Src} {body : W → M (Option W)} {t : Stt} (f : W → Option W) (hs : src.still t = true) : ∀ (xs : List W) (acc : List W), acc.length + xs.length < 1000000 → (∀ w ∈ xs, body w t = .ok (f w) t) → compL src body xs acc t = .ok (acc ++ xs.filterMap f) t
  | [], acc, _, _ => by simp [compL, hs]
  | x :: r, acc, hl, hb => by
    have e := hb x (by simp)
    have hl' : acc.length + (r.length + 1) < 1000000 := hl
    unfold compL
    rw [if_pos (by rw [hs, Bool.true_and]; exact decide_eq_true (show acc.length < 1000000 by omega)), e, R.bind_ok]
    cases hf : f x with
    | none =>
      rw [List.filterMap_cons_none hf]
      exact compL_fix f hs r acc (by omega) fun w hw => hb w (by simp [hw])
    | some y =>
      rw [List.filterMap_cons_some hf]
      simp only
      rw [compL_fix f hs r (acc ++ [y]) (by simp; omega) fun w hw => hb w (by simp [hw])]
      simp
/-- a list by value, whose items and test change nothing: `f` tells each item, or that it is left out -/
theorem comp_pure {Φ : Fns} {own : List Nat} {p : Pat} {it : It} {ifs : Es} {elt : E} {σ : Sg} {t t1 : Stt} {src : Src} {α : Type} (xs : List α) (g : α → D) (f : α → Option D) (hi : evIt Φ it σ t = .ok src t1) (hx : src.items = (xs.map g).map W.d) (hs : src.still t1 = true) (hl : xs.length < 1000000)
    (hb : ∀ x ∈ xs, ∃ σ1, putP p (.d (g x)) (wipeS σ own) t1 = .ok σ1 t1 ∧ ((f x = none ∧ evIfs Φ ifs σ1 t1 = .ok false t1) ∨ (∃ y, f x = some y ∧ evIfs Φ ifs σ1 t1 = .ok true t1 ∧ evE Φ elt σ1 t1 = .ok (.d y) t1))) :
    evE Φ (.comp .val own p it ifs elt) σ t = .ok (.d (.lst (xs.filterMap f))) t1 := by
  rw [e_comp, hi, R.bind_ok, hx]
  have main : ∀ (l : List α) (acc : List D), (∀ x ∈ l, x ∈ xs) → acc.length + l.length < 1000000 → compL src (fun x t => noX ((putP p x (wipeS σ own) t).bind fun σ t => (evIfs Φ ifs σ t).bind fun k t => if k = true then (evE Φ elt σ t).bind fun y t => .ok (some y) t else .ok none t)) ((l.map g).map W.d) (acc.map W.d) t1 = .ok ((acc ++ l.filterMap f).map W.d) t1 := by
    intro l
    induction l with
    | nil => intro acc _ _; simp [compL, hs]
    | cons x r ih =>
      intro acc hm hl'
      obtain ⟨σ1, e1, h⟩ := hb x (hm x (by simp))
      have hl2 : acc.length + (r.length + 1) < 1000000 := hl'
      simp only [List.map_cons]
      unfold compL
      rw [if_pos (by rw [hs, Bool.true_and]; exact decide_eq_true (show (acc.map W.d).length < 1000000 by rw [List.length_map]; omega))]
      rcases h with ⟨hf, e2⟩ | ⟨y, hf, e2, e3⟩
      · simp only [e1, R.bind_ok, e2, Bool.false_eq_true, if_false, noX_ok]
        rw [List.filterMap_cons_none hf]
        exact ih acc (fun z hz => hm z (by simp [hz])) (by omega)
      · simp only [e1, R.bind_ok, e2, if_true, e3, noX_ok]
        rw [List.filterMap_cons_some hf]
        have := ih (acc ++ [y]) (fun z hz => hm z (by simp [hz])) (by simp; omega)
        rw [List.map_append] at this
        simp only [List.map_cons, List.map_nil] at this
        rw [this]
        simp
  have m := main xs [] (fun x h => h) (by simpa using hl)
  simp only [List.map_nil, List.nil_append] at m
  rw [m, R.bind_ok, mk_val, toDs_map, R.bind_ok]
/-- the same without a test -/
theorem comp_mapv {Φ : Fns} {own : List Nat} {p : Pat} {it : It} {elt : E} {σ : Sg} {t t1 : Stt} {src : Src} {α : Type} (xs : List α) (g : α → D) (f : α → D) (hi : evIt Φ it σ t = .ok src t1) (hx : src.items = (xs.map g).map W.d) (hs : src.still t1 = true) (hl : xs.length < 1000000)
    (hb : ∀ x ∈ xs, ∃ σ1, putP p (.d (g x)) (wipeS σ own) t1 = .ok σ1 t1 ∧ evE Φ elt σ1 t1 = .ok (.d (f x)) t1) :
    evE Φ (.comp .val own p it .nil elt) σ t = .ok (.d (.lst (xs.map f))) t1 := by
  have := comp_pure (ifs := .nil) xs g (fun x => some (f x)) hi hx hs hl fun x hx => by
    obtain ⟨σ1, e1, e2⟩ := hb x hx
    exact ⟨σ1, e1, .inr ⟨_, rfl, by simp only [evIfs], e2⟩⟩
  rw [this]
  simp
def pushO (acc : List W) (o : Option W) : List W := match o with | some y => acc ++ [y] | none => acc
theorem compL_inv {src : Src} {body : W → M (Option W)} (I : Nat → List W → Stt → Prop) (hs : ∀ i a t, I i a t → src.still t = true)
    (hb : ∀ i w a t, src.items[i]? = some w → I i a t → a.length < LIM ∧ ∃ o t2, body w t = .ok o t2 ∧ I (i + 1) (pushO a o) t2) :
    ∀ (k : Nat) (rest : List W) (i : Nat) (a : List W) (t : Stt), rest = src.items.drop i → rest.length = k → I i a t → ∃ a' t', compL src body rest a t = .ok a' t' ∧ I (i + k) a' t'
  | 0, rest, i, a, t, hr, hk, h => by
    have : rest = [] := List.length_eq_zero_iff.mp hk
    subst this
    refine ⟨a, t, ?_, h⟩
    unfold compL
    rw [if_pos (hs i a t h)]
  | k + 1, rest, i, a, t, hr, hk, h => by
    cases rest with
    | nil => simp at hk
    | cons w r =>
      have hi : src.items[i]? = some w := by
        have := congrArg (fun l => l[0]?) hr
        simp at this
        exact this.symm
      have hr2 : r = src.items.drop (i + 1) := by
        have := congrArg List.tail hr
        simp at this
        exact this
      obtain ⟨hl, o, t2, e2, h2⟩ := hb i w a t hi h
      obtain ⟨a', t', e3, h3⟩ := compL_inv I hs hb k r (i + 1) (pushO a o) t2 hr2 (by simpa using hk) h2
      refine ⟨a', t', ?_, by rw [show i + (k + 1) = i + 1 + k by omega]; exact h3⟩
      unfold compL
      rw [hs i a t h, decide_eq_true hl]
      simp only [Bool.and_self, if_true]
      rw [e2, R.bind_ok]
      exact e3
theorem comp_ok' {src : Src} {body : W → M (Option W)} {t : Stt} (I : Nat → List W → Stt → Prop) (h0 : I 0 [] t) (hs : ∀ i a t, I i a t → src.still t = true)
    (hb : ∀ i w a t, src.items[i]? = some w → I i a t → a.length < LIM ∧ ∃ o t2, body w t = .ok o t2 ∧ I (i + 1) (pushO a o) t2) : ∃ a' t', compL src body src.items [] t = .ok a' t' ∧ I src.items.length a' t' := by
  obtain ⟨a', t', e, h⟩ := compL_inv I hs hb src.items.length src.items 0 [] t (by simp) rfl h0
  exact ⟨a', t', e, by simpa using h⟩
/-- of things by value that change nothing -/
theorem rng_at {lo : Int} {n i : Nat} {w : W} (h : (rngItems lo n)[i]? = some w) : i < n ∧ w = .d (.int (lo + i)) := by
  unfold rngItems at h
  rw [List.getElem?_map] at h
  cases e : (List.range n)[i]? with
  | none => rw [e] at h; cases h
  | some j =>
    rw [e] at h
    cases h
    obtain ⟨h1, h2⟩ := List.getElem?_eq_some_iff.mp e
    rw [List.length_range] at h1
    rw [List.getElem_range] at h2
    subst h2
    exact ⟨h1, rfl⟩
theorem rng_len (lo : Int) (n : Nat) : (rngItems lo n).length = n := by simp [rngItems]
theorem rng_get (lo : Int) (n i : Nat) (h : i < (rngItems lo n).length) : (rngItems lo n)[i] = .d (.int (lo + i)) := (rng_at (List.getElem?_eq_getElem h)).2
theorem still_fix (xs : List W) (t : Stt) : (Src.fix xs).still t = true := rfl
theorem rng_map (lo : Int) (n : Nat) : rngItems lo n = ((List.range n).map fun k : Nat => D.int (lo + k)).map W.d := by simp [rngItems]
theorem signs_map (x : Tx) : signsOf x = x.map fun c => .str [c] := rfl
/-! defs -/
theorem tw (tab : Nat → Option Fn) (n f : Nat) (ds : List D) (S : List SC) : tower tab (n + 1) f ds S = match tab f with | some fn => run (tower tab n) fn ds S | none => .stk := rfl
theorem tw_run {tab : Nat → Option Fn} {n f : Nat} {fn : Fn} {ds : List D} {S : List SC} (h : tab f = some fn) (hl : ds.length = fn.np) : tower tab (n + 1) f ds S = endF (evSs (tower tab n) fn.body (ds.map (fun d => some (.d d)) ++ List.replicate (fn.ns - fn.np) none) ⟨[], S⟩) := by
  rw [tw, h]
  show run _ _ _ _ = _
  unfold run
  rw [if_pos hl]
end MP
end

/-! text K82M -/
section
set_option Elab.async false
set_option linter.all false
set_option maxRecDepth 100000
set_option maxHeartbeats 4000000
namespace MP
/-- the purse -/
def Pu (S : List SC) (p N : Nat) : Prop := ∃ a b c : Int, S[p]? = some (.lst [.int a, .int b, .int c]) ∧ 0 ≤ b ∧ b < 10 ^ 40 ∧ 0 ≤ c ∧ c ≤ N
theorem Pu.mono {S : List SC} {p N M : Nat} (h : Pu S p N) (k : N ≤ M) : Pu S p M := by
  obtain ⟨a, b, c, h1, h2, h3, h4, h5⟩ := h
  exact ⟨a, b, c, h1, h2, h3, h4, by omega⟩
theorem bop_int (op : Bop) (a b : Int) (t : Stt) : bop op (.d (.int a)) (.d (.int b)) t = match bopI op a b with | some c => .ok (.d (.int c)) t | none => .stk := rfl
theorem bop_str (a b : Tx) (t : Stt) : bop .add (.d (.str a)) (.d (.str b)) t = if a.length + b.length ≤ LIM then .ok (.d (.str (a ++ b))) t else .stk := rfl
theorem pull_ok (n : Nat) {S : List SC} {p N : Nat} {m : Int} (h : Pu S p N) (hN : N ≤ 100000) (h0 : 0 < m) (h1 : m ≤ 1000) : ∃ v S', tower tab (n + 1) 30 [.ref p, .int m] S = .ok (.int v) S' ∧ 0 ≤ v ∧ v < m ∧ Pu S' p (N + 1) := by
  obtain ⟨a, b, c, e, b0, b1, c0, c1⟩ := h
  have g1 : ∀ z, bopI .fdiv z m = some (z / m) := fun z => bI_fdiv h0 (Int.lt_of_le_of_lt h1 (by decide))
  have g2 : ∀ z, bopI .mod z m = some (z % m) := fun z => bI_mod h0
  by_cases ha : 0 < a
  · refine ⟨a % m, S.set p (.lst [.int (a / m), .int b, .int c]), ?_, Int.emod_nonneg _ (by omega), Int.emod_lt_of_pos _ h0, a / m, b, c, set_get e, b0, b1, c0, by omega⟩
    rw [tw]
    simp [tab, a_law_pull, run, evSs, evS, tst, evE, evEs, subs, items?, e, nth, idx, cop, peek, cmpD, truth, ha, bop_int, g1, g2, bi, subsSet, writeL, dsOf?, dOf?, LIM, putP, endF, deepF]
  · obtain ⟨u, hu⟩ : ∃ u : Int, u = 26535897932384627 * (c + 1) := ⟨_, rfl⟩
    have f1 : bopI .mul 26535897932384627 (c + 1) = some u := by rw [hu]; exact bI_mul (by decide) (by decide) (by omega) (Int.lt_of_le_of_lt (show c + 1 ≤ 200000 by omega) (by decide))
    obtain ⟨x, hx⟩ : ∃ x : Int, x = b + u := ⟨_, rfl⟩
    have x1 : x < 2 ^ 200 := Int.lt_of_le_of_lt (show x ≤ 10 ^ 41 by omega) (by decide)
    have f2 : bopI .add b u = some x := by rw [hx]; rfl
    have f3 : bopI .pow x 3 = some (x ^ 3) := bI_pow (by omega) x1 (by decide) (by decide)
    obtain ⟨M, hM⟩ : ∃ M : Int, M = 10 ^ 41 + 289 := ⟨_, rfl⟩
    have f4 : bopI .pow 10 41 = some (10 ^ 41) := bI_pow (by decide) (by decide) (by decide) (by decide)
    have f5 : bopI .add (10 ^ 41) 289 = some M := by rw [hM]; rfl
    have M0 : 0 < M := by rw [hM]; decide
    have M1 : M < 2 ^ 200 := by rw [hM]; decide
    obtain ⟨y, hy⟩ : ∃ y : Int, y = x ^ 3 % M := ⟨_, rfl⟩
    have f6 : bopI .mod (x ^ 3) M = some y := by rw [hy]; exact bI_mod M0
    have y0 : 0 ≤ y := by rw [hy]; exact Int.emod_nonneg _ (by omega)
    have y1 : y < M := by rw [hy]; exact Int.emod_lt_of_pos _ M0
    have f7 : bopI .mul y y = some (y * y) := bI_mul y0 (Int.lt_trans y1 M1) y0 (Int.lt_trans y1 M1)
    have f8 : bopI .mul 88419716939937511 (c + 1) = some (88419716939937511 * (c + 1)) := bI_mul (by decide) (by decide) (by omega) (Int.lt_of_le_of_lt (show c + 1 ≤ 200000 by omega) (by decide))
    have f9 : bopI .pow 10 40 = some (10 ^ 40) := bI_pow (by decide) (by decide) (by decide) (by decide)
    obtain ⟨M2, hM2⟩ : ∃ M : Int, M = 10 ^ 40 + 31 := ⟨_, rfl⟩
    have f10 : bopI .add (10 ^ 40) 31 = some M2 := by rw [hM2]; rfl
    obtain ⟨z, hz⟩ : ∃ z : Int, z = (y * y + 88419716939937511 * (c + 1)) % M2 := ⟨_, rfl⟩
    have f11 : bopI .mod (y * y + 88419716939937511 * (c + 1)) M2 = some z := by rw [hz]; exact bI_mod (by rw [hM2]; decide)
    have f12 : bopI .pow 10 8 = some (10 ^ 8) := bI_pow (by decide) (by decide) (by decide) (by decide)
    have f13 : bopI .fdiv z (10 ^ 8) = some (z / 10 ^ 8) := bI_fdiv (by decide) (by decide)
    refine ⟨z / 10 ^ 8 % m, S.set p (.lst [.int a, .int b, .int (c + 1)]), ?_, Int.emod_nonneg _ (by omega), Int.emod_lt_of_pos _ h0, a, b, c + 1, set_get e, b0, b1, by omega, by omega⟩
    have e2 : (S.set p (.lst [.int a, .int b, .int (c + 1)]))[p]? = some (.lst [.int a, .int b, .int (c + 1)]) := set_get e
    rw [tw]
    simp [-Int.reducePow, -Int.reduceAdd, tab, a_law_pull, run, evSs, evS, tst, evE, evEs, subs, items?, e, e2, nth, idx, cop, peek, cmpD, truth, ha, bop_int, g1, g2, f1, f2, f3, f4, f5, f6, f7, f8, f9, f10, f11, f12, f13, bI_add, bi, subsSet, writeL, dsOf?, dOf?, LIM, putP, endF, deepF]
end MP
end

/-! text K82N -/
section
set_option Elab.async false
set_option linter.all false
set_option maxRecDepth 100000
set_option maxHeartbeats 4000000
namespace MP
theorem lenLim {n : Nat} (h : n ≤ 1000) : n ≤ LIM := Nat.le_trans h (by decide)
/-! ### loops -/
/-! ### the wear's pairs -/
def SGN : Tx := ['a', 'b', 'c', 'd', 'e', 'f']
def WRN : Tx := ['.', 'a', 'b', 'c', 'd', 'e', 'f']
def PR : List (Char × Char) := SGN.flatMap fun a => (WRN.filter fun b => b != a).map fun b => (a, b)
def pD (q : Char × Char) : D := .tup [.str [q.1], .str [q.2]]
def P (i : Nat) : D := pD (PR.getD i ('a', 'a'))
def POOL : List D := PR.map pD
theorem PR_len : PR.length = 36 := by decide
theorem par_ok (n : Nat) {S : List SC} {p N : Nat} (h : Pu S p N) (hN : N ≤ 90000) : ∃ m S', evE (tower tab (n + 1)) (.ix (.lst .val (.cons (.con (.int 0)) (.cons (.con (.int 1)) (.cons (.con (.int 2)) (.cons (.con (.int 20)) (.cons (.call 30 (.cons (.var 0) (.cons (.con (.int 21)) .nil)) []) .nil)))))) (.call 30 (.cons (.var 0) (.cons (.con (.int 5)) .nil)) [])) [some (.d (.ref p)), none, none, none, none, none, none] ⟨[], S⟩ = .ok (.d (.int m)) ⟨[], S'⟩ ∧ 0 ≤ m ∧ m ≤ 20 ∧ Pu S' p (N + 2) := by
  obtain ⟨v, S1, e1, v0, v1, h1⟩ := pull_ok n h (by omega) (m := 21) (by decide) (by decide)
  obtain ⟨u, S2, e2, u0, u1, h2⟩ := pull_ok n h1 (by omega) (m := 5) (by decide) (by decide)
  have hu : u = 0 ∨ u = 1 ∨ u = 2 ∨ u = 3 ∨ u = 4 := by omega
  rcases hu with rfl | rfl | rfl | rfl | rfl
  · exact ⟨0, S2, by simp [run, evSs, evS, tst, evE, evEs, evIfs, evIt, subs, items?, lstOnly?, extOnly?, nth, idx, cop, peek, cmpD, truth, bop_int, bop_str, bI_add, bI_sub, bi, bm, bmTy, isTy, subsSet, writeL, dsOf?, dOf?, LIM, putP, mkLst, toDs, toD, fin, endF, deepF, srcOf, Src.items, fldOf, putFl, compL, Src.still, evFs, fmtM, fmtOf, e1, e2], by decide, by decide, h2⟩
  · exact ⟨1, S2, by simp [run, evSs, evS, tst, evE, evEs, evIfs, evIt, subs, items?, lstOnly?, extOnly?, nth, idx, cop, peek, cmpD, truth, bop_int, bop_str, bI_add, bI_sub, bi, bm, bmTy, isTy, subsSet, writeL, dsOf?, dOf?, LIM, putP, mkLst, toDs, toD, fin, endF, deepF, srcOf, Src.items, fldOf, putFl, compL, Src.still, evFs, fmtM, fmtOf, e1, e2], by decide, by decide, h2⟩
  · exact ⟨2, S2, by simp [run, evSs, evS, tst, evE, evEs, evIfs, evIt, subs, items?, lstOnly?, extOnly?, nth, idx, cop, peek, cmpD, truth, bop_int, bop_str, bI_add, bI_sub, bi, bm, bmTy, isTy, subsSet, writeL, dsOf?, dOf?, LIM, putP, mkLst, toDs, toD, fin, endF, deepF, srcOf, Src.items, fldOf, putFl, compL, Src.still, evFs, fmtM, fmtOf, e1, e2], by decide, by decide, h2⟩
  · exact ⟨20, S2, by simp [run, evSs, evS, tst, evE, evEs, evIfs, evIt, subs, items?, lstOnly?, extOnly?, nth, idx, cop, peek, cmpD, truth, bop_int, bop_str, bI_add, bI_sub, bi, bm, bmTy, isTy, subsSet, writeL, dsOf?, dOf?, LIM, putP, mkLst, toDs, toD, fin, endF, deepF, srcOf, Src.items, fldOf, putFl, compL, Src.still, evFs, fmtM, fmtOf, e1, e2], by decide, by decide, h2⟩
  · exact ⟨v, S2, by simp [run, evSs, evS, tst, evE, evEs, evIfs, evIt, subs, items?, lstOnly?, extOnly?, nth, idx, cop, peek, cmpD, truth, bop_int, bop_str, bI_add, bI_sub, bi, bm, bmTy, isTy, subsSet, writeL, dsOf?, dOf?, LIM, putP, mkLst, toDs, toD, fin, endF, deepF, srcOf, Src.items, fldOf, putFl, compL, Src.still, evFs, fmtM, fmtOf, e1, e2], v0, by omega, h2⟩
def sPool : S := .fr (.name 2) (.str (.con (.str ['a', 'b', 'c', 'd', 'e', 'f']))) [.ex (.bm .extend (.var 1) (.cons (.comp .val [6] (.name 6) (.str (.con (.str ['.', 'a', 'b', 'c', 'd', 'e', 'f']))) (.cons (.cmp .ne (.var 6) (.var 2)) .nil) (.tup (.cons (.var 2) (.cons (.var 6) .nil)))) .nil))]
theorem pool_ok (Φ : Fns) (S : List SC) (r m : W) : evS Φ sPool [some r, some (.loc 1), none, none, some m, some (.loc 0), none] ⟨[.lst false [], .lst false []], S⟩ =
    .next [some r, some (.loc 1), some (.d (.str ['f'])), none, some m, some (.loc 0), none] ⟨[.lst false [], .lst false (POOL.map .d)], S⟩ := by rfl
end MP
end

/-! text K82O -/
section
set_option Elab.async false
set_option linter.all false
set_option maxRecDepth 100000
set_option maxHeartbeats 4000000
namespace MP
theorem map_erase {α β : Type} (f : α → β) : ∀ (l : List α) (k : Nat), (l.eraseIdx k).map f = (l.map f).eraseIdx k
  | [], _ => by simp
  | _ :: _, 0 => by simp
  | x :: l, k + 1 => by simp [map_erase f l k]
theorem erase_perm {α : Type} : ∀ {l : List α} {k : Nat} {y : α}, l[k]? = some y → (y :: l.eraseIdx k).Perm l
  | [], _, _, h => by simp at h
  | x :: l, 0, y, h => by simp at h; subst h; exact List.Perm.refl _
  | x :: l, k + 1, y, h => by
    have := erase_perm (l := l) (k := k) (y := y) (by simpa using h)
    exact (List.Perm.swap _ _ _).trans (this.cons x)
def wP (i : Nat) : W := .d (P i)
def sTurn : S := .ex (.bm .append (.var 5) (.cons (.bm .popAt (.var 1) (.cons (.call 30 (.cons (.var 0) (.cons (.bi .len (.cons (.var 1) .nil)) .nil)) []) .nil)) .nil))
theorem turn_step (n : Nat) {S : List SC} {p N : Nat} {m tv : W} {is ks : List Nat} (h : Pu S p N) (hN : N ≤ 90000) (h0 : 0 < ks.length) (h1 : ks.length ≤ 36) (h2 : is.length ≤ 36) :
    ∃ v k S', ks[v]? = some k ∧ Pu S' p (N + 1) ∧ evSs (tower tab (n + 1)) [sTurn] [some (.d (.ref p)), some (.loc 1), some (.d (.str ['f'])), some tv, some m, some (.loc 0), none] ⟨[.lst false (is.map wP), .lst false (ks.map wP)], S⟩ =
      .next [some (.d (.ref p)), some (.loc 1), some (.d (.str ['f'])), some tv, some m, some (.loc 0), none] ⟨[.lst false ((is ++ [k]).map wP), .lst false ((ks.eraseIdx v).map wP)], S'⟩ := by
  obtain ⟨v, S', e, v0, v1, hp⟩ := pull_ok n h (by omega) (m := ks.length) (by omega) (by omega)
  have hv : v.toNat < ks.length := by omega
  refine ⟨v.toNat, ks[v.toNat], S', List.getElem?_eq_getElem hv, hp, ?_⟩
  have l1 : (ks.map wP).length - 1 < 1000000 := by simp; omega
  have l2 : is.length + 1 < 1000000 := by omega
  have l3 : ks.length - 1 < 1000000 := by omega
  have hx := idxOk v0 v1
  unfold idx at hx
  have hm : (ks.eraseIdx v.toNat).map wP = (ks.map wP).eraseIdx v.toNat := map_erase _ _ _
  rw [hm]
  have v2 : (0 : Int) ≤ v := v0
  have v3 : v < (ks.length : Int) := v1
  have le : (ks.eraseIdx v.toNat).length < 1000000 := by rw [List.length_eraseIdx_of_lt hv]; omega
  simp [sTurn, run, evSs, evS, tst, evE, evEs, evIfs, evIt, subs, items?, lstOnly?, extOnly?, nth, idx, cop, peek, cmpD, truth, bop_int, bop_str, bI_add, bI_sub, bi, bm, bmTy, isTy, subsSet, writeL, dsOf?, dOf?, LIM, putP, mkLst, toDs, toD, fin, endF, deepF, srcOf, Src.items, fldOf, putFl, compL, Src.still, evFs, fmtM, fmtOf, e, hv, v2, v3, l1, l2, l3, List.length_eraseIdx_of_lt]
/-! ### sorted -/
theorem P_le : ∀ i, i < 36 → ∀ j, j < 36 → leD (P i) (P j) = decide (i ≤ j) := by decide +kernel
theorem P_al : ∀ i, i < 36 → ∀ j, j < 36 → alikeD (P i) (P j) = true := by decide +kernel
theorem P_ne : ∀ i, i < 36 → neTup (P i) = true ∧ (P i).dp ≤ 8 := by decide +kernel
theorem map_wP (is : List Nat) : is.map wP = (is.map P).map W.d := by simp [wP]
theorem sort_P {is : List Nat} (h : ∀ i ∈ is, i < 36) : (is.map P).mergeSort leD = (is.mergeSort fun i j => decide (i ≤ j)).map P := by
  rw [List.map_mergeSort]
  intro i hi j hj
  exact (P_le i (h i hi) j (h j hj)).symm
theorem sort_lt {is : List Nat} (h : is.Nodup) : (is.mergeSort fun i j => decide (i ≤ j)).Pairwise (· < ·) := by
  have h1 := List.pairwise_mergeSort (le := fun i j : Nat => decide (i ≤ j)) (by intro a b c; simp; omega) (by intro a b; simp; omega) is
  have h2 : (is.mergeSort fun i j => decide (i ≤ j)).Nodup := (List.mergeSort_perm is _).nodup_iff.mpr h
  refine (h1.and h2).imp fun {a b} q => ?_
  have q1 := of_decide_eq_true q.1
  have q2 := q.2
  omega
theorem sorted_ok {is : List Nat} {t : Stt} {z : Bool} {i : Nat} (hw : t.L[i]? = some (.lst z (is.map wP))) (h : ∀ j ∈ is, j < 36) (hl : is.length ≤ 1000) : bi (.sorted .val) [.loc i] t = .ok (.d (.lst ((is.mergeSort fun i j => decide (i ≤ j)).map P))) t := by
  have c : (allAlike (is.map P) && (is.map P).all neTup && decide ((is.map P).length ≤ LIM) && (is.map P).all fun d => decide (d.dp ≤ 8)) = true := by
    simp only [Bool.and_eq_true, allAlike, List.all_eq_true, List.mem_map]
    refine ⟨⟨⟨?_, ?_⟩, ?_⟩, ?_⟩
    · rintro a ⟨i, hi, rfl⟩ b ⟨j, hj, rfl⟩
      exact P_al i (h i hi) j (h j hj)
    · rintro a ⟨i, hi, rfl⟩
      exact (P_ne i (h i hi)).1
    · rw [List.length_map]; exact decide_eq_true (lenLim hl)
    · rintro a ⟨i, hi, rfl⟩
      exact decide_eq_true (P_ne i (h i hi)).2
  unfold bi
  simp only [lstOnly?, items?, hw]
  rw [map_wP, dsOf_map]
  simp only [c, if_true, mkLst]
  rw [toDs_map, R.bind_ok, sort_P h]
theorem tuple_ok (ds : List D) (t : Stt) : bi .tuple [.d (.lst ds)] t = .ok (.d (.tup ds)) t := by
  unfold bi
  simp only [items?]
  rw [toDs_map, R.bind_ok]
theorem seq_cons (Φ : Fns) (s : S) (r : List S) (σ : Sg) (t : Stt) : evSs Φ (s :: r) σ t = (evS Φ s σ t).seq fun σ t => evSs Φ r σ t := by simp only [evSs]
theorem POOL_eq : POOL = (List.range 36).map P := by decide +kernel
theorem rub_ok (n : Nat) {S : List SC} {p N : Nat} (h : Pu S p N) (hN : N ≤ 80000) : ∃ (js : List Nat) (S' : List SC), tower tab (n + 2) 34 [.ref p] S = .ok (.tup (js.map P)) S' ∧ js.Pairwise (· < ·) ∧ (∀ j ∈ js, j < 36) ∧ js.length ≤ 20 ∧ Pu S' p (N + 22) := by
  obtain ⟨m, S1, e1, m0, m1, h1⟩ := par_ok n h (by omega)
  have fe : ∃ σ' t', forL (.fix (rngItems 0 m.toNat)) (.name 3) (evSs (tower tab (n + 1)) [sTurn]) (Src.fix (rngItems 0 m.toNat)).items [some (.d (.ref p)), some (.loc 1), some (.d (.str ['f'])), none, some (.d (.int m)), some (.loc 0), none] ⟨[.lst false [], .lst false (POOL.map .d)], S1⟩ = .next σ' t' ∧
      ∃ (tv : Option W) (is ks : List Nat) (S' : List SC), σ' = [some (.d (.ref p)), some (.loc 1), some (.d (.str ['f'])), tv, some (.d (.int m)), some (.loc 0), none] ∧ t' = ⟨[.lst false (is.map wP), .lst false (ks.map wP)], S'⟩ ∧ (is ++ ks).Perm (List.range 36) ∧ is.length = (Src.fix (rngItems 0 m.toNat)).items.length ∧ Pu S' p (N + 2 + (Src.fix (rngItems 0 m.toNat)).items.length) := by
    refine for_ok (fun i σ t => ∃ (tv : Option W) (is ks : List Nat) (S' : List SC), σ = [some (.d (.ref p)), some (.loc 1), some (.d (.str ['f'])), tv, some (.d (.int m)), some (.loc 0), none] ∧ t = ⟨[.lst false (is.map wP), .lst false (ks.map wP)], S'⟩ ∧ (is ++ ks).Perm (List.range 36) ∧ is.length = i ∧ Pu S' p (N + 2 + i)) ?_ (fun _ _ _ _ => rfl) ?_
    · exact ⟨none, [], List.range 36, S1, rfl, by rw [POOL_eq, ← map_wP]; rfl, by simp, rfl, h1⟩
    · rintro i w σ t hw ⟨tv, is, ks, S', rfl, rfl, hp, hl, hpu⟩
      obtain ⟨hi, rfl⟩ := rng_at hw
      have hlen := hp.length_eq
      rw [List.length_append, List.length_range] at hlen
      obtain ⟨v, k, S2, hk, hp2, e2⟩ := turn_step n (m := .d (.int m)) (tv := .d (.int (0 + (i : Int)))) (is := is) (ks := ks) hpu (by omega) (by omega) (by omega) (by omega)
      refine ⟨_, _, _, rfl, e2, some (.d (.int (0 + (i : Int)))), is ++ [k], ks.eraseIdx v, S2, rfl, rfl, ?_, by simp [hl], by rw [show N + 2 + (i + 1) = N + 2 + i + 1 by omega]; exact hp2⟩
      refine List.Perm.trans ?_ hp
      rw [List.append_assoc]
      refine List.Perm.append_left _ ?_
      exact erase_perm hk
  obtain ⟨σ', t', e2, tv, is, ks, S', rfl, rfl, hp, hl, hpu⟩ := fe
  have hm : (Src.fix (rngItems 0 m.toNat)).items.length = m.toNat := rng_len _ _
  rw [hm] at hl hpu
  have hnd : (is ++ ks).Nodup := hp.nodup_iff.mpr List.nodup_range
  have hmem : ∀ j ∈ is, j < 36 := fun j hj => List.mem_range.mp (hp.mem_iff.mp (List.mem_append_left _ hj))
  refine ⟨is.mergeSort fun i j => decide (i ≤ j), S', ?_, sort_lt (List.nodup_append.mp hnd).1, fun j hj => hmem j (List.mem_mergeSort.mp hj), by rw [List.length_mergeSort]; omega, hpu.mono (by omega)⟩
  rw [tw_run (fn := a_law_wide_rub) rfl rfl]
  show endF (evSs (tower tab (n + 1)) [.par 4 5 _ (.lst .loc .nil), .set (.name 1) (.lst .loc .nil), sPool, .fr (.name 3) (.range1 (.var 4)) [sTurn], .ret (.bi .tuple (.cons (.bi (.sorted .val) (.cons (.var 5) .nil)) .nil))] [some (.d (.ref p)), none, none, none, none, none, none] ⟨[], S⟩) = _
  rw [seq_cons]
  simp only [evS]
  rw [e1]
  simp only [R.stm_ok, evE, evEs, mkLst, R.bind_ok, RS.seq_next]
  rw [seq_cons]
  simp only [evS, evE, evEs, mkLst, R.bind_ok, R.stm_ok, putP, RS.seq_next]
  rw [seq_cons]
  have e3 := pool_ok (tower tab (n + 1)) S1 (.d (.ref p)) (.d (.int m))
  show endF ((evS (tower tab (n + 1)) sPool [some (.d (.ref p)), some (.loc 1), none, none, some (.d (.int m)), some (.loc 0), none] ⟨[.lst false [], .lst false []], S1⟩).seq _) = _
  rw [e3, RS.seq_next, seq_cons]
  have hr : m < 1000000000 ∧ -1000000000 < m := by omega
  simp only [evS, evIt, evE, List.getElem?_cons_succ, List.getElem?_cons_zero, R.bind_ok, if_pos hr, R.stm_ok]
  rw [e2, RS.seq_next, seq_cons]
  have e5 := sorted_ok (t := ⟨[.lst false (is.map wP), .lst false (ks.map wP)], S'⟩) (z := false) (i := 0) rfl hmem (by omega)
  simp only [evS, evE, evEs, List.getElem?_cons_succ, List.getElem?_cons_zero, R.bind_ok]
  rw [e5]
  simp only [R.bind_ok]
  rw [tuple_ok]
  simp only [R.stm_ok, RS.seq_ret, endF, deepF]
end MP
end

/-! text K82P -/
section
set_option Elab.async false
set_option linter.all false
set_option maxRecDepth 100000
set_option maxHeartbeats 4000000
namespace MP
/-! ### books -/
def DD (q : Nat × Nat) : D := .tup [.int (q.1 / 6 : Nat), .str [SGN.getD (q.1 % 6) 'a'], .int q.2]
def sDoor : S := .ife (.cmp .lt (.call 30 (.cons (.var 0) (.cons (.con (.int 8)) .nil)) []) (.var 4)) [.ex (.bm .append (.var 5) (.cons (.tup (.cons (.var 2) (.cons (.var 6) (.cons (.call 30 (.cons (.var 0) (.cons (.var 1) .nil)) []) .nil)))) .nil))] []
theorem door_step (n : Nat) {S : List SC} {p N : Nat} {rooms thick i : Int} {ch : Char} {ds : List D} {s3 s7 s8 : Option W} (h : Pu S p N) (hN : N ≤ 80000) (r0 : 1 ≤ rooms) (r1 : rooms ≤ 12) (hl : ds.length ≤ 1000) :
    ∃ (ds' : List D) (S' : List SC), (ds' = ds ∨ ∃ k : Nat, (k : Int) < rooms ∧ ds' = ds ++ [.tup [.int i, .str [ch], .int k]]) ∧ Pu S' p (N + 2) ∧
      evSs (tower tab (n + 1)) [sDoor] [some (.d (.ref p)), some (.d (.int rooms)), some (.d (.int i)), s3, some (.d (.int thick)), some (.loc 0), some (.d (.str [ch])), s7, s8] ⟨[.lst false (ds.map .d)], S⟩ =
        .next [some (.d (.ref p)), some (.d (.int rooms)), some (.d (.int i)), s3, some (.d (.int thick)), some (.loc 0), some (.d (.str [ch])), s7, s8] ⟨[.lst false (ds'.map .d)], S'⟩ := by
  obtain ⟨v, S1, e1, v0, v1, h1⟩ := pull_ok n h (by omega) (m := 8) (by decide) (by decide)
  by_cases hv : v < thick
  · obtain ⟨u, S2, e2, u0, u1, h2⟩ := pull_ok n h1 (by omega) (m := rooms) (by omega) (by omega)
    have hu : ((u.toNat : Nat) : Int) = u := Int.toNat_of_nonneg u0
    refine ⟨ds ++ [.tup [.int i, .str [ch], .int u]], S2, .inr ⟨u.toNat, by omega, by rw [hu]⟩, h2, ?_⟩
    have l1 : ds.length + 1 < 1000000 := by omega
    simp [sDoor, run, evSs, evS, tst, evE, evEs, evIfs, evIt, subs, items?, lstOnly?, extOnly?, nth, idx, cop, peek, cmpD, truth, bop_int, bop_str, bI_add, bI_sub, bi, bm, bmTy, isTy, subsSet, writeL, dsOf?, dOf?, LIM, putP, mkLst, toDs, toD, fin, endF, deepF, srcOf, Src.items, fldOf, putFl, compL, Src.still, evFs, fmtM, fmtOf, e1, e2, hv, l1]
  · refine ⟨ds, S1, .inl rfl, h1.mono (by omega), ?_⟩
    simp [sDoor, run, evSs, evS, tst, evE, evEs, evIfs, evIt, subs, items?, lstOnly?, extOnly?, nth, idx, cop, peek, cmpD, truth, bop_int, bop_str, bI_add, bI_sub, bi, bm, bmTy, isTy, subsSet, writeL, dsOf?, dOf?, LIM, putP, mkLst, toDs, toD, fin, endF, deepF, srcOf, Src.items, fldOf, putFl, compL, Src.still, evFs, fmtM, fmtOf, e1, hv]
theorem sgn_at {i : Nat} {w : W} (h : (signsOf SGN |>.map W.d)[i]? = some w) : i < 6 ∧ w = .d (.str [SGN.getD i 'a']) := by
  have hi : i < 6 := by
    have := (List.getElem?_eq_some_iff.mp h).1
    simpa [signsOf, SGN] using this
  refine ⟨hi, ?_⟩
  have : i = 0 ∨ i = 1 ∨ i = 2 ∨ i = 3 ∨ i = 4 ∨ i = 5 := by omega
  rcases this with rfl | rfl | rfl | rfl | rfl | rfl <;> (simp [signsOf, SGN] at h; rw [← h]; rfl)
/-- the codes of a book's doors -/
def Codes (qs : List (Nat × Nat)) (b : Nat) (rooms : Int) : Prop := (qs.map (·.1)).Pairwise (· < ·) ∧ (∀ q ∈ qs, q.1 < b ∧ (q.2 : Int) < rooms)
theorem codes_len' : ∀ {l : List Nat} {a b : Nat}, l.Pairwise (· < ·) → (∀ x ∈ l, a ≤ x ∧ x < b) → l.length ≤ b - a
  | [], _, _, _, _ => Nat.zero_le _
  | x :: r, a, b, h, hb => by
    obtain ⟨h1, h2⟩ := List.pairwise_cons.mp h
    have q := hb x List.mem_cons_self
    have := codes_len' (a := x + 1) (b := b) h2 fun y hy => ⟨h1 y hy, (hb y (List.mem_cons_of_mem _ hy)).2⟩
    show r.length + 1 ≤ _
    omega
theorem codes_len {l : List Nat} {b : Nat} (h : l.Pairwise (· < ·)) (hb : ∀ x ∈ l, x < b) : l.length ≤ b := by
  have := codes_len' (a := 0) h fun x hx => ⟨Nat.zero_le _, hb x hx⟩
  omega
theorem Codes.snoc {qs : List (Nat × Nat)} {b k : Nat} {rooms : Int} (h : Codes qs b rooms) (hk : (k : Int) < rooms) : Codes (qs ++ [(b, k)]) (b + 1) rooms := by
  refine ⟨?_, fun q hq => ?_⟩
  · rw [List.map_append, List.pairwise_append]
    refine ⟨h.1, by simp, fun x hx y hy => ?_⟩
    simp at hy
    subst hy
    obtain ⟨q, hq, rfl⟩ := List.mem_map.mp hx
    exact (h.2 q hq).1
  · rcases List.mem_append.mp hq with hq | hq
    · exact ⟨by have := (h.2 q hq).1; omega, (h.2 q hq).2⟩
    · simp at hq
      subst hq
      exact ⟨Nat.lt_succ_self _, hk⟩
theorem Codes.mono {qs : List (Nat × Nat)} {b c : Nat} {rooms : Int} (h : Codes qs b rooms) (hc : b ≤ c) : Codes qs c rooms := ⟨h.1, fun q hq => ⟨by have := (h.2 q hq).1; omega, (h.2 q hq).2⟩⟩
theorem Codes.len {qs : List (Nat × Nat)} {b : Nat} {rooms : Int} (h : Codes qs b rooms) : qs.length ≤ b := by
  have := codes_len h.1 (b := b) fun x hx => by
    obtain ⟨q, hq, rfl⟩ := List.mem_map.mp hx
    exact (h.2 q hq).1
  simpa using this
def sDoors : S := .fr (.name 6) (.str (.con (.str ['a', 'b', 'c', 'd', 'e', 'f']))) [sDoor]
theorem doors_step (n : Nat) {S : List SC} {p N i : Nat} {rooms thick : Int} {qs : List (Nat × Nat)} {s3 s6 s7 s8 : Option W} (h : Pu S p N) (hN : N ≤ 70000) (r0 : 1 ≤ rooms) (r1 : rooms ≤ 12) (hi : i ≤ 12) (hq : Codes qs (i * 6) rooms) :
    ∃ (qs' : List (Nat × Nat)) (S' : List SC) (s6' : Option W), Codes qs' ((i + 1) * 6) rooms ∧ Pu S' p (N + 12) ∧
      evSs (tower tab (n + 1)) [sDoors] [some (.d (.ref p)), some (.d (.int rooms)), some (.d (.int (i : Nat))), s3, some (.d (.int thick)), some (.loc 0), s6, s7, s8] ⟨[.lst false ((qs.map DD).map .d)], S⟩ =
        .next [some (.d (.ref p)), some (.d (.int rooms)), some (.d (.int (i : Nat))), s3, some (.d (.int thick)), some (.loc 0), s6', s7, s8] ⟨[.lst false ((qs'.map DD).map .d)], S'⟩ := by
  have fe : ∃ σ' t', forL (.fix ((signsOf SGN).map .d)) (.name 6) (evSs (tower tab (n + 1)) [sDoor]) (Src.fix ((signsOf SGN).map .d)).items [some (.d (.ref p)), some (.d (.int rooms)), some (.d (.int (i : Nat))), s3, some (.d (.int thick)), some (.loc 0), s6, s7, s8] ⟨[.lst false ((qs.map DD).map .d)], S⟩ = .next σ' t' ∧
      ∃ (qs' : List (Nat × Nat)) (S' : List SC) (s6' : Option W), σ' = [some (.d (.ref p)), some (.d (.int rooms)), some (.d (.int (i : Nat))), s3, some (.d (.int thick)), some (.loc 0), s6', s7, s8] ∧ t' = ⟨[.lst false ((qs'.map DD).map .d)], S'⟩ ∧ Codes qs' (i * 6 + (Src.fix ((signsOf SGN).map .d)).items.length) rooms ∧ Pu S' p (N + 2 * (Src.fix ((signsOf SGN).map .d)).items.length) := by
    refine for_ok (fun j σ t => ∃ (qs' : List (Nat × Nat)) (S' : List SC) (s6' : Option W), σ = [some (.d (.ref p)), some (.d (.int rooms)), some (.d (.int (i : Nat))), s3, some (.d (.int thick)), some (.loc 0), s6', s7, s8] ∧ t = ⟨[.lst false ((qs'.map DD).map .d)], S'⟩ ∧ Codes qs' (i * 6 + j) rooms ∧ Pu S' p (N + 2 * j)) ?_ (fun _ _ _ _ => rfl) ?_
    · exact ⟨qs, S, s6, rfl, rfl, hq, h⟩
    · rintro j w σ t hw ⟨qs', S', s6', rfl, rfl, hc, hp⟩
      obtain ⟨hj, rfl⟩ := sgn_at hw
      have hl := hc.len
      obtain ⟨ds', S2, hd, hp2, e⟩ := door_step n (rooms := rooms) (thick := thick) (i := (i : Nat)) (ch := SGN.getD j 'a') (ds := qs'.map DD) (s3 := s3) (s7 := s7) (s8 := s8) hp (by omega) r0 r1 (by rw [List.length_map]; omega)
      rcases hd with rfl | ⟨k, hk, rfl⟩
      · exact ⟨_, _, _, rfl, e, qs', S2, some (.d (.str [SGN.getD j 'a'])), rfl, rfl, hc.mono (by omega), hp2.mono (by omega)⟩
      · refine ⟨_, _, _, rfl, e, qs' ++ [(i * 6 + j, k)], S2, some (.d (.str [SGN.getD j 'a'])), rfl, ?_, by rw [show i * 6 + (j + 1) = i * 6 + j + 1 by omega]; exact hc.snoc hk, hp2.mono (by omega)⟩
        have a1 : (i * 6 + j) / 6 = i := by omega
        have a2 : (i * 6 + j) % 6 = j := by omega
        simp only [List.map_append, List.map_cons, List.map_nil, DD, a1, a2]
  obtain ⟨σ', t', e, qs', S', s6', rfl, rfl, hc, hp⟩ := fe
  have hlen : (Src.fix ((signsOf SGN).map .d)).items.length = 6 := by decide
  rw [hlen] at hc hp
  refine ⟨qs', S', s6', by rw [show (i + 1) * 6 = i * 6 + 6 by omega]; exact hc, hp, ?_⟩
  have hz : (['a', 'b', 'c', 'd', 'e', 'f'] : Tx).length ≤ LIM := by decide
  rw [seq_cons]
  simp only [sDoors, evS, evIt, evE, R.bind_ok, if_pos hz, R.stm_ok]
  have e' := e
  show (forL (.fix ((signsOf SGN).map .d)) (.name 6) (evSs (tower tab (n + 1)) [sDoor]) (Src.fix ((signsOf SGN).map .d)).items _ _).seq _ = _
  rw [e']
  simp only [RS.seq_next, evSs]
/-! ### ends -/
def sEnd : S := .ife (.cmp .lt (.call 30 (.cons (.var 0) (.cons (.con (.int 3)) .nil)) []) (.var 7)) [.ex (.bm .append (.var 8) (.cons (.var 3) .nil))] []
def iD (k : Nat) : D := .int (k : Nat)
theorem end_step (n : Nat) {S : List SC} {p N i : Nat} {least : Int} {es : List Nat} {d0 : LC} {s1 s2 s4 s5 s6 : Option W} (h : Pu S p N) (hN : N ≤ 80000) (hl : es.length ≤ 1000) :
    ∃ (es' : List Nat) (S' : List SC), (es' = es ∨ es' = es ++ [i]) ∧ Pu S' p (N + 1) ∧
      evSs (tower tab (n + 1)) [sEnd] [some (.d (.ref p)), s1, s2, some (.d (.int (i : Nat))), s4, s5, s6, some (.d (.int least)), some (.loc 1)] ⟨[d0, .lst false ((es.map iD).map .d)], S⟩ =
        .next [some (.d (.ref p)), s1, s2, some (.d (.int (i : Nat))), s4, s5, s6, some (.d (.int least)), some (.loc 1)] ⟨[d0, .lst false ((es'.map iD).map .d)], S'⟩ := by
  obtain ⟨v, S1, e1, v0, v1, h1⟩ := pull_ok n h (by omega) (m := 3) (by decide) (by decide)
  by_cases hv : v < least
  · refine ⟨es ++ [i], S1, .inr rfl, h1, ?_⟩
    have l1 : es.length + 1 < 1000000 := by omega
    simp [sEnd, run, evSs, evS, tst, evE, evEs, evIfs, evIt, subs, items?, lstOnly?, extOnly?, nth, idx, cop, peek, cmpD, truth, bop_int, bop_str, bI_add, bI_sub, bi, bm, bmTy, isTy, subsSet, writeL, dsOf?, dOf?, LIM, putP, mkLst, toDs, toD, fin, endF, deepF, srcOf, Src.items, fldOf, putFl, compL, Src.still, evFs, fmtM, fmtOf, e1, hv, l1, iD]
  · refine ⟨es, S1, .inl rfl, h1, ?_⟩
    simp [sEnd, run, evSs, evS, tst, evE, evEs, evIfs, evIt, subs, items?, lstOnly?, extOnly?, nth, idx, cop, peek, cmpD, truth, bop_int, bop_str, bI_add, bI_sub, bi, bm, bmTy, isTy, subsSet, writeL, dsOf?, dOf?, LIM, putP, mkLst, toDs, toD, fin, endF, deepF, srcOf, Src.items, fldOf, putFl, compL, Src.still, evFs, fmtM, fmtOf, e1, hv]
def Inc (es : List Nat) (b : Nat) : Prop := es.Pairwise (· < ·) ∧ ∀ x ∈ es, x < b
theorem Inc.snoc {es : List Nat} {b : Nat} (h : Inc es b) : Inc (es ++ [b]) (b + 1) := by
  refine ⟨?_, fun x hx => ?_⟩
  · rw [List.pairwise_append]
    exact ⟨h.1, by simp, fun x hx y hy => by simp at hy; subst hy; exact h.2 x hx⟩
  · rcases List.mem_append.mp hx with hx | hx
    · have := h.2 x hx; omega
    · simp at hx; omega
theorem Inc.mono {es : List Nat} {b c : Nat} (h : Inc es b) (hc : b ≤ c) : Inc es c := ⟨h.1, fun x hx => by have := h.2 x hx; omega⟩
theorem Inc.len {es : List Nat} {b : Nat} (h : Inc es b) : es.length ≤ b := codes_len h.1 h.2
def eRooms : E := .ix (.lst .val (.cons (.con (.int 1)) (.cons (.con (.int 2)) (.cons (.con (.int 3)) (.cons (.con (.int 12)) (.cons (.con (.int 10)) (.cons (.con (.int 11)) (.cons (.bin .add (.con (.int 1)) (.call 30 (.cons (.var 0) (.cons (.con (.int 12)) .nil)) [])) .nil)))))))) (.call 30 (.cons (.var 0) (.cons (.con (.int 7)) .nil)) [])
theorem rooms_ok (n : Nat) {S : List SC} {p N : Nat} {r : Sg} {L : List LC} (h : Pu S p N) (hN : N ≤ 90000) : ∃ m S', evE (tower tab (n + 1)) eRooms (some (.d (.ref p)) :: r) ⟨L, S⟩ = .ok (.d (.int m)) ⟨L, S'⟩ ∧ 1 ≤ m ∧ m ≤ 12 ∧ Pu S' p (N + 2) := by
  obtain ⟨v, S1, e1, v0, v1, h1⟩ := pull_ok n h (by omega) (m := 12) (by decide) (by decide)
  obtain ⟨u, S2, e2, u0, u1, h2⟩ := pull_ok n h1 (by omega) (m := 7) (by decide) (by decide)
  have hu : u = 0 ∨ u = 1 ∨ u = 2 ∨ u = 3 ∨ u = 4 ∨ u = 5 ∨ u = 6 := by omega
  rcases hu with rfl | rfl | rfl | rfl | rfl | rfl | rfl
  · exact ⟨1, S2, by simp [eRooms, run, evSs, evS, tst, evE, evEs, evIfs, evIt, subs, items?, lstOnly?, extOnly?, nth, idx, cop, peek, cmpD, truth, bop_int, bop_str, bI_add, bI_sub, bi, bm, bmTy, isTy, subsSet, writeL, dsOf?, dOf?, LIM, putP, mkLst, toDs, toD, fin, endF, deepF, srcOf, Src.items, fldOf, putFl, compL, Src.still, evFs, fmtM, fmtOf, e1, e2], by decide, by decide, h2⟩
  · exact ⟨2, S2, by simp [eRooms, run, evSs, evS, tst, evE, evEs, evIfs, evIt, subs, items?, lstOnly?, extOnly?, nth, idx, cop, peek, cmpD, truth, bop_int, bop_str, bI_add, bI_sub, bi, bm, bmTy, isTy, subsSet, writeL, dsOf?, dOf?, LIM, putP, mkLst, toDs, toD, fin, endF, deepF, srcOf, Src.items, fldOf, putFl, compL, Src.still, evFs, fmtM, fmtOf, e1, e2], by decide, by decide, h2⟩
  · exact ⟨3, S2, by simp [eRooms, run, evSs, evS, tst, evE, evEs, evIfs, evIt, subs, items?, lstOnly?, extOnly?, nth, idx, cop, peek, cmpD, truth, bop_int, bop_str, bI_add, bI_sub, bi, bm, bmTy, isTy, subsSet, writeL, dsOf?, dOf?, LIM, putP, mkLst, toDs, toD, fin, endF, deepF, srcOf, Src.items, fldOf, putFl, compL, Src.still, evFs, fmtM, fmtOf, e1, e2], by decide, by decide, h2⟩
  · exact ⟨12, S2, by simp [eRooms, run, evSs, evS, tst, evE, evEs, evIfs, evIt, subs, items?, lstOnly?, extOnly?, nth, idx, cop, peek, cmpD, truth, bop_int, bop_str, bI_add, bI_sub, bi, bm, bmTy, isTy, subsSet, writeL, dsOf?, dOf?, LIM, putP, mkLst, toDs, toD, fin, endF, deepF, srcOf, Src.items, fldOf, putFl, compL, Src.still, evFs, fmtM, fmtOf, e1, e2], by decide, by decide, h2⟩
  · exact ⟨10, S2, by simp [eRooms, run, evSs, evS, tst, evE, evEs, evIfs, evIt, subs, items?, lstOnly?, extOnly?, nth, idx, cop, peek, cmpD, truth, bop_int, bop_str, bI_add, bI_sub, bi, bm, bmTy, isTy, subsSet, writeL, dsOf?, dOf?, LIM, putP, mkLst, toDs, toD, fin, endF, deepF, srcOf, Src.items, fldOf, putFl, compL, Src.still, evFs, fmtM, fmtOf, e1, e2], by decide, by decide, h2⟩
  · exact ⟨11, S2, by simp [eRooms, run, evSs, evS, tst, evE, evEs, evIfs, evIt, subs, items?, lstOnly?, extOnly?, nth, idx, cop, peek, cmpD, truth, bop_int, bop_str, bI_add, bI_sub, bi, bm, bmTy, isTy, subsSet, writeL, dsOf?, dOf?, LIM, putP, mkLst, toDs, toD, fin, endF, deepF, srcOf, Src.items, fldOf, putFl, compL, Src.still, evFs, fmtM, fmtOf, e1, e2], by decide, by decide, h2⟩
  · exact ⟨1 + v, S2, by simp [eRooms, run, evSs, evS, tst, evE, evEs, evIfs, evIt, subs, items?, lstOnly?, extOnly?, nth, idx, cop, peek, cmpD, truth, bop_int, bop_str, bI_add, bI_sub, bi, bm, bmTy, isTy, subsSet, writeL, dsOf?, dOf?, LIM, putP, mkLst, toDs, toD, fin, endF, deepF, srcOf, Src.items, fldOf, putFl, compL, Src.still, evFs, fmtM, fmtOf, e1, e2], by omega, by omega, h2⟩
def eThick : E := .ix (.lst .val (.cons (.con (.int 0)) (.cons (.con (.int 1)) (.cons (.con (.int 2)) (.cons (.con (.int 5)) (.cons (.con (.int 8)) .nil)))))) (.call 30 (.cons (.var 0) (.cons (.con (.int 5)) .nil)) [])
theorem thick_ok (n : Nat) {S : List SC} {p N : Nat} {r : Sg} {L : List LC} (h : Pu S p N) (hN : N ≤ 90000) : ∃ m S', evE (tower tab (n + 1)) eThick (some (.d (.ref p)) :: r) ⟨L, S⟩ = .ok (.d (.int m)) ⟨L, S'⟩ ∧ Pu S' p (N + 1) := by
  obtain ⟨u, S2, e2, u0, u1, h2⟩ := pull_ok n h (by omega) (m := 5) (by decide) (by decide)
  have hu : u = 0 ∨ u = 1 ∨ u = 2 ∨ u = 3 ∨ u = 4 := by omega
  rcases hu with rfl | rfl | rfl | rfl | rfl <;> exact ⟨_, S2, by simp [eThick, run, evSs, evS, tst, evE, evEs, evIfs, evIt, subs, items?, lstOnly?, extOnly?, nth, idx, cop, peek, cmpD, truth, bop_int, bop_str, bI_add, bI_sub, bi, bm, bmTy, isTy, subsSet, writeL, dsOf?, dOf?, LIM, putP, mkLst, toDs, toD, fin, endF, deepF, srcOf, Src.items, fldOf, putFl, compL, Src.still, evFs, fmtM, fmtOf, e2]; rfl, h2⟩
def eLeast : E := .ix (.lst .val (.cons (.con (.int 0)) (.cons (.con (.int 1)) (.cons (.con (.int 2)) (.cons (.con (.int 3)) .nil))))) (.call 30 (.cons (.var 0) (.cons (.con (.int 4)) .nil)) [])
theorem least_ok (n : Nat) {S : List SC} {p N : Nat} {r : Sg} {L : List LC} (h : Pu S p N) (hN : N ≤ 90000) : ∃ m S', evE (tower tab (n + 1)) eLeast (some (.d (.ref p)) :: r) ⟨L, S⟩ = .ok (.d (.int m)) ⟨L, S'⟩ ∧ Pu S' p (N + 1) := by
  obtain ⟨u, S2, e2, u0, u1, h2⟩ := pull_ok n h (by omega) (m := 4) (by decide) (by decide)
  have hu : u = 0 ∨ u = 1 ∨ u = 2 ∨ u = 3 := by omega
  rcases hu with rfl | rfl | rfl | rfl <;> exact ⟨_, S2, by simp [eLeast, run, evSs, evS, tst, evE, evEs, evIfs, evIt, subs, items?, lstOnly?, extOnly?, nth, idx, cop, peek, cmpD, truth, bop_int, bop_str, bI_add, bI_sub, bi, bm, bmTy, isTy, subsSet, writeL, dsOf?, dOf?, LIM, putP, mkLst, toDs, toD, fin, endF, deepF, srcOf, Src.items, fldOf, putFl, compL, Src.still, evFs, fmtM, fmtOf, e2]; rfl, h2⟩
theorem tupleLoc {t : Stt} {i : Nat} {z : Bool} {ds : List D} (h : t.L[i]? = some (.lst z (ds.map .d))) : bi .tuple [.loc i] t = .ok (.d (.tup ds)) t := by
  unfold bi
  simp only [items?, h]
  rw [toDs_map, R.bind_ok]
theorem shelf_ok (n : Nat) {S : List SC} {p N : Nat} (h : Pu S p N) (hN : N ≤ 50000) : ∃ (rooms : Nat) (qs : List (Nat × Nat)) (es : List Nat) (S' : List SC), tower tab (n + 2) 35 [.ref p] S = .ok (.tup [.int rooms, .tup (qs.map DD), .tup (es.map iD)]) S' ∧
    1 ≤ rooms ∧ rooms ≤ 12 ∧ Codes qs (rooms * 6) rooms ∧ Inc es rooms ∧ Pu S' p (N + 200) := by
  obtain ⟨rooms, S1, e1, r0, r1, h1⟩ := rooms_ok n (r := [none, none, none, none, none, none, none, none]) (L := []) h (by omega)
  obtain ⟨thick, S2, e2, h2⟩ := thick_ok n (r := [some (.d (.int rooms)), none, none, none, none, none, none, none]) (L := []) h1 (by omega)
  have hrng : rooms < 1000000000 ∧ -1000000000 < rooms := by omega
  -- doors
  have fd : ∃ σ' t', forL (.fix (rngItems 0 rooms.toNat)) (.name 2) (evSs (tower tab (n + 1)) [sDoors]) (Src.fix (rngItems 0 rooms.toNat)).items [some (.d (.ref p)), some (.d (.int rooms)), none, none, some (.d (.int thick)), some (.loc 0), none, none, none] ⟨[.lst false []], S2⟩ = .next σ' t' ∧
      ∃ (qs : List (Nat × Nat)) (S' : List SC) (s2 s6 : Option W), σ' = [some (.d (.ref p)), some (.d (.int rooms)), s2, none, some (.d (.int thick)), some (.loc 0), s6, none, none] ∧ t' = ⟨[.lst false ((qs.map DD).map .d)], S'⟩ ∧ Codes qs ((Src.fix (rngItems 0 rooms.toNat)).items.length * 6) rooms ∧ Pu S' p (N + 3 + 12 * (Src.fix (rngItems 0 rooms.toNat)).items.length) := by
    refine for_ok (fun i σ t => ∃ (qs : List (Nat × Nat)) (S' : List SC) (s2 s6 : Option W), σ = [some (.d (.ref p)), some (.d (.int rooms)), s2, none, some (.d (.int thick)), some (.loc 0), s6, none, none] ∧ t = ⟨[.lst false ((qs.map DD).map .d)], S'⟩ ∧ Codes qs (i * 6) rooms ∧ Pu S' p (N + 3 + 12 * i)) ?_ (fun _ _ _ _ => rfl) ?_
    · exact ⟨[], S2, none, none, rfl, rfl, ⟨by simp, fun q hq => by simp at hq⟩, h2⟩
    · rintro i w σ t hw ⟨qs, S', s2, s6, rfl, rfl, hc, hp⟩
      obtain ⟨hi, rfl⟩ := rng_at hw
      have hi2 : i < 12 := by omega
      obtain ⟨qs', S3, s6', hc', hp', e⟩ := doors_step n (i := i) (rooms := rooms) (thick := thick) (qs := qs) (s3 := none) (s6 := s6) (s7 := none) (s8 := none) hp (by omega) r0 r1 (by omega) hc
      refine ⟨_, _, _, rfl, ?_, qs', S3, some (.d (.int (0 + (i : Int)))), s6', rfl, rfl, hc', by rw [show N + 3 + 12 * (i + 1) = N + 3 + 12 * i + 12 by omega]; exact hp'⟩
      have z : (0 : Int) + (i : Int) = ((i : Nat) : Int) := by omega
      rw [z]
      exact e
  obtain ⟨σ', t', e3, qs, S3, s2, s6, rfl, rfl, hc, hp⟩ := fd
  have hlen : (Src.fix (rngItems 0 rooms.toNat)).items.length = rooms.toNat := rng_len _ _
  rw [hlen] at hc hp
  obtain ⟨least, S4, e4, h4⟩ := least_ok n (r := [some (.d (.int rooms)), s2, none, some (.d (.int thick)), some (.loc 0), s6, none, none]) (L := [.lst false ((qs.map DD).map .d)]) hp (by omega)
  -- ends
  have fE : ∃ σ' t', forL (.fix (rngItems 0 rooms.toNat)) (.name 3) (evSs (tower tab (n + 1)) [sEnd]) (Src.fix (rngItems 0 rooms.toNat)).items [some (.d (.ref p)), some (.d (.int rooms)), s2, none, some (.d (.int thick)), some (.loc 0), s6, some (.d (.int least)), some (.loc 1)] ⟨[.lst false ((qs.map DD).map .d), .lst false []], S4⟩ = .next σ' t' ∧
      ∃ (es : List Nat) (S' : List SC) (s3 : Option W), σ' = [some (.d (.ref p)), some (.d (.int rooms)), s2, s3, some (.d (.int thick)), some (.loc 0), s6, some (.d (.int least)), some (.loc 1)] ∧ t' = ⟨[.lst false ((qs.map DD).map .d), .lst false ((es.map iD).map .d)], S'⟩ ∧ Inc es (Src.fix (rngItems 0 rooms.toNat)).items.length ∧ Pu S' p (N + 160 + (Src.fix (rngItems 0 rooms.toNat)).items.length) := by
    refine for_ok (fun i σ t => ∃ (es : List Nat) (S' : List SC) (s3 : Option W), σ = [some (.d (.ref p)), some (.d (.int rooms)), s2, s3, some (.d (.int thick)), some (.loc 0), s6, some (.d (.int least)), some (.loc 1)] ∧ t = ⟨[.lst false ((qs.map DD).map .d), .lst false ((es.map iD).map .d)], S'⟩ ∧ Inc es i ∧ Pu S' p (N + 160 + i)) ?_ (fun _ _ _ _ => rfl) ?_
    · exact ⟨[], S4, none, rfl, rfl, ⟨by simp, fun q hq => by simp at hq⟩, h4.mono (by omega)⟩
    · rintro i w σ t hw ⟨es, S', s3, rfl, rfl, hc, hp⟩
      obtain ⟨hi, rfl⟩ := rng_at hw
      have hi2 : i < 12 := by omega
      have hel := hc.len
      obtain ⟨es', S5, hd, hp', e⟩ := end_step n (i := i) (least := least) (es := es) (d0 := .lst false ((qs.map DD).map .d)) (s1 := some (.d (.int rooms))) (s2 := s2) (s4 := some (.d (.int thick))) (s5 := some (.loc 0)) (s6 := s6) hp (by omega) (by omega)
      have z : (0 : Int) + (i : Int) = ((i : Nat) : Int) := by omega
      refine ⟨_, _, _, rfl, by rw [z]; exact e, es', S5, some (.d (.int (i : Nat))), rfl, rfl, ?_, by rw [show N + 160 + (i + 1) = N + 160 + i + 1 by omega]; exact hp'⟩
      rcases hd with rfl | rfl
      · exact hc.mono (by omega)
      · exact hc.snoc
  obtain ⟨σ', t', e5, es, S5, s3, rfl, rfl, he, hp5⟩ := fE
  rw [hlen] at he hp5
  have hrn : ((rooms.toNat : Nat) : Int) = rooms := Int.toNat_of_nonneg (by omega)
  refine ⟨rooms.toNat, qs, es, S5, ?_, by omega, by omega, by rw [hrn]; exact hc, he, hp5.mono (by omega)⟩
  rw [hrn]
  rw [tw_run (fn := a_law_wide_shelf) rfl rfl]
  show endF (evSs (tower tab (n + 1)) [.set (.name 1) eRooms, .par 4 5 eThick (.lst .loc .nil), .fr (.name 2) (.range1 (.var 1)) [sDoors], .par 7 8 eLeast (.lst .loc .nil), .fr (.name 3) (.range1 (.var 1)) [sEnd], .ret (.tup (.cons (.var 1) (.cons (.bi .tuple (.cons (.var 5) .nil)) (.cons (.bi .tuple (.cons (.var 8) .nil)) .nil))))] [some (.d (.ref p)), none, none, none, none, none, none, none, none] ⟨[], S⟩) = _
  rw [seq_cons]
  simp only [evS]
  rw [e1]
  simp only [R.stm_ok, putP, RS.seq_next]
  rw [seq_cons]
  simp only [evS]
  have e2' : evE (tower tab (n + 1)) eThick ([some (W.d (D.ref p)), none, none, none, none, none, none, none, none].set 1 (some (W.d (D.int rooms)))) ⟨[], S1⟩ = .ok (.d (.int thick)) ⟨[], S2⟩ := e2
  rw [e2']
  simp only [R.stm_ok, evE, evEs, mkLst, R.bind_ok, RS.seq_next]
  rw [seq_cons]
  simp only [evS, evIt, evE, List.set, List.getElem?_cons_succ, List.getElem?_cons_zero, R.bind_ok, if_pos hrng, R.stm_ok]
  have e3' := e3
  simp only [List.length_nil, List.nil_append]
  rw [e3', RS.seq_next, seq_cons]
  simp only [evS]
  rw [e4]
  simp only [R.stm_ok, evE, evEs, mkLst, R.bind_ok, RS.seq_next]
  rw [seq_cons]
  simp only [evS, evIt, evE, List.set, List.getElem?_cons_succ, List.getElem?_cons_zero, R.bind_ok, if_pos hrng, R.stm_ok, List.length_cons, List.length_nil, List.cons_append, List.nil_append]
  rw [e5, RS.seq_next, seq_cons]
  have q1 := tupleLoc (t := ⟨[.lst false ((qs.map DD).map .d), .lst false ((es.map iD).map .d)], S5⟩) (i := 0) (z := false) (ds := qs.map DD) rfl
  have q2 := tupleLoc (t := ⟨[.lst false ((qs.map DD).map .d), .lst false ((es.map iD).map .d)], S5⟩) (i := 1) (z := false) (ds := es.map iD) rfl
  simp only [evS, evE, evEs, List.getElem?_cons_succ, List.getElem?_cons_zero, R.bind_ok, q1, q2, toDs, toD, R.stm_ok, RS.seq_ret, endF, deepF]
end MP
end

/-! text K82Q -/
section
set_option Elab.async false
set_option linter.all false
set_option maxRecDepth 100000
set_option maxHeartbeats 4000000
namespace MP
/-! ### comprehensions -/
theorem comp_map {xs : List W} {body : W → M (Option W)} {t : Stt} (f : W → W) (hl : xs.length ≤ 1000) (hb : ∀ w ∈ xs, body w t = .ok (some (f w)) t) : compL (.fix xs) body xs [] t = .ok (xs.map f) t := by
  obtain ⟨a', t', e, h1, h2⟩ := comp_ok' (src := .fix xs) (body := body) (t := t) (fun i a t' => a = (xs.take i).map f ∧ t' = t) ⟨rfl, rfl⟩ (fun _ _ _ _ => rfl) (by
    rintro i w a t' hw ⟨rfl, rfl⟩
    have hw : xs[i]? = some w := hw
    have hi := (List.getElem?_eq_some_iff.mp hw).1
    refine ⟨?_, some (f w), t', hb w (List.mem_of_getElem? hw), ?_, rfl⟩
    · rw [List.length_map, List.length_take]
      exact Nat.lt_of_le_of_lt (Nat.min_le_right _ _) (Nat.lt_of_lt_of_le (Nat.lt_succ_of_le hl) (by decide))
    · unfold pushO
      rw [List.take_add_one, hw, List.map_append]
      rfl)
  have hx : (Src.fix xs).items = xs := rfl
  rw [hx] at e h1
  rw [List.take_length] at h1
  rw [e, h1, h2]
theorem join_sing : ∀ x : Tx, joinL [] (x.map fun c => [c]) = x
  | [] => rfl
  | [c] => rfl
  | c :: d :: r => by
    have ih := join_sing (d :: r)
    show [c] ++ [] ++ joinL [] ((d :: r).map fun c => [c]) = _
    rw [ih]
    rfl
/-! ### signs drawn -/
theorem pick_ok (n : Nat) {S : List SC} {p N : Nat} {pool : Tx} (h : Pu S p N) (hN : N ≤ 90000) (h0 : 0 < pool.length) (h1 : pool.length ≤ 1000) : ∃ c S', tower tab (n + 2) 31 [.ref p, .lst (signsOf pool)] S = .ok (.str [c]) S' ∧ c ∈ pool ∧ Pu S' p (N + 1) := by
  have hl : (signsOf pool).length = pool.length := by simp [signsOf]
  obtain ⟨v, S1, e1, v0, v1, h2⟩ := pull_ok n h (by omega) (m := ((signsOf pool).length : Nat)) (by omega) (by omega)
  have hv : v.toNat < pool.length := by omega
  refine ⟨pool[v.toNat], S1, ?_, List.getElem_mem hv, h2⟩
  rw [tw_run (fn := a_law_pick) rfl rfl]
  have g1 : (signsOf pool)[v.toNat]? = some (.str [pool[v.toNat]]) := by
    unfold signsOf
    rw [List.getElem?_map, List.getElem?_eq_getElem hv]
    rfl
  simp [a_law_pick, run, evSs, evS, tst, evE, evEs, evIfs, evIt, subs, items?, lstOnly?, extOnly?, nth, idx, cop, peek, cmpD, truth, bop_int, bop_str, bI_add, bI_sub, bi, bm, bmTy, isTy, subsSet, writeL, dsOf?, dOf?, LIM, putP, mkLst, toDs, toD, fin, endF, deepF, srcOf, Src.items, fldOf, putFl, compL, Src.still, evFs, fmtM, fmtOf, e1, v0, v1, g1]
  simp [signsOf]
def eMany : E := .ix (.lst .val (.cons (.con (.int 0)) (.cons (.con (.int 1)) (.cons (.con (.int 24)) (.cons (.bin .add (.con (.int 2)) (.call 30 (.cons (.var 0) (.cons (.con (.int 22)) .nil)) [])) .nil))))) (.call 30 (.cons (.var 0) (.cons (.con (.int 4)) .nil)) [])
theorem many_ok (n : Nat) {S : List SC} {p N : Nat} {r : Sg} {L : List LC} (h : Pu S p N) (hN : N ≤ 90000) : ∃ m S', evE (tower tab (n + 1)) eMany (some (.d (.ref p)) :: r) ⟨L, S⟩ = .ok (.d (.int m)) ⟨L, S'⟩ ∧ 0 ≤ m ∧ m ≤ 24 ∧ Pu S' p (N + 2) := by
  obtain ⟨v, S1, e1, v0, v1, h1⟩ := pull_ok n h (by omega) (m := 22) (by decide) (by decide)
  obtain ⟨u, S2, e2, u0, u1, h2⟩ := pull_ok n h1 (by omega) (m := 4) (by decide) (by decide)
  have hu : u = 0 ∨ u = 1 ∨ u = 2 ∨ u = 3 := by omega
  rcases hu with rfl | rfl | rfl | rfl
  · exact ⟨0, S2, by simp [eMany, run, evSs, evS, tst, evE, evEs, evIfs, evIt, subs, items?, lstOnly?, extOnly?, nth, idx, cop, peek, cmpD, truth, bop_int, bop_str, bI_add, bI_sub, bi, bm, bmTy, isTy, subsSet, writeL, dsOf?, dOf?, LIM, putP, mkLst, toDs, toD, fin, endF, deepF, srcOf, Src.items, fldOf, putFl, compL, Src.still, evFs, fmtM, fmtOf, e1, e2], by decide, by decide, h2⟩
  · exact ⟨1, S2, by simp [eMany, run, evSs, evS, tst, evE, evEs, evIfs, evIt, subs, items?, lstOnly?, extOnly?, nth, idx, cop, peek, cmpD, truth, bop_int, bop_str, bI_add, bI_sub, bi, bm, bmTy, isTy, subsSet, writeL, dsOf?, dOf?, LIM, putP, mkLst, toDs, toD, fin, endF, deepF, srcOf, Src.items, fldOf, putFl, compL, Src.still, evFs, fmtM, fmtOf, e1, e2], by decide, by decide, h2⟩
  · exact ⟨24, S2, by simp [eMany, run, evSs, evS, tst, evE, evEs, evIfs, evIt, subs, items?, lstOnly?, extOnly?, nth, idx, cop, peek, cmpD, truth, bop_int, bop_str, bI_add, bI_sub, bi, bm, bmTy, isTy, subsSet, writeL, dsOf?, dOf?, LIM, putP, mkLst, toDs, toD, fin, endF, deepF, srcOf, Src.items, fldOf, putFl, compL, Src.still, evFs, fmtM, fmtOf, e1, e2], by decide, by decide, h2⟩
  · exact ⟨2 + v, S2, by simp [eMany, run, evSs, evS, tst, evE, evEs, evIfs, evIt, subs, items?, lstOnly?, extOnly?, nth, idx, cop, peek, cmpD, truth, bop_int, bop_str, bI_add, bI_sub, bi, bm, bmTy, isTy, subsSet, writeL, dsOf?, dOf?, LIM, putP, mkLst, toDs, toD, fin, endF, deepF, srcOf, Src.items, fldOf, putFl, compL, Src.still, evFs, fmtM, fmtOf, e1, e2], by omega, by omega, h2⟩
theorem sum_one (x : Tx) : ((x.map fun c => [c]).map fun y : Tx => y.length).sum = x.length := by
  induction x with
  | nil => rfl
  | cons c x ih => simp at ih ⊢; omega
theorem ev_bm (Φ : Fns) (m : Bm) (o : E) (es : Es) (σ : Sg) (t : Stt) : evE Φ (.bm m o es) σ t = (evE Φ o σ t).bind fun x t => if bmTy t m x = true then (evEs Φ es σ t).bind fun ws t => bm m x ws t else .stk := by simp only [evE]
theorem ev_con (Φ : Fns) (d : D) (σ : Sg) (t : Stt) : evE Φ (.con d) σ t = .ok (.d d) t := by simp only [evE]
theorem es_one (Φ : Fns) (e : E) (σ : Sg) (t : Stt) : evEs Φ (.cons e .nil) σ t = (evE Φ e σ t).bind fun x t => .ok [x] t := by simp only [evEs, R.bind_ok]
theorem es_nil (Φ : Fns) (σ : Sg) (t : Stt) : evEs Φ .nil σ t = .ok [] t := by simp only [evEs]
theorem ev_ret (Φ : Fns) (e : E) (σ : Sg) (t : Stt) : evS Φ (.ret e) σ t = (evE Φ e σ t).stm σ fun w t => .ret w t := by simp only [evS]
theorem ev_join (Φ : Fns) (sep : Tx) (e : E) (σ : Sg) (t : Stt) : evE Φ (.bm .join (.con (.str sep)) (.cons e .nil)) σ t = (evE Φ e σ t).bind fun x t => bm .join (.d (.str sep)) [x] t := by
  rw [ev_bm, ev_con, R.bind_ok]
  show (if true = true then _ else _) = _
  rw [if_pos rfl, es_one]
  cases evE Φ e σ t <;> rfl
theorem join_val (sep : Tx) (xs : List Tx) (t : Stt) (h : (xs.map fun y : Tx => y.length).sum + xs.length * sep.length ≤ LIM) : bm .join (.d (.str sep)) [.d (.lst (xs.map D.str))] t = .ok (.d (.str (joinL sep xs))) t := by
  unfold bm
  simp only [items?]
  rw [strs_map]
  simp only [if_pos h]
theorem signs_ok (n : Nat) {S : List SC} {p N : Nat} {pool : Tx} (h : Pu S p N) (hN : N ≤ 80000) (h0 : 0 < pool.length) (h1 : pool.length ≤ 1000) : ∃ (x : Tx) (S' : List SC), tower tab (n + 3) 36 [.ref p, .str pool] S = .ok (.str x) S' ∧ x.length ≤ 24 ∧ (∀ c ∈ x, c ∈ pool) ∧ Pu S' p (N + 30) := by
  obtain ⟨m, S1, e1, m0, m1, h2⟩ := many_ok (n + 1) (r := [some (.d (.str pool)), none, none]) (L := []) h (by omega)
  have hrng : m < 1000000000 ∧ -1000000000 < m := by omega
  have hp : pool.length ≤ LIM := lenLim h1
  obtain ⟨a', t', e2, x, S2, rfl, rfl, hx1, hx2, h3⟩ := comp_ok' (src := .fix (rngItems 0 m.toNat)) (t := ⟨[], S1⟩)
    (body := fun (w : W) (t : Stt) => noX ((putP (.name 3) w (wipeS [some (.d (.ref p)), some (.d (.str pool)), some (.d (.int m)), none] [3]) t).bind fun σ t => (evIfs (tower tab (n + 2)) .nil σ t).bind fun k t => if k = true then (evE (tower tab (n + 2)) (.call 31 (.cons (.var 0) (.cons (.bi (.list .val) (.cons (.var 1) .nil)) .nil)) []) σ t).bind fun y t => R.ok (some y) t else .ok none t))
    (fun i a t => ∃ (x : Tx) (S' : List SC), a = ((x.map fun c => [c]).map D.str).map W.d ∧ t = ⟨[], S'⟩ ∧ x.length = i ∧ (∀ c ∈ x, c ∈ pool) ∧ Pu S' p (N + 2 + i)) ⟨[], S1, rfl, rfl, rfl, fun c hc => by simp at hc, h2⟩ (fun _ _ _ _ => rfl) (by
      rintro i w a t hw ⟨x, S', rfl, rfl, hl, hc, hpu⟩
      obtain ⟨hi, rfl⟩ := rng_at hw
      obtain ⟨c, S3, e, hcp, hpu3⟩ := pick_ok n (pool := pool) hpu (by omega) h0 h1
      refine ⟨?_, some (.d (.str [c])), ⟨[], S3⟩, ?_, x ++ [c], S3, ?_, rfl, by simp [hl], ?_, hpu3⟩
      · simp only [List.length_map]; exact Nat.lt_of_lt_of_le (show x.length < 1000 by omega) (by decide)
      · have hlst : ∀ t : Stt, bi (.list .val) [.d (.str pool)] t = .ok (.d (.lst (signsOf pool))) t := fun t => by
          unfold bi
          simp only [if_pos hp, mkLst]
          rw [toDs_map, R.bind_ok]
        simp [wipeS, putP, evIfs, evE, evEs, hlst, toDs, toD, e, fin]
      · unfold pushO; simp
      · intro d hd
        rcases List.mem_append.mp hd with hd | hd
        · exact hc d hd
        · simp at hd; subst hd; exact hcp)
  have hlen : (Src.fix (rngItems 0 m.toNat)).items.length = m.toNat := rng_len _ _
  rw [hlen] at hx1 h3
  refine ⟨x, S2, ?_, by omega, hx2, h3.mono (by omega)⟩
  rw [tw_run (fn := a_law_signs) rfl rfl]
  show endF (evSs (tower tab (n + 2)) [.set (.name 2) eMany, .ret (.bm .join (.con (.str [])) (.cons (.comp .val [3] (.name 3) (.range1 (.var 2)) .nil (.call 31 (.cons (.var 0) (.cons (.bi (.list .val) (.cons (.var 1) .nil)) .nil)) [])) .nil))] [some (.d (.ref p)), some (.d (.str pool)), none, none] ⟨[], S⟩) = _
  rw [seq_cons]
  simp only [evS]
  rw [e1]
  simp only [R.stm_ok, putP, RS.seq_next, List.set]
  rw [seq_cons]
  rw [ev_ret]
  have ej : evE (tower tab (n + 2)) (.comp .val [3] (.name 3) (.range1 (.var 2)) .nil (.call 31 (.cons (.var 0) (.cons (.bi (.list .val) (.cons (.var 1) .nil)) .nil)) [])) [some (.d (.ref p)), some (.d (.str pool)), some (.d (.int m)), none] ⟨[], S1⟩ = .ok (.d (.lst ((x.map fun c => [c]).map D.str))) ⟨[], S2⟩ := by
    rw [show evE (tower tab (n + 2)) (.comp .val [3] (.name 3) (.range1 (.var 2)) .nil (.call 31 (.cons (.var 0) (.cons (.bi (.list .val) (.cons (.var 1) .nil)) .nil)) [])) [some (.d (.ref p)), some (.d (.str pool)), some (.d (.int m)), none] ⟨[], S1⟩ = (compL (.fix (rngItems 0 m.toNat)) (fun (w : W) (t : Stt) => noX ((putP (.name 3) w (wipeS [some (.d (.ref p)), some (.d (.str pool)), some (.d (.int m)), none] [3]) t).bind fun σ t => (evIfs (tower tab (n + 2)) .nil σ t).bind fun k t => if k = true then (evE (tower tab (n + 2)) (.call 31 (.cons (.var 0) (.cons (.bi (.list .val) (.cons (.var 1) .nil)) .nil)) []) σ t).bind fun y t => R.ok (some y) t else .ok none t)) (Src.fix (rngItems 0 m.toNat)).items [] ⟨[], S1⟩).bind fun ws t => mkLst .val ws t from by
      simp only [evE, evIt, List.getElem?_cons_succ, List.getElem?_cons_zero, R.bind_ok, if_pos hrng]]
    rw [e2, R.bind_ok]
    unfold mkLst
    simp only
    rw [toDs_map, R.bind_ok]
  rw [ev_join, ej, R.bind_ok, join_val [] (x.map fun c => [c]) _ (by rw [sum_one]; simp; exact lenLim (by omega)), join_sing]
  simp only [R.stm_ok, RS.seq_ret, endF, deepF]
/-! ### comprehensions over things by value -/
theorem ev_compv (Φ : Fns) (own : List Nat) (p : Pat) (it : It) (elt : E) (σ : Sg) (t : Stt) (xs : List W) (f : W → W) (hi : evIt Φ it σ t = .ok (.fix xs) t) (hl : xs.length ≤ 1000) (hf : ∀ w ∈ xs, ∃ σ2, putP p w (wipeS σ own) t = .ok σ2 t ∧ evE Φ elt σ2 t = .ok (f w) t) (ds : List D) (hd : xs.map f = ds.map W.d) :
    evE Φ (.comp .val own p it .nil elt) σ t = .ok (.d (.lst ds)) t := by
  have e := comp_map (xs := xs) (t := t) (body := fun (w : W) (t : Stt) => noX ((putP p w (wipeS σ own) t).bind fun σ t => (evIfs Φ .nil σ t).bind fun k t => if k = true then (evE Φ elt σ t).bind fun y t => R.ok (some y) t else .ok none t)) f hl fun w hw => by
    obtain ⟨σ2, e1, e2⟩ := hf w hw
    simp only [e1, R.bind_ok, evIfs, if_true, e2, noX_ok]
  simp only [evE, hi, R.bind_ok]
  have e' : compL (.fix xs) (fun (w : W) (t : Stt) => noX ((putP p w (wipeS σ own) t).bind fun σ t => (evIfs Φ .nil σ t).bind fun k t => if k = true then (evE Φ elt σ t).bind fun y t => R.ok (some y) t else .ok none t)) (Src.fix xs).items [] t = .ok (xs.map f) t := e
  rw [e', R.bind_ok, hd]
  unfold mkLst
  simp only
  rw [toDs_map, R.bind_ok]
/-! ### the wear written -/
def WD (q : Char × Char) : Tx := [q.1, '>', q.2]
def PQ (i : Nat) : Char × Char := PR.getD i ('a', 'a')
def wearT (js : List Nat) : Tx := if js = [] then ['-'] else joinL [' '] (js.map fun j => WD (PQ j))
def fW (w : W) : W := match w with
  | .d (.tup [.str a, .str b]) => .d (.str (a ++ ['>'] ++ b))
  | w => w
theorem wd_sum : ∀ js : List Nat, ((js.map fun j => WD (PQ j)).map fun y : Tx => y.length).sum = 3 * js.length
  | [] => rfl
  | j :: js => by
    have := wd_sum js
    rw [List.map_cons, List.map_cons, List.sum_cons, this]
    show 3 + 3 * js.length = 3 * (js.length + 1)
    omega
theorem wear_comp (Φ : Fns) (σ : Sg) (t : Stt) (js : List Nat) (a b : Nat) (hl : js.length ≤ 20) (h0 : σ[0]? = some (some (.d (.tup (js.map P))))) (hs : σ.length = 3) :
    evE Φ (.comp .val [1, 2] (.tup [1, 2]) (.seq (.var 0)) .nil (.bin .add (.bin .add (.var 1) (.con (.str ['>']))) (.var 2))) σ t = .ok (.d (.lst ((js.map fun j => WD (PQ j)).map D.str))) t := by
  obtain ⟨x, y, z, rfl⟩ : ∃ x y z, σ = [x, y, z] := by
    match σ, hs with
    | [x, y, z], _ => exact ⟨x, y, z, rfl⟩
  simp at h0
  subst h0
  refine ev_compv Φ [1, 2] (.tup [1, 2]) _ _ _ t ((js.map P).map .d) fW ?_ (by simp; omega) ?_ _ ?_
  · simp only [evIt, evE, List.getElem?_cons_zero, R.bind_ok, srcOf]
  · intro w hw
    simp only [List.map_map, List.mem_map] at hw
    obtain ⟨j, _, rfl⟩ := hw
    refine ⟨[some (.d (.tup (js.map P))), some (.d (.str [(PQ j).1])), some (.d (.str [(PQ j).2]))], by rfl, ?_⟩
    simp [evE, bop_str, LIM, fW, P, pD, PQ]
  · simp only [List.map_map]
    refine List.map_congr_left fun j _ => ?_
    rfl
theorem ev_ite_tt {Φ : Fns} {c a b : E} {σ : Sg} {t : Stt} (h : tst Φ c σ t = .ok true t) : evE Φ (.ite c a b) σ t = evE Φ a σ t := by
  unfold tst at h
  simp only [evE]
  cases e : evE Φ c σ t with
  | ok w t1 =>
    rw [e, R.bind_ok] at h
    rw [R.bind_ok, h, R.bind_ok, if_pos rfl]
  | exc z t1 => rw [e] at h; cases h
  | stk => rw [e] at h; cases h
theorem ev_ite_ff {Φ : Fns} {c a b : E} {σ : Sg} {t : Stt} (h : tst Φ c σ t = .ok false t) : evE Φ (.ite c a b) σ t = evE Φ b σ t := by
  unfold tst at h
  simp only [evE]
  cases e : evE Φ c σ t with
  | ok w t1 =>
    rw [e, R.bind_ok] at h
    rw [R.bind_ok, h, R.bind_ok, if_neg (by decide)]
  | exc z t1 => rw [e] at h; cases h
  | stk => rw [e] at h; cases h
theorem show_wear_ok (n : Nat) (S : List SC) (js : List Nat) (hl : js.length ≤ 20) : tower tab (n + 1) 8 [.tup (js.map P)] S = .ok (.str (wearT js)) S := by
  rw [tw_run (fn := a_show_wear) rfl rfl]
  have ec := wear_comp (tower tab n) [some (.d (.tup (js.map P))), none, none] ⟨[], S⟩ js 1 2 hl rfl rfl
  have hj := join_val [' '] (js.map fun j => WD (PQ j)) ⟨[], S⟩ (by rw [wd_sum]; simp; exact lenLim (by omega))
  show endF (evSs (tower tab n) [.ret (.ite (.var 0) (.bm .join (.con (.str [' '])) (.cons (.comp .val [1, 2] (.tup [1, 2]) (.seq (.var 0)) .nil (.bin .add (.bin .add (.var 1) (.con (.str ['>']))) (.var 2))) .nil)) (.con (.str ['-'])))] [some (.d (.tup (js.map P))), none, none] ⟨[], S⟩) = _
  rw [seq_cons, ev_ret]
  cases js with
  | nil =>
    rw [ev_ite_ff rfl, ev_con]
    simp only [R.stm_ok, RS.seq_ret, endF, deepF]
    rfl
  | cons j js =>
    rw [ev_ite_tt rfl, ev_join, ec, R.bind_ok, hj]
    simp only [wearT, R.stm_ok, RS.seq_ret, endF, deepF]
    rfl
/-! ### == () -/
theorem pds_some : ∀ {ds : List D}, (∀ d ∈ ds, (∃ p, d.pd? = some p) ∧ d.dp ≤ 5) → ∃ ps, D.pds? ds = some ps ∧ D.dps ds ≤ 5
  | [], _ => ⟨[], by simp only [D.pds?], by simp only [D.dps]; omega⟩
  | d :: ds, h => by
    obtain ⟨⟨p, e1⟩, h1⟩ := h d List.mem_cons_self
    obtain ⟨ps, e2, h2⟩ := pds_some fun x hx => h x (List.mem_cons_of_mem _ hx)
    exact ⟨p :: ps, by simp only [D.pds?, e1, e2], by simp only [D.dps]; omega⟩
theorem eq_nil {ds : List D} (h : ∀ d ∈ ds, (∃ p, d.pd? = some p) ∧ d.dp ≤ 5) : eqD 8 (.tup ds) (.tup []) = some ds.isEmpty := by
  simp only [eqD]
  cases ds with
  | nil => simp only [eqDs]; rfl
  | cons d ds =>
    obtain ⟨ps, e, h5⟩ := pds_some h
    simp only [eqDs, e]
    rw [if_pos (by omega)]
    rfl
theorem pP (j : Nat) : (∃ p, (P j).pd? = some p) ∧ (P j).dp ≤ 5 := by
  exact ⟨⟨.tuple [.str (toS [(PR.getD j ('a', 'a')).1]), .str (toS [(PR.getD j ('a', 'a')).2])], by simp only [P, pD, D.pd?, D.pds?]⟩, by simp only [P, pD, D.dp, D.dps]; omega⟩
theorem end_d {d : D} {t : Stt} {σ : Sg} {f : Sg → Stt → RS} : endF (((R.ok (W.d d) t).stm σ fun w t => RS.ret w t).seq f) = .ok d t.S := by
  simp only [R.stm_ok, RS.seq_ret, endF, deepF]
theorem pairs_text_ok (n : Nat) (S : List SC) (js : List Nat) (hl : js.length ≤ 20) : tower tab (n + 1) 32 [.tup (js.map P)] S = .ok (.str (wearT js)) S := by
  rw [tw_run (fn := a_law_pairs_text) rfl rfl]
  have ec := wear_comp (tower tab n) [some (.d (.tup (js.map P))), none, none] ⟨[], S⟩ js 1 2 hl rfl rfl
  have hj := join_val [' '] (js.map fun j => WD (PQ j)) ⟨[], S⟩ (by rw [wd_sum]; simp; exact lenLim (by omega))
  show endF (evSs (tower tab n) [.ret (.ite (.cmp .eq (.var 0) (.tup .nil)) (.con (.str ['-'])) (.bm .join (.con (.str [' '])) (.cons (.comp .val [1, 2] (.tup [1, 2]) (.seq (.var 0)) .nil (.bin .add (.bin .add (.var 1) (.con (.str ['>']))) (.var 2))) .nil)))] [some (.d (.tup (js.map P))), none, none] ⟨[], S⟩) = _
  rw [seq_cons, ev_ret]
  have hq := eq_nil (ds := js.map P) fun d hd => by obtain ⟨j, _, rfl⟩ := List.mem_map.mp hd; exact pP j
  have ht : tst (tower tab n) (.cmp .eq (.var 0) (.tup .nil)) [some (.d (.tup (js.map P))), none, none] ⟨[], S⟩ = .ok (js.map P).isEmpty ⟨[], S⟩ := by
    simp [tst, evE, evEs, toDs, cop, peek, cmpD, hq, truth]
  cases js with
  | nil => rw [ev_ite_tt ht, ev_con, end_d]; rfl
  | cons j js => rw [ev_ite_ff ht, ev_join, ec, R.bind_ok, hj, end_d]; rfl
/-! ### the row written -/
def rowT (x : Tx) : Tx := if x = [] then ['-'] else x
theorem show_row_ok (n : Nat) (S : List SC) (x : Tx) (hl : x.length ≤ 24) : tower tab (n + 1) 10 [.str x] S = .ok (.str (rowT x)) S := by
  rw [tw_run (fn := a_show_row) rfl rfl]
  show endF (evSs (tower tab n) [.ret (.ite (.var 0) (.var 0) (.con (.str ['-'])))] [some (.d (.str x))] ⟨[], S⟩) = _
  rw [seq_cons, ev_ret]
  have hx : x.length ≤ 1000000 := by omega
  cases x with
  | nil => rw [ev_ite_ff (by simp [tst, evE, truth, LIM]), ev_con, end_d]; rfl
  | cons c x => rw [ev_ite_tt (by simp at hx; simp [tst, evE, truth, LIM]; omega), show evE (tower tab n) (.var 0) [some (.d (.str (c :: x)))] ⟨[], S⟩ = .ok (.d (.str (c :: x))) ⟨[], S⟩ from by simp [evE], end_d]; rfl
/-! ### the book written -/
def numT (k : Nat) : Tx := (toString (k : Int)).toList
def doorT (q : Nat × Nat) : Tx := numT (q.1 / 6) ++ [' '] ++ [SGN.getD (q.1 % 6) 'a'] ++ [' '] ++ numT q.2
def doorsT (qs : List (Nat × Nat)) : Tx := if qs = [] then ['-'] else joinL [' ', ';', ' '] (qs.map doorT)
def endsT (es : List Nat) : Tx := if es = [] then ['-'] else joinL [' '] (es.map numT)
def bookT (rooms : Nat) (qs : List (Nat × Nat)) (es : List Nat) : Tx := numT rooms ++ [' ', 'd', 'o', 'o', 'r', 's', ' '] ++ doorsT qs ++ [' ', 'e', 'n', 'd', 's', ' '] ++ endsT es
theorem num_len : ∀ k, k < 12 → (numT k).length ≤ 2 ∧ numT k ≠ [] := by decide +kernel
theorem num_log {k : Nat} (h : k < 13) : ((k : Nat) : Int).natAbs.log2 < 1920 := by
  have := log2_lt (i := (k : Int)) (k := 100) (by omega) (Int.lt_of_lt_of_le (show (k : Int) < 13 by omega) (by decide)) (by decide)
  omega
end MP
end

/-! text K82S -/
section
set_option Elab.async false
set_option linter.all false
set_option maxRecDepth 100000
set_option maxHeartbeats 4000000
namespace MP
/-- a book's doors are as drawn -/
def Dok (qs : List (Nat × Nat)) : Prop := qs.length ≤ 72 ∧ ∀ q ∈ qs, q.1 < 72 ∧ q.2 < 12
def fDoor (w : W) : W := match w with
  | .d (.tup [.int s, .str m, .int k]) => .d (.str ((toString s).toList ++ [' '] ++ m ++ [' '] ++ (toString k).toList))
  | w => w
theorem fDoor_map (qs : List (Nat × Nat)) : ((qs.map DD).map W.d).map fDoor = ((qs.map doorT).map D.str).map W.d := by
  simp only [List.map_map]
  exact List.map_congr_left fun q _ => rfl
theorem doorT_len {q : Nat × Nat} (h1 : q.1 < 72) (h2 : q.2 < 12) : (doorT q).length ≤ 7 := by
  have a := (num_len (q.1 / 6) (by omega)).1
  have b := (num_len q.2 h2).1
  unfold doorT
  simp only [List.length_append, List.length_cons, List.length_nil]
  omega
theorem sum_le {α : Type} (f : α → Tx) (b : Nat) : ∀ l : List α, (∀ x ∈ l, (f x).length ≤ b) → ((l.map f).map fun y : Tx => y.length).sum ≤ b * l.length
  | [], _ => Nat.zero_le _
  | x :: l, h => by
    have := sum_le f b l fun y hy => h y (List.mem_cons_of_mem _ hy)
    have h1 := h x List.mem_cons_self
    rw [List.map_cons, List.map_cons, List.sum_cons, List.length_cons, Nat.mul_succ]
    omega
theorem joinL_len (sep : Tx) : ∀ xs : List Tx, (joinL sep xs).length ≤ (xs.map fun y : Tx => y.length).sum + xs.length * sep.length
  | [] => Nat.zero_le _
  | [x] => by show x.length ≤ _; simp
  | x :: y :: r => by
    have ih := joinL_len sep (y :: r)
    show (x ++ sep ++ joinL sep (y :: r)).length ≤ _
    simp only [List.length_append, List.map_cons, List.sum_cons, List.length_cons] at ih ⊢
    have : (r.length + 1 + 1) * sep.length = (r.length + 1) * sep.length + sep.length := Nat.succ_mul _ _
    omega
theorem doors_sum {qs : List (Nat × Nat)} (h : Dok qs) : ((qs.map doorT).map fun y : Tx => y.length).sum ≤ 7 * 72 := by
  have := sum_le doorT 7 qs fun q hq => doorT_len (h.2 q hq).1 (h.2 q hq).2
  have := h.1
  omega
theorem doors_len {qs : List (Nat × Nat)} (h : Dok qs) : (doorsT qs).length ≤ 1000 := by
  unfold doorsT
  split
  · decide
  · have a := joinL_len [' ', ';', ' '] (qs.map doorT)
    have b := doors_sum h
    have c := h.1
    simp only [List.length_map, List.length_cons, List.length_nil] at a
    omega
theorem ends_sum {es : List Nat} (h : ∀ e ∈ es, e < 12) (hl : es.length ≤ 12) : ((es.map numT).map fun y : Tx => y.length).sum ≤ 24 := by
  have := sum_le numT 2 es fun e he => (num_len e (h e he)).1
  omega
theorem ends_len {es : List Nat} (h : ∀ e ∈ es, e < 12) (hl : es.length ≤ 12) : (endsT es).length ≤ 100 := by
  unfold endsT
  split
  · decide
  · have a := joinL_len [' '] (es.map numT)
    have b := ends_sum h hl
    simp only [List.length_map, List.length_cons, List.length_nil] at a
    omega
theorem num12 {k : Nat} (h : k ≤ 12) : (numT k).length ≤ 2 := by
  rcases Nat.lt_or_ge k 12 with q | q
  · exact (num_len k q).1
  · have : k = 12 := by omega
    subst this
    decide +kernel
theorem ev_set (Φ : Fns) (p : Pat) (e : E) (σ : Sg) (t : Stt) : evS Φ (.set p e) σ t = (evE Φ e σ t).stm σ fun w t => (putP p w σ t).stm σ fun σ t => .next σ t := by simp only [evS]
theorem bop_ok {a b : Tx} {t : Stt} (h : a.length + b.length ≤ 5000) : bop .add (.d (.str a)) (.d (.str b)) t = .ok (.d (.str (a ++ b))) t := by
  rw [bop_str, if_pos (Nat.le_trans h (by decide))]
theorem fmt_str {x : Tx} (h : x.length ≤ 5000) : fmtOf (.d (.str x)) = some x := by
  show (if x.length ≤ LIM then some x else none) = some x
  rw [if_pos (Nat.le_trans h (by decide))]
theorem fmt_int {i : Int} (h : i.natAbs.log2 < 1920) : fmtOf (.d (.int i)) = some (toString i).toList := by
  show (if i.natAbs.log2 < 1920 then some (toString i).toList else none) = _
  rw [if_pos h]
theorem fs_cons {Φ : Fns} {e : E} {es : Es} {acc x : Tx} {σ : Sg} {t : Stt} {w : W} (h1 : evE Φ e σ t = .ok w t) (h2 : fmtOf w = some x) (h3 : acc.length + x.length ≤ 5000) : evFs Φ (.cons e es) acc σ t = evFs Φ es (acc ++ x) σ t := by
  simp only [evFs, h1, R.bind_ok, fmtM, h2]
  rw [if_pos (Nat.le_trans h3 (by decide))]
theorem fs_nil {Φ : Fns} {acc : Tx} {σ : Sg} {t : Stt} : evFs Φ .nil acc σ t = .ok (.d (.str acc)) t := by simp only [evFs]
theorem ev_var {Φ : Fns} {i : Nat} {σ : Sg} {t : Stt} {w : W} (h : σ[i]? = some (some w)) : evE Φ (.var i) σ t = .ok w t := by simp only [evE, h]
theorem ev_bin {Φ : Fns} {op : Bop} {a b : E} {σ : Sg} {t : Stt} {x y : W} (h1 : evE Φ a σ t = .ok x t) (h2 : evE Φ b σ t = .ok y t) : evE Φ (.bin op a b) σ t = bop op x y t := by simp only [evE, h1, h2, R.bind_ok]
theorem ev_str {Φ : Fns} {a : E} {σ : Sg} {t : Stt} {i : Int} (h1 : evE Φ a σ t = .ok (.d (.int i)) t) (h : i.natAbs.log2 < 1920) : evE Φ (.bi .str (.cons a .nil)) σ t = .ok (.d (.str (toString i).toList)) t := by
  simp only [evE, evEs, h1, R.bind_ok, bi]
  rw [if_pos h]
theorem ev_cat {Φ : Fns} {a b : E} {σ : Sg} {t : Stt} {x y : Tx} (h1 : evE Φ a σ t = .ok (.d (.str x)) t) (h2 : evE Φ b σ t = .ok (.d (.str y)) t) (h : x.length + y.length ≤ 5000) : evE Φ (.bin .add a b) σ t = .ok (.d (.str (x ++ y))) t := by
  rw [ev_bin h1 h2, bop_ok h]
/-- doors by an f-string -/
theorem doorF_comp (Φ : Fns) (t : Stt) (s0 s1 s2 s3 s5 : Option W) (qs : List (Nat × Nat)) (h : Dok qs) :
    evE Φ (.comp .val [6, 7, 8] (.tup [6, 7, 8]) (.seq (.var 4)) .nil (.fstr (.cons (.var 6) (.cons (.con (.str [' '])) (.cons (.var 7) (.cons (.con (.str [' '])) (.cons (.var 8) .nil))))))) [s0, s1, s2, s3, some (.d (.tup (qs.map DD))), s5, none, none, none] t = .ok (.d (.lst ((qs.map doorT).map D.str))) t := by
  refine ev_compv Φ [6, 7, 8] (.tup [6, 7, 8]) _ _ _ t ((qs.map DD).map .d) fDoor ?_ (by simp; have := h.1; omega) ?_ _ (fDoor_map qs)
  · simp only [evIt, evE, List.getElem?_cons_succ, List.getElem?_cons_zero, R.bind_ok, srcOf]
  · intro w hw
    simp only [List.map_map, List.mem_map] at hw
    obtain ⟨q, hq, rfl⟩ := hw
    obtain ⟨q1, q2⟩ := h.2 q hq
    refine ⟨[s0, s1, s2, s3, some (.d (.tup (qs.map DD))), s5, some (.d (.int (q.1 / 6 : Nat))), some (.d (.str [SGN.getD (q.1 % 6) 'a'])), some (.d (.int q.2))], by rfl, ?_⟩
    have g1 := num_log (k := q.1 / 6) (by omega)
    have g2 := num_log (k := q.2) (by omega)
    have l1 := num12 (k := q.1 / 6) (by omega)
    have l2 := num12 (k := q.2) (by omega)
    unfold numT at l1 l2
    rw [show ∀ es σ t, evE Φ (.fstr es) σ t = evFs Φ es [] σ t from fun _ _ _ => by simp only [evE]]
    rw [fs_cons (ev_var rfl) (fmt_int g1) (by simp only [List.length_nil]; omega), fs_cons (ev_con _ _ _ _) (fmt_str (by decide)) (by simp only [List.length_append, List.length_cons, List.length_nil]; omega),
      fs_cons (ev_var rfl) (fmt_str (x := [SGN.getD (q.1 % 6) 'a']) (by simp)) (by simp only [List.length_append, List.length_cons, List.length_nil]; omega), fs_cons (ev_con _ _ _ _) (fmt_str (by decide)) (by simp only [List.length_append, List.length_cons, List.length_nil]; omega),
      fs_cons (ev_var rfl) (fmt_int g2) (by simp only [List.length_append, List.length_cons, List.length_nil]; omega), fs_nil]
    rfl
/-- doors by + -/
def eDoorP : E := .bin .add (.bin .add (.bin .add (.bin .add (.bi .str (.cons (.var 4) .nil)) (.con (.str [' ']))) (.var 5)) (.con (.str [' ']))) (.bi .str (.cons (.var 6) .nil))
theorem doorP_comp (Φ : Fns) (t : Stt) (a c : D) (s1 s2 s3 : Option W) (qs : List (Nat × Nat)) (h : Dok qs) :
    evE Φ (.comp .val [4, 5, 6] (.tup [4, 5, 6]) (.seq (.ix (.var 0) (.con (.int 1)))) .nil eDoorP) [some (.d (.tup [a, .tup (qs.map DD), c])), s1, s2, s3, none, none, none] t = .ok (.d (.lst ((qs.map doorT).map D.str))) t := by
  refine ev_compv Φ [4, 5, 6] (.tup [4, 5, 6]) _ _ _ t ((qs.map DD).map .d) fDoor ?_ (by simp; have := h.1; omega) ?_ _ (fDoor_map qs)
  · simp [evIt, evE, subs, items?, nth, idx, srcOf]
  · intro w hw
    simp only [List.map_map, List.mem_map] at hw
    obtain ⟨q, hq, rfl⟩ := hw
    obtain ⟨q1, q2⟩ := h.2 q hq
    refine ⟨[some (.d (.tup [a, .tup (qs.map DD), c])), s1, s2, s3, some (.d (.int (q.1 / 6 : Nat))), some (.d (.str [SGN.getD (q.1 % 6) 'a'])), some (.d (.int q.2))], by rfl, ?_⟩
    have g1 := num_log (k := q.1 / 6) (by omega)
    have g2 := num_log (k := q.2) (by omega)
    have l1 := num12 (k := q.1 / 6) (by omega)
    have l2 := num12 (k := q.2) (by omega)
    unfold numT at l1 l2
    unfold eDoorP
    rw [ev_cat (ev_cat (ev_cat (ev_cat (ev_str (ev_var rfl) g1) (ev_con _ _ _ _) ?_) (ev_var (w := .d (.str [SGN.getD (q.1 % 6) 'a'])) rfl) ?_) (ev_con _ _ _ _) ?_) (ev_str (ev_var rfl) g2) ?_]
    · rfl
    all_goals (simp only [List.length_append, List.length_cons, List.length_nil]; omega)
def fEnd (w : W) : W := match w with
  | .d (.int s) => .d (.str (toString s).toList)
  | w => w
theorem fEnd_map (es : List Nat) : ((es.map iD).map W.d).map fEnd = ((es.map numT).map D.str).map W.d := by
  simp only [List.map_map]
  exact List.map_congr_left fun q _ => rfl
theorem end_comp (Φ : Fns) (t : Stt) (σ : Sg) (v : Nat) (it : It) (es : List Nat) (h : ∀ e ∈ es, e < 12) (hl : es.length ≤ 12) (hi : evIt Φ it σ t = .ok (.fix ((es.map iD).map .d)) t) (hv : v < σ.length) :
    evE Φ (.comp .val [v] (.name v) it .nil (.bi .str (.cons (.var v) .nil))) σ t = .ok (.d (.lst ((es.map numT).map D.str))) t := by
  refine ev_compv Φ [v] (.name v) _ _ _ t ((es.map iD).map .d) fEnd hi (by simp; omega) ?_ _ (fEnd_map es)
  intro w hw
  simp only [List.map_map, List.mem_map] at hw
  obtain ⟨e, he, rfl⟩ := hw
  have g1 := num_log (k := e) (by have := h e he; omega)
  refine ⟨_, rfl, ?_⟩
  have hg : ((wipeS σ [v]).set v (some ((W.d ∘ iD) e)))[v]? = some (some ((W.d ∘ iD) e)) := by
    rw [List.getElem?_set_self]
    simp [wipeS]; exact hv
  simp only [evE, evEs, hg, R.bind_ok]
  show bi .str [.d (.int (e : Nat))] t = _
  unfold bi
  simp only [if_pos g1]
  rfl
theorem dd_pd (q : Nat × Nat) : (∃ p, (DD q).pd? = some p) ∧ (DD q).dp ≤ 5 :=
  ⟨⟨.tuple [.int (q.1 / 6 : Nat), .str (toS [SGN.getD (q.1 % 6) 'a']), .int q.2], by simp only [DD, D.pd?, D.pds?]⟩, by simp only [DD, D.dp, D.dps]; omega⟩
theorem id_pd (k : Nat) : (∃ p, (iD k).pd? = some p) ∧ (iD k).dp ≤ 5 :=
  ⟨⟨.int k, by simp only [iD, D.pd?]⟩, by simp only [iD, D.dp]; omega⟩
def BK (rooms : Nat) (qs : List (Nat × Nat)) (es : List Nat) : D := .tup [.int rooms, .tup (qs.map DD), .tup (es.map iD)]
theorem doors_join {qs : List (Nat × Nat)} (h : Dok qs) (t : Stt) : bm .join (.d (.str [' ', ';', ' '])) [.d (.lst ((qs.map doorT).map D.str))] t = .ok (.d (.str (joinL [' ', ';', ' '] (qs.map doorT)))) t :=
  join_val _ _ _ (by
    have a := doors_sum h
    have b := h.1
    rw [List.length_map]
    show _ + qs.length * 3 ≤ LIM
    exact lenLim (by omega))
theorem ends_join {es : List Nat} (h : ∀ e ∈ es, e < 12) (hl : es.length ≤ 12) (t : Stt) : bm .join (.d (.str [' '])) [.d (.lst ((es.map numT).map D.str))] t = .ok (.d (.str (joinL [' '] (es.map numT)))) t :=
  join_val _ _ _ (by
    have a := ends_sum h hl
    rw [List.length_map]
    show _ + es.length * 1 ≤ LIM
    exact lenLim (by omega))
theorem doors_val (Φ : Fns) (t : Stt) (s0 s1 s2 s3 s5 : Option W) (qs : List (Nat × Nat)) (h : Dok qs) :
    evE Φ (.ite (.var 4) (.bm .join (.con (.str [' ', ';', ' '])) (.cons (.comp .val [6, 7, 8] (.tup [6, 7, 8]) (.seq (.var 4)) .nil (.fstr (.cons (.var 6) (.cons (.con (.str [' '])) (.cons (.var 7) (.cons (.con (.str [' '])) (.cons (.var 8) .nil))))))) .nil)) (.con (.str ['-']))) [s0, s1, s2, s3, some (.d (.tup (qs.map DD))), s5, none, none, none] t = .ok (.d (.str (doorsT qs))) t := by
  have ec := doorF_comp Φ t s0 s1 s2 s3 s5 qs h
  have hj := doors_join h t
  cases qs with
  | nil => rw [ev_ite_ff (by simp [tst, evE, truth, items?]), ev_con]; rfl
  | cons q qs => rw [ev_ite_tt (by simp [tst, evE, truth, items?]), ev_join, ec, R.bind_ok, hj]; rfl
theorem ends_val (Φ : Fns) (t : Stt) (s0 s1 s2 s3 s4 : Option W) (es : List Nat) (h : ∀ e ∈ es, e < 12) (hl : es.length ≤ 12) :
    evE Φ (.ite (.var 5) (.bm .join (.con (.str [' '])) (.cons (.comp .val [6] (.name 6) (.seq (.var 5)) .nil (.bi .str (.cons (.var 6) .nil))) .nil)) (.con (.str ['-']))) [s0, s1, s2, s3, s4, some (.d (.tup (es.map iD))), none, none, none] t = .ok (.d (.str (endsT es))) t := by
  have ec := end_comp Φ t [s0, s1, s2, s3, s4, some (.d (.tup (es.map iD))), none, none, none] 6 (.seq (.var 5)) es h hl (by simp [evIt, evE, srcOf]) (by simp)
  have hj := ends_join h hl t
  cases es with
  | nil => rw [ev_ite_ff (by simp [tst, evE, truth, items?]), ev_con]; rfl
  | cons q qs => rw [ev_ite_tt (by simp [tst, evE, truth, items?]), ev_join, ec, R.bind_ok, hj]; rfl
theorem ev_fstr (Φ : Fns) (es : Es) (σ : Sg) (t : Stt) : evE Φ (.fstr es) σ t = evFs Φ es [] σ t := by simp only [evE]
theorem show_book_ok (n : Nat) (S : List SC) (rooms : Nat) (qs : List (Nat × Nat)) (es : List Nat) (hr : rooms ≤ 12) (h : Dok qs) (he : ∀ e ∈ es, e < 12) (hl : es.length ≤ 12) : tower tab (n + 1) 9 [BK rooms qs es] S = .ok (.str (bookT rooms qs es)) S := by
  rw [tw_run (fn := a_show_book) rfl rfl]
  show endF (evSs (tower tab n) [.set (.tup [3, 4, 5]) (.var 0), .set (.name 1) (.ite (.var 4) (.bm .join (.con (.str [' ', ';', ' '])) (.cons (.comp .val [6, 7, 8] (.tup [6, 7, 8]) (.seq (.var 4)) .nil (.fstr (.cons (.var 6) (.cons (.con (.str [' '])) (.cons (.var 7) (.cons (.con (.str [' '])) (.cons (.var 8) .nil))))))) .nil)) (.con (.str ['-']))),
    .set (.name 2) (.ite (.var 5) (.bm .join (.con (.str [' '])) (.cons (.comp .val [6] (.name 6) (.seq (.var 5)) .nil (.bi .str (.cons (.var 6) .nil))) .nil)) (.con (.str ['-']))),
    .ret (.fstr (.cons (.var 3) (.cons (.con (.str [' ', 'd', 'o', 'o', 'r', 's', ' '])) (.cons (.var 1) (.cons (.con (.str [' ', 'e', 'n', 'd', 's', ' '])) (.cons (.var 2) .nil))))))] [some (.d (BK rooms qs es)), none, none, none, none, none, none, none, none] ⟨[], S⟩) = _
  rw [seq_cons, ev_set, ev_var (w := .d (BK rooms qs es)) rfl]
  have p1 : putP (.tup [3, 4, 5]) (.d (BK rooms qs es)) [some (.d (BK rooms qs es)), none, none, none, none, none, none, none, none] ⟨[], S⟩ = .ok [some (.d (BK rooms qs es)), none, none, some (.d (.int rooms)), some (.d (.tup (qs.map DD))), some (.d (.tup (es.map iD))), none, none, none] ⟨[], S⟩ := rfl
  simp only [R.stm_ok, p1, RS.seq_next]
  rw [seq_cons, ev_set, doors_val (tower tab n) ⟨[], S⟩ _ _ _ _ _ qs h]
  simp only [R.stm_ok, putP, RS.seq_next, List.set]
  rw [seq_cons, ev_set, ends_val (tower tab n) ⟨[], S⟩ _ _ _ _ _ es he hl]
  simp only [R.stm_ok, putP, RS.seq_next, List.set]
  have l1 := num12 hr
  have l2 := doors_len h
  have l3 := ends_len he hl
  have g1 := num_log (k := rooms) (by omega)
  unfold numT at l1
  rw [seq_cons, ev_ret, ev_fstr, fs_cons (ev_var rfl) (fmt_int g1) (by simp only [List.length_nil]; omega), fs_cons (ev_con _ _ _ _) (fmt_str (by decide)) (by simp only [List.length_append, List.length_cons, List.length_nil]; omega),
    fs_cons (ev_var rfl) (fmt_str (by omega)) (by simp only [List.length_append, List.length_cons, List.length_nil]; omega), fs_cons (ev_con _ _ _ _) (fmt_str (by decide)) (by simp only [List.length_append, List.length_cons, List.length_nil]; omega),
    fs_cons (ev_var rfl) (fmt_str (by omega)) (by simp only [List.length_append, List.length_cons, List.length_nil]; omega), fs_nil, end_d]
  rfl
theorem ev_ife (Φ : Fns) (c : E) (a b : List S) (σ : Sg) (t : Stt) {k : Bool} (h : tst Φ c σ t = .ok k t) : evS Φ (.ife c a b) σ t = if k = true then evSs Φ a σ t else evSs Φ b σ t := by
  simp only [evS, h, R.stm_ok]
theorem shelf_text_ok (n : Nat) (S : List SC) (rooms : Nat) (qs : List (Nat × Nat)) (es : List Nat) (hr : rooms ≤ 12) (h : Dok qs) (he : ∀ e ∈ es, e < 12) (hl : es.length ≤ 12) : tower tab (n + 1) 33 [BK rooms qs es] S = .ok (.str (bookT rooms qs es)) S := by
  rw [tw_run (fn := a_law_shelf_text) rfl rfl]
  show endF (evSs (tower tab n) [.set (.tup [1, 2]) (.tup (.cons (.con (.str ['-'])) (.cons (.con (.str ['-'])) .nil))),
    .ife (.cmp .ne (.ix (.var 0) (.con (.int 1))) (.tup .nil)) [.set (.name 1) (.bm .join (.con (.str [' ', ';', ' '])) (.cons (.comp .val [4, 5, 6] (.tup [4, 5, 6]) (.seq (.ix (.var 0) (.con (.int 1)))) .nil eDoorP) .nil))] [],
    .ife (.cmp .ne (.ix (.var 0) (.con (.int 2))) (.tup .nil)) [.set (.name 2) (.bm .join (.con (.str [' '])) (.cons (.comp .val [3] (.name 3) (.seq (.ix (.var 0) (.con (.int 2)))) .nil (.bi .str (.cons (.var 3) .nil))) .nil))] [],
    .ret (.bin .add (.bin .add (.bin .add (.bin .add (.bi .str (.cons (.ix (.var 0) (.con (.int 0))) .nil)) (.con (.str [' ', 'd', 'o', 'o', 'r', 's', ' ']))) (.var 1)) (.con (.str [' ', 'e', 'n', 'd', 's', ' ']))) (.var 2))] [some (.d (BK rooms qs es)), none, none, none, none, none, none] ⟨[], S⟩) = _
  have h1 : evS (tower tab n) (.set (.tup [1, 2]) (.tup (.cons (.con (.str ['-'])) (.cons (.con (.str ['-'])) .nil)))) [some (.d (BK rooms qs es)), none, none, none, none, none, none] ⟨[], S⟩ = .next [some (.d (BK rooms qs es)), some (.d (.str ['-'])), some (.d (.str ['-'])), none, none, none, none] ⟨[], S⟩ := by
    simp [evS, evE, evEs, toDs, toD, putP]
  rw [seq_cons, h1, RS.seq_next]
  have h2 : evS (tower tab n) (.ife (.cmp .ne (.ix (.var 0) (.con (.int 1))) (.tup .nil)) [.set (.name 1) (.bm .join (.con (.str [' ', ';', ' '])) (.cons (.comp .val [4, 5, 6] (.tup [4, 5, 6]) (.seq (.ix (.var 0) (.con (.int 1)))) .nil eDoorP) .nil))] []) [some (.d (BK rooms qs es)), some (.d (.str ['-'])), some (.d (.str ['-'])), none, none, none, none] ⟨[], S⟩ = .next [some (.d (BK rooms qs es)), some (.d (.str (doorsT qs))), some (.d (.str ['-'])), none, none, none, none] ⟨[], S⟩ := by
    have hq := eq_nil (ds := qs.map DD) fun d hd => by obtain ⟨j, _, rfl⟩ := List.mem_map.mp hd; exact dd_pd j
    have ht : tst (tower tab n) (.cmp .ne (.ix (.var 0) (.con (.int 1))) (.tup .nil)) [some (.d (BK rooms qs es)), some (.d (.str ['-'])), some (.d (.str ['-'])), none, none, none, none] ⟨[], S⟩ = .ok (!(qs.map DD).isEmpty) ⟨[], S⟩ := by
      simp [tst, evE, evEs, toDs, cop, peek, cmpD, hq, truth, subs, items?, nth, idx, BK]
    have ec := doorP_comp (tower tab n) ⟨[], S⟩ (.int rooms) (.tup (es.map iD)) (some (.d (.str ['-']))) (some (.d (.str ['-']))) none qs h
    rw [ev_ife _ _ _ _ _ _ ht]
    cases qs with
    | nil => rfl
    | cons q qs =>
      show evSs _ _ _ _ = _
      rw [seq_cons, ev_set, ev_join]
      unfold BK
      rw [ec, R.bind_ok, doors_join h]
      rfl
  rw [seq_cons, h2, RS.seq_next]
  have h3 : evS (tower tab n) (.ife (.cmp .ne (.ix (.var 0) (.con (.int 2))) (.tup .nil)) [.set (.name 2) (.bm .join (.con (.str [' '])) (.cons (.comp .val [3] (.name 3) (.seq (.ix (.var 0) (.con (.int 2)))) .nil (.bi .str (.cons (.var 3) .nil))) .nil))] []) [some (.d (BK rooms qs es)), some (.d (.str (doorsT qs))), some (.d (.str ['-'])), none, none, none, none] ⟨[], S⟩ = .next [some (.d (BK rooms qs es)), some (.d (.str (doorsT qs))), some (.d (.str (endsT es))), none, none, none, none] ⟨[], S⟩ := by
    have hq := eq_nil (ds := es.map iD) fun d hd => by obtain ⟨j, _, rfl⟩ := List.mem_map.mp hd; exact id_pd j
    have ht : tst (tower tab n) (.cmp .ne (.ix (.var 0) (.con (.int 2))) (.tup .nil)) [some (.d (BK rooms qs es)), some (.d (.str (doorsT qs))), some (.d (.str ['-'])), none, none, none, none] ⟨[], S⟩ = .ok (!(es.map iD).isEmpty) ⟨[], S⟩ := by
      simp [tst, evE, evEs, toDs, cop, peek, cmpD, hq, truth, subs, items?, nth, idx, BK]
    have ec := end_comp (tower tab n) ⟨[], S⟩ [some (.d (BK rooms qs es)), some (.d (.str (doorsT qs))), some (.d (.str ['-'])), none, none, none, none] 3 (.seq (.ix (.var 0) (.con (.int 2)))) es he hl (by simp [evIt, evE, srcOf, subs, items?, nth, idx, BK]) (by simp)
    rw [ev_ife _ _ _ _ _ _ ht]
    cases es with
    | nil => rfl
    | cons q qs' =>
      show evSs _ _ _ _ = _
      rw [seq_cons, ev_set, ev_join, ec, R.bind_ok, ends_join he hl]
      rfl
  rw [seq_cons, h3, RS.seq_next]
  have l1 := num12 hr
  have l2 := doors_len h
  have l3 := ends_len he hl
  have g1 := num_log (k := rooms) (by omega)
  unfold numT at l1
  have e0 : evE (tower tab n) (.ix (.var 0) (.con (.int 0))) [some (.d (BK rooms qs es)), some (.d (.str (doorsT qs))), some (.d (.str (endsT es))), none, none, none, none] ⟨[], S⟩ = .ok (.d (.int rooms)) ⟨[], S⟩ := by
    simp [evE, subs, items?, nth, idx, BK]
  rw [seq_cons, ev_ret, ev_cat (ev_cat (ev_cat (ev_cat (ev_str e0 g1) (ev_con _ _ _ _) ?_) (ev_var rfl) ?_) (ev_con _ _ _ _) ?_) (ev_var rfl) ?_, end_d]
  · rfl
  all_goals (simp only [List.length_append, List.length_cons, List.length_nil]; omega)
end MP
end

/-! text K82U -/
section
set_option Elab.async false
set_option linter.all false
set_option maxRecDepth 100000
set_option maxHeartbeats 4000000
namespace MP
/-! ### splitting -/
theorem sp_end (c : Char) : ∀ (p cur : Tx), c ∉ p → splitL c cur p = [cur ++ p]
  | [], cur, _ => by simp [splitL]
  | x :: r, cur, h => by
    have h1 : x ≠ c := fun e => h (by simp [e])
    have h2 : c ∉ r := fun e => h (by simp [e])
    simp only [splitL, if_neg h1]
    rw [sp_end c r _ h2]
    simp
theorem sp_hit (c : Char) : ∀ (p cur r : Tx), c ∉ p → splitL c cur (p ++ c :: r) = (cur ++ p) :: splitL c [] r
  | [], cur, r, _ => by simp [splitL]
  | x :: p, cur, r, h => by
    have h1 : x ≠ c := fun e => h (by simp [e])
    have h2 : c ∉ p := fun e => h (by simp [e])
    simp only [List.cons_append, splitL, if_neg h1]
    rw [sp_hit c p _ r h2]
    simp
theorem sp_join (c : Char) : ∀ (ps : List Tx), ps ≠ [] → (∀ p ∈ ps, c ∉ p) → splitL c [] (joinL [c] ps) = ps
  | [], h, _ => absurd rfl h
  | [p], _, h => by
    show splitL c [] p = [p]
    rw [sp_end c p [] (h p (by simp))]
    rfl
  | p :: q :: r, _, h => by
    show splitL c [] (p ++ [c] ++ joinL [c] (q :: r)) = _
    have e : p ++ [c] ++ joinL [c] (q :: r) = p ++ c :: joinL [c] (q :: r) := by simp
    rw [e, sp_hit c p [] _ (h p (by simp)), sp_join c (q :: r) (by simp) fun z hz => h z (List.mem_cons_of_mem _ hz)]
    rfl
/-- a reader of the words ws at the k-th -/
def wS (ws : List Tx) (k : Nat) : SC := .ins 0 [(0, .lst (ws.map D.str)), (1, .int (k : Nat))]
theorem words_ok (n : Nat) (S : List SC) (x : Tx) (h : x.length ≤ 5000) : tower tab (n + 1) 11 [.str x] S = .ok (.lst ((splitL ' ' [] x).map D.str)) S := by
  rw [tw_run (fn := a_words_of) rfl rfl]
  have hl : x.length ≤ 999998 := by omega
  simp [a_words_of, run, evSs, evS, tst, evE, evEs, evIfs, evIt, subs, items?, lstOnly?, extOnly?, nth, idx, cop, peek, cmpD, truth, bop_int, bop_str, bI_add, bI_sub, bi, bm, bmTy, isTy, subsSet, writeL, dsOf?, dOf?, LIM, putP, mkLst, toDs, toD, fin, endF, deepF, srcOf, Src.items, fldOf, putFl, compL, Src.still, evFs, fmtM, fmtOf, hl]
theorem init_ok (n : Nat) (S : List SC) (ws : List Tx) : tower tab (n + 1) 13 [.ref S.length, .lst (ws.map D.str)] (S ++ [.ins 0 []]) = .ok .non (S ++ [wS ws 0]) := by
  rw [tw_run (fn := a_Words___init__) rfl rfl]
  have h0 : ∀ x : SC, (S ++ [x])[S.length]? = some x := fun x => by rw [List.getElem?_append_right (Nat.le_refl _)]; simp
  have hs : ∀ x y : SC, (S ++ [x]).set S.length y = S ++ [y] := fun x y => by rw [List.set_append_right _ _ (Nat.le_refl _)]; simp
  simp [a_Words___init__, run, evSs, evS, tst, evE, evEs, evIfs, evIt, subs, items?, lstOnly?, extOnly?, nth, idx, cop, peek, cmpD, truth, bop_int, bop_str, bI_add, bI_sub, bi, bm, bmTy, isTy, subsSet, writeL, dsOf?, dOf?, LIM, putP, mkLst, toDs, toD, fin, endF, deepF, srcOf, Src.items, fldOf, putFl, compL, Src.still, evFs, fmtM, fmtOf, h0, hs, wS]
theorem next_ok (n : Nat) {S : List SC} {r k : Nat} {ws : List Tx} (h : S[r]? = some (wS ws k)) (hk : k < ws.length) : tower tab (n + 1) 15 [.ref r] S = .ok (.str ws[k]) S := by
  rw [tw_run (fn := a_Words_next) rfl rfl]
  simp [a_Words_next, run, evSs, evS, tst, evE, evEs, evIfs, evIt, subs, items?, lstOnly?, extOnly?, nth, idx, cop, peek, cmpD, truth, bop_int, bop_str, bI_add, bI_sub, bi, bm, bmTy, isTy, subsSet, writeL, dsOf?, dOf?, LIM, putP, mkLst, toDs, toD, fin, endF, deepF, srcOf, Src.items, fldOf, putFl, compL, Src.still, evFs, fmtM, fmtOf, List.lookup, h, wS, hk]
theorem next_end (n : Nat) {S : List SC} {r k : Nat} {ws : List Tx} (h : S[r]? = some (wS ws k)) (hk : ws.length ≤ k) : tower tab (n + 1) 15 [.ref r] S = .ok (.str []) S := by
  rw [tw_run (fn := a_Words_next) rfl rfl]
  have : ¬ k < ws.length := by omega
  simp [a_Words_next, run, evSs, evS, tst, evE, evEs, evIfs, evIt, subs, items?, lstOnly?, extOnly?, nth, idx, cop, peek, cmpD, truth, bop_int, bop_str, bI_add, bI_sub, bi, bm, bmTy, isTy, subsSet, writeL, dsOf?, dOf?, LIM, putP, mkLst, toDs, toD, fin, endF, deepF, srcOf, Src.items, fldOf, putFl, compL, Src.still, evFs, fmtM, fmtOf, List.lookup, h, wS, this]
theorem step_ok (n : Nat) {S : List SC} {r k : Nat} {ws : List Tx} (h : S[r]? = some (wS ws k)) : tower tab (n + 1) 16 [.ref r] S = .ok .non (S.set r (wS ws (k + 1))) := by
  rw [tw_run (fn := a_Words_step) rfl rfl]
  simp [a_Words_step, run, evSs, evS, tst, evE, evEs, evIfs, evIt, subs, items?, lstOnly?, extOnly?, nth, idx, cop, peek, cmpD, truth, bop_int, bop_str, bI_add, bI_sub, bi, bm, bmTy, isTy, subsSet, writeL, dsOf?, dOf?, LIM, putP, mkLst, toDs, toD, fin, endF, deepF, srcOf, Src.items, fldOf, putFl, compL, Src.still, evFs, fmtM, fmtOf, List.lookup, h, wS]
theorem stop_ok (n : Nat) {S : List SC} {r k : Nat} {ws : List Tx} (h : S[r]? = some (wS ws k)) (hk : ws.length ≤ k) : tower tab (n + 1) 19 [.ref r] S = .ok .non S := by
  rw [tw_run (fn := a_Words_end) rfl rfl]
  have : ¬ k < ws.length := by omega
  simp [a_Words_end, run, evSs, evS, tst, evE, evEs, evIfs, evIt, subs, items?, lstOnly?, extOnly?, nth, idx, cop, peek, cmpD, truth, bop_int, bop_str, bI_add, bI_sub, bi, bm, bmTy, isTy, subsSet, writeL, dsOf?, dOf?, LIM, putP, mkLst, toDs, toD, fin, endF, deepF, srcOf, Src.items, fldOf, putFl, compL, Src.still, evFs, fmtM, fmtOf, List.lookup, h, wS, this]
end MP
end

/-! text K82V -/
section
set_option Elab.async false
set_option linter.all false
set_option maxRecDepth 100000
set_option maxHeartbeats 1000000
namespace MP
theorem one_of (n : Nat) (S : List SC) (a : Char) (l : Tx) : tower tab (n + 1) 1 [.str [a], .str l] S = .ok (.bl (decide (a ∈ l))) S := by
  rw [tw_run (fn := a_is_one_of) rfl rfl]
  simp [a_is_one_of, run, evSs, evS, tst, evE, evEs, bi, isTy, cop, peek, cmpD, truth, LIM, endF, deepF, eqD]
theorem want_ok (n : Nat) {S : List SC} {r k : Nat} {ws : List Tx} {w : Tx} (h : S[r]? = some (wS ws k)) (hk : ws[k]? = some w) : tower tab (n + 2) 17 [.ref r, .str w] S = .ok .non (S.set r (wS ws (k + 1))) := by
  obtain ⟨hk1, hk2⟩ := List.getElem?_eq_some_iff.mp hk
  have e1 := next_ok n h hk1
  rw [hk2] at e1
  have e2 := step_ok n h
  rw [tw_run (fn := a_Words_want) rfl rfl]
  have h' : ∃ q, S[r]? = some (.ins 0 q) := ⟨_, h⟩
  obtain ⟨q, hq⟩ := h'
  simp [a_Words_want, evSs, evS, tst, evE, evEs, toDs, toD, hq, fin, e1, e2, cop, peek, cmpD, eqD, truth, endF, deepF]
theorem sign_ok (n : Nat) (S : List SC) (a : Char) (h : a ∈ SGN) : tower tab (n + 2) 3 [.str [a]] S = .ok (.bl true) S := by
  rw [tw_run (fn := a_is_sign) rfl rfl]
  have e := one_of n S a SGN
  rw [decide_eq_true h] at e
  simp only [SGN] at e
  simp [a_is_sign, evSs, evS, evE, evEs, toDs, toD, fin, e, endF, deepF]
theorem worn_ok (n : Nat) (S : List SC) (a : Char) (h : a ∈ WRN) : tower tab (n + 2) 4 [.str [a]] S = .ok (.bl true) S := by
  rw [tw_run (fn := a_is_worn) rfl rfl]
  have e := one_of n S a WRN
  rw [decide_eq_true h] at e
  simp only [WRN] at e
  simp [a_is_worn, evSs, evS, evE, evEs, toDs, toD, fin, e, endF, deepF]
theorem PQ_ok : ∀ j, j < 36 → (PQ j).1 ∈ SGN ∧ (PQ j).2 ∈ WRN ∧ (PQ j).1 ≠ (PQ j).2 := by decide +kernel
theorem is_pair_ok (n : Nat) (S : List SC) (a b : Char) (h1 : a ∈ SGN) (h2 : b ∈ WRN) (h3 : a ≠ b) : tower tab (n + 3) 7 [.tup [.str [a], .str [b]]] S = .ok (.bl true) S := by
  have e1 := sign_ok n S a h1
  have e2 := worn_ok n S b h2
  rw [tw_run (fn := a_is_pair) rfl rfl]
  simp [a_is_pair, evSs, evS, tst, evE, evEs, toDs, toD, fin, bi, isTy, items?, subs, nth, idx, cop, peek, cmpD, eqD, truth, e1, e2, h3, endF, deepF]
theorem pair_of_ok (n : Nat) (S : List SC) (j : Nat) (hj : j < 36) : tower tab (n + 4) 20 [.str (WD (PQ j))] S = .ok (P j) S := by
  obtain ⟨h1, h2, h3⟩ := PQ_ok j hj
  have e := is_pair_ok n S _ _ h1 h2 h3
  have eP : P j = .tup [.str [(PQ j).1], .str [(PQ j).2]] := rfl
  rw [tw_run (fn := a_pair_of) rfl rfl, eP]
  simp [a_pair_of, WD, evSs, evS, tst, evE, evEs, toDs, toD, fin, bi, items?, subs, nth, idx, cop, peek, cmpD, eqD, truth, LIM, e, putP, endF, deepF]
end MP
end

/-! text K82W -/
section
set_option Elab.async false
set_option linter.all false
set_option maxRecDepth 100000
set_option maxHeartbeats 1000000
namespace MP
/-- a new reader -/
theorem mk_ok (n : Nat) (S : List SC) (L : List LC) (σ : Sg) (x : Tx) (h0 : σ[0]? = some (some (.d (.str x)))) (h : x.length ≤ 5000) :
    evE (tower tab (n + 1)) (.make 0 13 (.cons (.call 11 (.cons (.var 0) .nil) []) .nil) []) σ ⟨L, S⟩ = .ok (.d (.ref S.length)) ⟨L, S ++ [wS (splitL ' ' [] x) 0]⟩ := by
  have e1 := words_ok n S x h
  have e2 := init_ok n S (splitL ' ' [] x)
  simp [evE, evEs, toDs, toD, fin, h0, e1, e2]
theorem WD_free : ∀ j, j < 36 → ' ' ∉ WD (PQ j) ∧ WD (PQ j) ≠ ['-'] := by decide +kernel
theorem wear_words {js : List Nat} (h : ∀ j ∈ js, j < 36) (hn : js ≠ []) : splitL ' ' [] (wearT js) = js.map fun j => WD (PQ j) := by
  unfold wearT
  rw [if_neg hn]
  exact sp_join ' ' _ (by simpa using hn) fun p hp => by
    obtain ⟨j, hj, rfl⟩ := List.mem_map.mp hp
    exact (WD_free j (h j hj)).1
theorem wear_len {js : List Nat} (hl : js.length ≤ 20) : (wearT js).length ≤ 5000 := by
  unfold wearT
  split
  · decide
  · have a := joinL_len [' '] (js.map fun j => WD (PQ j))
    rw [wd_sum] at a
    simp only [List.length_map, List.length_cons, List.length_nil] at a
    omega
def eWord : E := .or (.cmp .isN (.var 4) (.con .non)) (.or (.cmp .eq (.bi .len (.cons (.var 2) .nil)) (.con (.int 20))) (.and (.var 2) (.cmp .le (.var 4) (.ix (.var 2) (.neg (.con (.int 1)))))))
def sWord : List S := [.set (.name 4) (.call 20 (.cons (.var 3) .nil) []),
    .ife eWord [.ex (.meth 0 14 (.var 1) .nil [])] [],
    .ex (.meth 0 16 (.var 1) .nil []),
    .ex (.bm .append (.var 2) (.cons (.var 4) .nil))]
theorem P_ngt : ∀ i, i < 36 → ∀ j, j < 36 → i < j → cmpD .le (P j) (P i) = some false := by decide +kernel
theorem word_test (Φ : Fns) {S : List SC} {j : Nat} {is : List Nat} {s0 s1 s3 : Option W} (hj : j < 36) (hi : is.length < 20) (hlt : ∀ i, is.getLast? = some i → i < j) (h36 : ∀ i ∈ is, i < 36) :
    tst Φ eWord [s0, s1, some (.loc 0), s3, some (.d (P j))] ⟨[.lst false (is.map wP)], S⟩ = .ok false ⟨[.lst false (is.map wP)], S⟩ := by
  have l1 : ¬ ((is.length : Int) = 20) := by omega
  have c1 : ∀ t, cop .isN (.d (P j)) (.d .non) t = .ok false t := fun t => rfl
  have c2 : ∀ t, cop .eq (.d (.int (is.length : Int))) (.d (.int 20)) t = .ok false t := fun t => by
    simp [cop, peek, cmpD, eqD, l1]
  rcases List.eq_nil_or_concat is with h0 | ⟨l, i, h0⟩
  · subst h0
    simp at c2
    simp [eWord, tst, evE, evEs, c1, c2, truth, bi, items?]
  · subst h0
    have hij := hlt i (by simp)
    have e := P_ngt i (h36 i (by simp)) j hj hij
    have ei : nth (List.map wP l ++ [wP i]) (-1) = some (wP i) := by
      unfold nth idx
      have q : (-1 + ((l.length : Int) + 1)) = l.length := by omega
      have q2 : (0 : Int) ≤ l.length := by omega
      simp [q, q2]
    have c3 : ∀ t, cop .le (.d (P j)) (wP i) t = .ok false t := fun t => by
      simp only [cop, peek, wP, e]
    simp at c2
    simp [eWord, tst, evE, evEs, c1, c2, c3, truth, bi, items?, subs, ei]
/-- one word of the wear -/
theorem word_step (n : Nat) {S : List SC} {r k j : Nat} {ws : List Tx} {is : List Nat} {s0 s4 : Option W} (h : S[r]? = some (wS ws k)) (hj : j < 36) (hi : is.length < 20) (hlt : ∀ i, is.getLast? = some i → i < j) (h36 : ∀ i ∈ is, i < 36) :
    evSs (tower tab (n + 4)) sWord [s0, some (.d (.ref r)), some (.loc 0), some (.d (.str (WD (PQ j)))), s4] ⟨[.lst false (is.map wP)], S⟩ =
      .next [s0, some (.d (.ref r)), some (.loc 0), some (.d (.str (WD (PQ j)))), some (.d (P j))] ⟨[.lst false ((is ++ [j]).map wP)], S.set r (wS ws (k + 1))⟩ := by
  have e1 := pair_of_ok n S j hj
  have e2 : tower tab (n + 4) 16 [.ref r] S = .ok .non (S.set r (wS ws (k + 1))) := step_ok (n + 3) h
  have et := word_test (tower tab (n + 4)) (S := S) (s0 := s0) (s1 := some (.d (.ref r))) (s3 := some (.d (.str (WD (PQ j))))) hj hi hlt h36
  have l2 : is.length + 1 < 1000000 := by omega
  unfold sWord
  rw [seq_cons]
  simp only [evS, evE, evEs, List.getElem?_cons_succ, List.getElem?_cons_zero, R.bind_ok, toDs, toD, List.append_nil, e1, fin, R.stm_ok, putP, List.set_cons_succ, List.set_cons_zero, RS.seq_next]
  rw [seq_cons]
  simp only [evS]
  rw [et]
  simp only [R.stm_ok, Bool.false_eq_true, if_false]
  have h' : ∃ q, S[r]? = some (.ins 0 q) := ⟨_, h⟩
  obtain ⟨q, hq⟩ := h'
  simp [evSs, evS, evE, evEs, hq, e2, toDs, toD, fin, bm, bmTy, writeL, LIM, l2, wP]
end MP
end

/-! text K82X -/
section
set_option Elab.async false
set_option linter.all false
set_option maxRecDepth 100000
set_option maxHeartbeats 1000000
namespace MP
/-- a method of the reader that takes nothing -/
theorem ev_meth0 (Φ : Fns) {f i r k : Nat} {σ : Sg} {L : List LC} {S : List SC} {ws : List Tx} (hσ : σ[i]? = some (some (.d (.ref r)))) (hr : S[r]? = some (wS ws k)) :
    evE Φ (.meth 0 f (.var i) .nil []) σ ⟨L, S⟩ = fin ⟨L, S⟩ (Φ f [.ref r] S) := by
  have h' : ∃ q, S[r]? = some (.ins 0 q) := ⟨_, hr⟩
  obtain ⟨q, hq⟩ := h'
  simp only [evE, hσ, R.bind_ok, hq, if_true, evEs, toDs, List.append_nil]
theorem fld_c0 {r k : Nat} {L : List LC} {S : List SC} {ws : List Tx} (hr : S[r]? = some (wS ws k)) : fldOf ⟨L, S⟩ (.d (.ref r)) 0 = some (.lst (ws.map D.str)) := by
  show (match S[r]? with | some (.ins _ fs) => fs.lookup 0 | _ => none) = _
  rw [hr]; rfl
theorem fld_c1 {r k : Nat} {L : List LC} {S : List SC} {ws : List Tx} (hr : S[r]? = some (wS ws k)) : fldOf ⟨L, S⟩ (.d (.ref r)) 1 = some (.int (k : Nat)) := by
  show (match S[r]? with | some (.ins _ fs) => fs.lookup 1 | _ => none) = _
  rw [hr]; rfl
theorem ev_fld0 (Φ : Fns) {i r k : Nat} {σ : Sg} {L : List LC} {S : List SC} {ws : List Tx} (hσ : σ[i]? = some (some (.d (.ref r)))) (hr : S[r]? = some (wS ws k)) :
    evE Φ (.fld (.var i) 0) σ ⟨L, S⟩ = .ok (.d (.lst (ws.map D.str))) ⟨L, S⟩ := by
  simp only [evE, hσ, R.bind_ok, fld_c0 hr]
theorem ev_fld1 (Φ : Fns) {i r k : Nat} {σ : Sg} {L : List LC} {S : List SC} {ws : List Tx} (hσ : σ[i]? = some (some (.d (.ref r)))) (hr : S[r]? = some (wS ws k)) :
    evE Φ (.fld (.var i) 1) σ ⟨L, S⟩ = .ok (.d (.int (k : Nat))) ⟨L, S⟩ := by
  simp only [evE, hσ, R.bind_ok, fld_c1 hr]
theorem fin_ok (d : D) (L : List LC) (S S' : List SC) : fin ⟨L, S⟩ (.ok d S') = .ok (.d d) ⟨L, S'⟩ := rfl
theorem tst_cmp {Φ : Fns} {op : Cop} {a b : E} {σ : Sg} {t t1 t2 : Stt} {x y : D} {k : Bool} (ha : evE Φ a σ t = .ok (.d x) t1) (hb : evE Φ b σ t1 = .ok (.d y) t2) (hk : cmpD op x y = some k) : tst Φ (.cmp op a b) σ t = .ok k t2 := by
  simp only [tst, evE, ha, hb, R.bind_ok, cop, peek, hk, truth]
theorem evS_ex (Φ : Fns) (e : E) (σ : Sg) (t t1 : Stt) (w : W) (h : evE Φ e σ t = .ok w t1) : evS Φ (.ex e) σ t = .next σ t1 := by simp only [evS, h, R.stm_ok]
theorem evS_if (Φ : Fns) (c : E) (a b : List S) (σ : Sg) (t t1 : Stt) (k : Bool) (h : tst Φ c σ t = .ok k t1) : evS Φ (.ife c a b) σ t = if k = true then evSs Φ a σ t1 else evSs Φ b σ t1 := by simp only [evS, h, R.stm_ok]
theorem read_wear_ok (n : Nat) (S : List SC) (js : List Nat) (hi : js.Pairwise (· < ·)) (h36 : ∀ j ∈ js, j < 36) (hl : js.length ≤ 20) :
    ∃ S', tower tab (n + 5) 21 [.str (wearT js)] S = .ok (.tup (js.map P)) S' := by
  have em := mk_ok (n + 3) S [] [some (.d (.str (wearT js))), none, none, none, none] (wearT js) rfl (wear_len hl)
  have e0 : tab 21 = some a_read_wear := rfl
  obtain ⟨ws, hws⟩ : ∃ ws, ws = splitL ' ' [] (wearT js) := ⟨_, rfl⟩
  rw [← hws] at em
  have h0 : (S ++ [wS ws 0])[S.length]? = some (wS ws 0) := at_new _ _
  by_cases hn : js = []
  · subst hn
    have hw : ws = [['-']] := by rw [hws]; rfl
    subst hw
    have e1 := next_ok (n + 3) h0 (by decide)
    have e2 := step_ok (n + 3) h0
    rw [set_new] at e2
    have e3 := stop_ok (n + 3) (at_new S (wS [['-']] 1)) (by decide)
    refine ⟨S ++ [wS [['-']] 1], ?_⟩
    rw [tw_run e0 rfl]
    show endF (evSs (tower tab (n + 4)) a_read_wear.body [some (.d (.str (wearT []))), none, none, none, none] ⟨[], S⟩) = _
    unfold a_read_wear
    simp only []
    rw [seq_cons]
    simp only [evS]
    rw [em]
    simp only [R.stm_ok, putP, List.set_cons_succ, List.set_cons_zero, RS.seq_next]
    rw [seq_cons]
    simp only [evS, evE, evEs, mkLst, R.bind_ok, R.stm_ok, putP, List.set_cons_succ, List.set_cons_zero, RS.seq_next, List.length_nil, List.nil_append]
    rw [seq_cons]
    have hc : tst (tower tab (n + 4)) (.cmp .eq (.meth 0 15 (.var 1) .nil []) (.con (.str ['-']))) [some (.d (.str (wearT []))), some (.d (.ref S.length)), some (.loc 0), none, none] ⟨[.lst false []], S ++ [wS [['-']] 0]⟩ = .ok true ⟨[.lst false []], S ++ [wS [['-']] 0]⟩ := by
      refine tst_cmp (x := .str ['-']) (y := .str ['-']) ?_ (ev_con _ _ _ _) (by rw [eq_str]; rfl)
      rw [ev_meth0 _ rfl h0]
      show fin _ (tower tab (n + 3 + 1) 15 _ _) = _
      rw [e1]
      rfl
    rw [evS_if _ _ _ _ _ _ _ _ hc, if_pos rfl, seq_cons]
    have x1 : evE (tower tab (n + 4)) (.meth 0 16 (.var 1) .nil []) [some (.d (.str (wearT []))), some (.d (.ref S.length)), some (.loc 0), none, none] ⟨[.lst false []], S ++ [wS [['-']] 0]⟩ = .ok (.d .non) ⟨[.lst false []], S ++ [wS [['-']] 1]⟩ := by
      rw [ev_meth0 _ rfl h0]
      show fin _ (tower tab (n + 3 + 1) 16 _ _) = _
      rw [e2]
      rfl
    have x2 : evE (tower tab (n + 4)) (.meth 0 19 (.var 1) .nil []) [some (.d (.str (wearT []))), some (.d (.ref S.length)), some (.loc 0), none, none] ⟨[.lst false []], S ++ [wS [['-']] 1]⟩ = .ok (.d .non) ⟨[.lst false []], S ++ [wS [['-']] 1]⟩ := by
      rw [ev_meth0 _ rfl (at_new _ _)]
      show fin _ (tower tab (n + 3 + 1) 19 _ _) = _
      rw [e3]
      rfl
    rw [evS_ex _ _ _ _ _ _ x1, RS.seq_next, seq_cons, evS_ex _ _ _ _ _ _ x2, RS.seq_next, seq_cons]
    simp only [evS, evE, evEs, R.bind_ok, toDs, R.stm_ok, RS.seq_ret, endF, deepF, List.map_nil]
  · have hw : ws = js.map fun j => WD (PQ j) := by rw [hws]; exact wear_words h36 hn
    obtain ⟨j0, jr, hj⟩ : ∃ j0 jr, js = j0 :: jr := by cases js with | nil => exact absurd rfl hn | cons a b => exact ⟨a, b, rfl⟩
    have hlen : ws.length = js.length := by rw [hw, List.length_map]
    have e1 := next_ok (n + 3) h0 (by rw [hlen, hj]; simp)
    have e1' : ws[0]'(by rw [hlen, hj]; simp) = WD (PQ j0) := by simp [hw, hj]
    rw [e1'] at e1
    have hj0 := (WD_free j0 (h36 j0 (by rw [hj]; simp))).2
    have hloop : ∃ σ' t', forL (.fix ((ws.map D.str).map W.d)) (.name 3) (evSs (tower tab (n + 4)) sWord) (Src.fix ((ws.map D.str).map W.d)).items [some (.d (.str (wearT js))), some (.d (.ref S.length)), some (.loc 0), none, none] ⟨[.lst false []], S ++ [wS ws 0]⟩ = .next σ' t' ∧
        ∃ (s3 s4 : Option W) (k : Nat), σ' = [some (.d (.str (wearT js))), some (.d (.ref S.length)), some (.loc 0), s3, s4] ∧ t' = ⟨[.lst false ((js.take (Src.fix ((ws.map D.str).map W.d)).items.length).map wP)], S ++ [wS ws k]⟩ := by
      refine for_ok (fun i σ t => ∃ (s3 s4 : Option W) (k : Nat), σ = [some (.d (.str (wearT js))), some (.d (.ref S.length)), some (.loc 0), s3, s4] ∧ t = ⟨[.lst false ((js.take i).map wP)], S ++ [wS ws k]⟩) ⟨none, none, 0, rfl, by simp⟩ (fun _ _ _ _ => rfl) ?_
      rintro i w σ t hwi ⟨s3, s4, k, rfl, rfl⟩
      have hwi' : ∃ (hi : i < js.length), w = .d (.str (WD (PQ js[i]))) := by
        obtain ⟨h1, h2⟩ := List.getElem?_eq_some_iff.mp hwi
        have h1' : i < js.length := by simpa [Src.items, hw] using h1
        exact ⟨h1', by rw [← h2]; simp [Src.items, hw]⟩
      obtain ⟨hij, rfl⟩ := hwi'
      have es := word_step n (s0 := some (.d (.str (wearT js)))) (s4 := s4) (is := js.take i) (at_new S (wS ws k)) (h36 js[i] (List.getElem_mem hij)) (by simp; omega) (by
        intro a ha
        rw [List.pairwise_iff_getElem] at hi
        rw [List.getLast?_eq_getElem?] at ha
        obtain ⟨u1, u2⟩ := List.getElem?_eq_some_iff.mp ha
        rw [List.getElem_take] at u2
        rw [← u2]
        simp at u1
        exact hi _ _ _ _ (by simp; omega)) (fun a ha => h36 a (List.mem_of_mem_take ha))
      rw [set_new] at es
      refine ⟨_, _, _, rfl, es, _, _, k + 1, rfl, ?_⟩
      rw [List.take_add_one, List.getElem?_eq_getElem hij]
      rfl
    obtain ⟨σ', t', el, s3, s4, k, rfl, rfl⟩ := hloop
    have hit : (Src.fix ((ws.map D.str).map W.d)).items.length = js.length := by simp [Src.items, hlen]
    rw [hit, List.take_length] at el
    refine ⟨S ++ [wS ws k], ?_⟩
    rw [tw_run e0 rfl]
    obtain ⟨q, hq⟩ : ∃ q, (S ++ [wS ws 0])[S.length]? = some (.ins 0 q) := ⟨_, h0⟩
    show endF (evSs (tower tab (n + 4)) a_read_wear.body [some (.d (.str (wearT js))), none, none, none, none] ⟨[], S⟩) = _
    unfold a_read_wear
    simp only []
    rw [seq_cons]
    simp only [evS]
    rw [em]
    simp only [R.stm_ok, putP, List.set_cons_succ, List.set_cons_zero, RS.seq_next]
    rw [seq_cons]
    simp only [evS, evE, evEs, mkLst, R.bind_ok, R.stm_ok, putP, List.set_cons_succ, List.set_cons_zero, RS.seq_next, List.length_nil, List.nil_append]
    rw [seq_cons]
    have hc : tst (tower tab (n + 4)) (.cmp .eq (.meth 0 15 (.var 1) .nil []) (.con (.str ['-']))) [some (.d (.str (wearT js))), some (.d (.ref S.length)), some (.loc 0), none, none] ⟨[.lst false []], S ++ [wS ws 0]⟩ = .ok false ⟨[.lst false []], S ++ [wS ws 0]⟩ := by
      refine tst_cmp (x := .str (WD (PQ j0))) (y := .str ['-']) ?_ (ev_con _ _ _ _) (by rw [eq_str, decide_eq_false hj0])
      rw [ev_meth0 _ rfl h0]
      show fin _ (tower tab (n + 3 + 1) 15 _ _) = _
      rw [e1]
      rfl
    rw [evS_if _ _ _ _ _ _ _ _ hc, if_neg (by decide)]
    simp only [evSs, RS.seq_next]
    have hf : evIt (tower tab (n + 4)) (.seq (.fld (.var 1) 0)) [some (.d (.str (wearT js))), some (.d (.ref S.length)), some (.loc 0), none, none] ⟨[.lst false []], S ++ [wS ws 0]⟩ = .ok (.fix ((ws.map D.str).map W.d)) ⟨[.lst false []], S ++ [wS ws 0]⟩ := by
      simp only [evIt]
      rw [ev_fld0 _ rfl h0]
      rfl
    simp only [evS]
    rw [hf]
    simp only [R.stm_ok]
    show endF ((forL _ _ (evSs (tower tab (n + 4)) sWord) _ _ _).seq _) = _
    rw [el]
    simp only [RS.seq_next, evE, evEs, List.getElem?_cons_succ, List.getElem?_cons_zero, R.bind_ok]
    rw [tupleLoc (z := false) (ds := js.map P) (by rw [map_wP]; rfl)]
    simp only [R.stm_ok, RS.seq_ret, endF, deepF]
end MP
end

/-! text K82Y -/
section
set_option Elab.async false
set_option linter.all false
set_option maxRecDepth 100000
set_option maxHeartbeats 1000000
namespace MP
theorem numT0 : numT 0 = ['0'] := by decide +kernel
theorem numT1 : numT 1 = ['1'] := by decide +kernel
theorem numT2 : numT 2 = ['2'] := by decide +kernel
theorem numT3 : numT 3 = ['3'] := by decide +kernel
theorem numT4 : numT 4 = ['4'] := by decide +kernel
theorem numT5 : numT 5 = ['5'] := by decide +kernel
theorem numT6 : numT 6 = ['6'] := by decide +kernel
theorem numT7 : numT 7 = ['7'] := by decide +kernel
theorem numT8 : numT 8 = ['8'] := by decide +kernel
theorem numT9 : numT 9 = ['9'] := by decide +kernel
theorem numT10 : numT 10 = ['1', '0'] := by decide +kernel
theorem numT11 : numT 11 = ['1', '1'] := by decide +kernel
theorem numT12 : numT 12 = ['1', '2'] := by decide +kernel
theorem numw_ok (n : Nat) (S : List SC) (k : Nat) (h : k ≤ 12) : tower tab (n + 1) 12 [.str (numT k)] S = .ok (.int (k : Nat)) S := by
  rw [tw_run (fn := a_number_of_word) rfl rfl]
  have hk : k = 0 ∨ k = 1 ∨ k = 2 ∨ k = 3 ∨ k = 4 ∨ k = 5 ∨ k = 6 ∨ k = 7 ∨ k = 8 ∨ k = 9 ∨ k = 10 ∨ k = 11 ∨ k = 12 := by omega
  rcases hk with rfl | rfl | rfl | rfl | rfl | rfl | rfl | rfl | rfl | rfl | rfl | rfl | rfl
  · simp [numT0, a_number_of_word, run, evSs, evS, tst, evE, evEs, evIfs, evIt, subs, items?, lstOnly?, extOnly?, nth, idx, cop, peek, cmpD, truth, bop_int, bop_str, bI_add, bI_sub, bi, bm, bmTy, isTy, subsSet, writeL, dsOf?, dOf?, LIM, putP, mkLst, toDs, toD, fin, endF, deepF, srcOf, Src.items, fldOf, putFl, compL, Src.still, evFs, fmtM, fmtOf, wipeS, signsOf, boolsOf?, pushO, eqD, intOf?, digit?]
  · simp [numT1, a_number_of_word, run, evSs, evS, tst, evE, evEs, evIfs, evIt, subs, items?, lstOnly?, extOnly?, nth, idx, cop, peek, cmpD, truth, bop_int, bop_str, bI_add, bI_sub, bi, bm, bmTy, isTy, subsSet, writeL, dsOf?, dOf?, LIM, putP, mkLst, toDs, toD, fin, endF, deepF, srcOf, Src.items, fldOf, putFl, compL, Src.still, evFs, fmtM, fmtOf, wipeS, signsOf, boolsOf?, pushO, eqD, intOf?, digit?]
  · simp [numT2, a_number_of_word, run, evSs, evS, tst, evE, evEs, evIfs, evIt, subs, items?, lstOnly?, extOnly?, nth, idx, cop, peek, cmpD, truth, bop_int, bop_str, bI_add, bI_sub, bi, bm, bmTy, isTy, subsSet, writeL, dsOf?, dOf?, LIM, putP, mkLst, toDs, toD, fin, endF, deepF, srcOf, Src.items, fldOf, putFl, compL, Src.still, evFs, fmtM, fmtOf, wipeS, signsOf, boolsOf?, pushO, eqD, intOf?, digit?]
  · simp [numT3, a_number_of_word, run, evSs, evS, tst, evE, evEs, evIfs, evIt, subs, items?, lstOnly?, extOnly?, nth, idx, cop, peek, cmpD, truth, bop_int, bop_str, bI_add, bI_sub, bi, bm, bmTy, isTy, subsSet, writeL, dsOf?, dOf?, LIM, putP, mkLst, toDs, toD, fin, endF, deepF, srcOf, Src.items, fldOf, putFl, compL, Src.still, evFs, fmtM, fmtOf, wipeS, signsOf, boolsOf?, pushO, eqD, intOf?, digit?]
  · simp [numT4, a_number_of_word, run, evSs, evS, tst, evE, evEs, evIfs, evIt, subs, items?, lstOnly?, extOnly?, nth, idx, cop, peek, cmpD, truth, bop_int, bop_str, bI_add, bI_sub, bi, bm, bmTy, isTy, subsSet, writeL, dsOf?, dOf?, LIM, putP, mkLst, toDs, toD, fin, endF, deepF, srcOf, Src.items, fldOf, putFl, compL, Src.still, evFs, fmtM, fmtOf, wipeS, signsOf, boolsOf?, pushO, eqD, intOf?, digit?]
  · simp [numT5, a_number_of_word, run, evSs, evS, tst, evE, evEs, evIfs, evIt, subs, items?, lstOnly?, extOnly?, nth, idx, cop, peek, cmpD, truth, bop_int, bop_str, bI_add, bI_sub, bi, bm, bmTy, isTy, subsSet, writeL, dsOf?, dOf?, LIM, putP, mkLst, toDs, toD, fin, endF, deepF, srcOf, Src.items, fldOf, putFl, compL, Src.still, evFs, fmtM, fmtOf, wipeS, signsOf, boolsOf?, pushO, eqD, intOf?, digit?]
  · simp [numT6, a_number_of_word, run, evSs, evS, tst, evE, evEs, evIfs, evIt, subs, items?, lstOnly?, extOnly?, nth, idx, cop, peek, cmpD, truth, bop_int, bop_str, bI_add, bI_sub, bi, bm, bmTy, isTy, subsSet, writeL, dsOf?, dOf?, LIM, putP, mkLst, toDs, toD, fin, endF, deepF, srcOf, Src.items, fldOf, putFl, compL, Src.still, evFs, fmtM, fmtOf, wipeS, signsOf, boolsOf?, pushO, eqD, intOf?, digit?]
  · simp [numT7, a_number_of_word, run, evSs, evS, tst, evE, evEs, evIfs, evIt, subs, items?, lstOnly?, extOnly?, nth, idx, cop, peek, cmpD, truth, bop_int, bop_str, bI_add, bI_sub, bi, bm, bmTy, isTy, subsSet, writeL, dsOf?, dOf?, LIM, putP, mkLst, toDs, toD, fin, endF, deepF, srcOf, Src.items, fldOf, putFl, compL, Src.still, evFs, fmtM, fmtOf, wipeS, signsOf, boolsOf?, pushO, eqD, intOf?, digit?]
  · simp [numT8, a_number_of_word, run, evSs, evS, tst, evE, evEs, evIfs, evIt, subs, items?, lstOnly?, extOnly?, nth, idx, cop, peek, cmpD, truth, bop_int, bop_str, bI_add, bI_sub, bi, bm, bmTy, isTy, subsSet, writeL, dsOf?, dOf?, LIM, putP, mkLst, toDs, toD, fin, endF, deepF, srcOf, Src.items, fldOf, putFl, compL, Src.still, evFs, fmtM, fmtOf, wipeS, signsOf, boolsOf?, pushO, eqD, intOf?, digit?]
  · simp [numT9, a_number_of_word, run, evSs, evS, tst, evE, evEs, evIfs, evIt, subs, items?, lstOnly?, extOnly?, nth, idx, cop, peek, cmpD, truth, bop_int, bop_str, bI_add, bI_sub, bi, bm, bmTy, isTy, subsSet, writeL, dsOf?, dOf?, LIM, putP, mkLst, toDs, toD, fin, endF, deepF, srcOf, Src.items, fldOf, putFl, compL, Src.still, evFs, fmtM, fmtOf, wipeS, signsOf, boolsOf?, pushO, eqD, intOf?, digit?]
  · simp [numT10, a_number_of_word, run, evSs, evS, tst, evE, evEs, evIfs, evIt, subs, items?, lstOnly?, extOnly?, nth, idx, cop, peek, cmpD, truth, bop_int, bop_str, bI_add, bI_sub, bi, bm, bmTy, isTy, subsSet, writeL, dsOf?, dOf?, LIM, putP, mkLst, toDs, toD, fin, endF, deepF, srcOf, Src.items, fldOf, putFl, compL, Src.still, evFs, fmtM, fmtOf, wipeS, signsOf, boolsOf?, pushO, eqD, intOf?, digit?]
  · simp [numT11, a_number_of_word, run, evSs, evS, tst, evE, evEs, evIfs, evIt, subs, items?, lstOnly?, extOnly?, nth, idx, cop, peek, cmpD, truth, bop_int, bop_str, bI_add, bI_sub, bi, bm, bmTy, isTy, subsSet, writeL, dsOf?, dOf?, LIM, putP, mkLst, toDs, toD, fin, endF, deepF, srcOf, Src.items, fldOf, putFl, compL, Src.still, evFs, fmtM, fmtOf, wipeS, signsOf, boolsOf?, pushO, eqD, intOf?, digit?]
  · simp [numT12, a_number_of_word, run, evSs, evS, tst, evE, evEs, evIfs, evIt, subs, items?, lstOnly?, extOnly?, nth, idx, cop, peek, cmpD, truth, bop_int, bop_str, bI_add, bI_sub, bi, bm, bmTy, isTy, subsSet, writeL, dsOf?, dOf?, LIM, putP, mkLst, toDs, toD, fin, endF, deepF, srcOf, Src.items, fldOf, putFl, compL, Src.still, evFs, fmtM, fmtOf, wipeS, signsOf, boolsOf?, pushO, eqD, intOf?, digit?]
theorem number_ok (n : Nat) {S : List SC} {r k v : Nat} {lo be : Int} {ws : List Tx} (h : S[r]? = some (wS ws k)) (hk : ws[k]? = some (numT v)) (hv : v ≤ 12) (h1 : lo ≤ v) (h2 : (v : Int) < be) :
    tower tab (n + 2) 18 [.ref r, .int lo, .int be] S = .ok (.int (v : Nat)) (S.set r (wS ws (k + 1))) := by
  obtain ⟨hk1, hk2⟩ := List.getElem?_eq_some_iff.mp hk
  have e1 := next_ok n h hk1
  rw [hk2] at e1
  have e2 := step_ok n h
  have e3 := numw_ok n S v hv
  rw [tw_run (fn := a_Words_number) rfl rfl]
  have h' : ∃ q, S[r]? = some (.ins 0 q) := ⟨_, h⟩
  obtain ⟨q, hq⟩ := h'
  simp [a_Words_number, evSs, evS, tst, evE, evEs, toDs, toD, hq, fin, e1, e2, e3, cop, peek, cmpD, eqD, truth, putP, h1, h2, endF, deepF]
end MP
end

/-! text K82Z -/
section
set_option Elab.async false
set_option linter.all false
set_option maxRecDepth 100000
set_option maxHeartbeats 1000000
namespace MP
theorem nth_last {α : Type} (xs : List α) (x : α) : nth (xs ++ [x]) (-1) = some x := by
  unfold nth idx
  have q : (-1 + ((xs.length : Int) + 1)) = xs.length := by omega
  have q2 : (0 : Int) ≤ xs.length := by omega
  simp [q, q2]
theorem ev_last (Φ : Fns) {i d : Nat} {σ : Sg} {L : List LC} {S : List SC} {xs : List D} {x : D} (hσ : σ[i]? = some (some (.d (.ref d)))) (hd : S[d]? = some (.lst (xs ++ [x]))) :
    evE Φ (.ix (.var i) (.neg (.con (.int 1)))) σ ⟨L, S⟩ = .ok (.d x) ⟨L, S⟩ := by
  simp only [evE, hσ, R.bind_ok, subs, items?, hd, List.map_append, List.map_cons, List.map_nil]
  rw [show (-1 : Int) = -1 from rfl, nth_last]
theorem ev_lastk (Φ : Fns) {i d j : Nat} {σ : Sg} {L : List LC} {S : List SC} {xs ys : List D} {y : D} (hσ : σ[i]? = some (some (.d (.ref d)))) (hd : S[d]? = some (.lst (xs ++ [.tup ys]))) (hy : ys[j]? = some y) :
    evE Φ (.ix (.ix (.var i) (.neg (.con (.int 1)))) (.con (.int (j : Nat)))) σ ⟨L, S⟩ = .ok (.d y) ⟨L, S⟩ := by
  rw [evE, ev_last Φ hσ hd]
  simp only [R.bind_ok, evE, subs, items?]
  have hj := (List.getElem?_eq_some_iff.mp hy).1
  unfold nth
  rw [idxOk (by omega) (by simpa using hj)]
  simp [hy]
/-- a method of the reader that takes two numbers -/
theorem ev_meth2 (Φ : Fns) {f i r k : Nat} {a b : E} {x y : D} {σ : Sg} {L : List LC} {S : List SC} {ws : List Tx} (hσ : σ[i]? = some (some (.d (.ref r)))) (hr : S[r]? = some (wS ws k)) (ha : evE Φ a σ ⟨L, S⟩ = .ok (.d x) ⟨L, S⟩) (hb : evE Φ b σ ⟨L, S⟩ = .ok (.d y) ⟨L, S⟩) :
    evE Φ (.meth 0 f (.var i) (.cons a (.cons b .nil)) []) σ ⟨L, S⟩ = fin ⟨L, S⟩ (Φ f [.ref r, x, y] S) := by
  have h' : ∃ q, S[r]? = some (.ins 0 q) := ⟨_, hr⟩
  obtain ⟨q, hq⟩ := h'
  simp only [evE, hσ, R.bind_ok, hq, if_true, evEs, toDs, toD, List.append_nil, ha, hb]
theorem evS_set (Φ : Fns) (i : Nat) (e : E) (σ : Sg) (t t1 : Stt) (w : W) (h : evE Φ e σ t = .ok w t1) : evS Φ (.set (.name i) e) σ t = .next (σ.set i (some w)) t1 := by simp only [evS, h, R.stm_ok, putP]
theorem var_at (Φ : Fns) {i : Nat} {w : W} {σ : Sg} {t : Stt} (h : σ[i]? = some (some w)) : evE Φ (.var i) σ t = .ok w t := by simp only [evE, h]
/-- the sign of a code -/
def sgT (c : Nat) : Tx := [SGN.getD (c % 6) 'a']
theorem sg_in (c : Nat) : SGN.getD (c % 6) 'a' ∈ SGN := by
  have : ∀ i, i < 6 → SGN.getD i 'a' ∈ SGN := by decide
  exact this _ (Nat.mod_lt _ (by decide))
theorem sg_lt (a b : Nat) (h : a % 6 < b % 6) : ¬ (sgT b ≤ sgT a) := by
  have : ∀ i, i < 6 → ∀ j, j < 6 → i < j → ¬ ([SGN.getD j 'a'] ≤ [SGN.getD i 'a']) := by decide
  exact this _ (Nat.mod_lt _ (by decide)) _ (Nat.mod_lt _ (by decide)) h
end MP
end

/-! text K82AA -/
section
set_option Elab.async false
set_option linter.all false
set_option maxRecDepth 100000
set_option maxHeartbeats 1000000
namespace MP
/-- one door read, when doors are there -/
theorem door_more (n : Nat) {S : List SC} {r d k : Nat} {rooms : Int} {ws : List Tx} {ps : List (Nat × Nat)} {l q : Nat × Nat} (h : S[r]? = some (wS ws k)) (hd : S[d]? = some (.lst ((ps ++ [l]).map DD)))
    (hl : ps.length + 1 < 72) (hlq : l.1 < q.1) (hq : q.1 < 72) (h1 : ((q.1 / 6 : Nat) : Int) < rooms) (h2 : (q.2 : Int) < rooms) (hr : rooms ≤ 12)
    (k0 : ws[k]? = some (numT (q.1 / 6))) (k1 : ws[k + 1]? = some (sgT q.1)) (k2 : ws[k + 2]? = some (numT q.2)) :
    tower tab (n + 3) 22 [.ref r, .int rooms, .ref d] S = .ok (DD q) (S.set r (wS ws (k + 3))) := by
  have hdr : d ≠ r := by rintro rfl; rw [h] at hd; cases hd
  have hget : ∀ m, (S.set r (wS ws m))[r]? = some (wS ws m) := fun m => set_get h
  have hgd : ∀ m, (S.set r (wS ws m))[d]? = some (.lst (ps.map DD ++ [DD l])) := fun m => by
    rw [List.getElem?_set_ne (Ne.symm hdr), hd, List.map_append]; rfl
  have hd' : S[d]? = some (.lst (ps.map DD ++ [DD l])) := by rw [hd, List.map_append]; rfl
  have hss : ∀ m m', (S.set r (wS ws m)).set r (wS ws m') = S.set r (wS ws m') := fun m m' => by rw [List.set_set]
  have e1 := number_ok n (lo := ((l.1 / 6 : Nat) : Int)) (be := rooms) h k0 (by omega) (by omega) h1
  obtain ⟨i1, j1⟩ := List.getElem?_eq_some_iff.mp k1
  have e2 := next_ok (n + 1) (hget (k + 1)) i1
  rw [j1] at e2
  have e3 := step_ok (n + 1) (hget (k + 1))
  rw [hss] at e3
  have e4 := number_ok n (lo := 0) (be := rooms) (hget (k + 1 + 1)) k2 (by omega) (by omega) h2
  rw [hss] at e4
  rw [tw_run (fn := a_read_door) rfl rfl]
  show endF (evSs (tower tab (n + 2)) a_read_door.body [some (.d (.ref r)), some (.d (.int rooms)), some (.d (.ref d)), none, none, none] ⟨[], S⟩) = _
  unfold a_read_door
  simp only []
  rw [seq_cons]
  have c1 : tst (tower tab (n + 2)) (.cmp .eq (.bi .len (.cons (.var 2) .nil)) (.con (.int 72))) [some (.d (.ref r)), some (.d (.int rooms)), some (.d (.ref d)), none, none, none] ⟨[], S⟩ = .ok false ⟨[], S⟩ := by
    refine tst_cmp (x := .int ((ps.length : Int) + 1)) (y := .int 72) ?_ (ev_con _ _ _ _) ?_
    · simp [evE, evEs, bi, items?, hd']
    · simp only [cmpD, eqD]; rw [decide_eq_false (by omega)]
  rw [evS_if _ _ _ _ _ _ _ _ c1, if_neg (by decide)]
  simp only [evSs, RS.seq_next]
  have t2 : ∀ (s3 s4 s5 : Option W) (S' : List SC), S'[d]? = some (.lst (ps.map DD ++ [DD l])) → tst (tower tab (n + 2)) (.var 2) [some (.d (.ref r)), some (.d (.int rooms)), some (.d (.ref d)), s3, s4, s5] ⟨[], S'⟩ = .ok true ⟨[], S'⟩ := by
    intro s3 s4 s5 S' hS
    simp [tst, evE, truth, items?, hS]
  have x1 : evE (tower tab (n + 2)) (.meth 0 18 (.var 0) (.cons (.ite (.var 2) (.ix (.ix (.var 2) (.neg (.con (.int 1)))) (.con (.int 0))) (.con (.int 0))) (.cons (.var 1) .nil)) []) [some (.d (.ref r)), some (.d (.int rooms)), some (.d (.ref d)), none, none, none] ⟨[], S⟩ = .ok (.d (.int ((q.1 / 6 : Nat) : Int))) ⟨[], S.set r (wS ws (k + 1))⟩ := by
    rw [ev_meth2 _ rfl h (x := .int ((l.1 / 6 : Nat) : Int)) (y := .int rooms) ?_ (var_at _ rfl), e1]
    · rfl
    · rw [ev_ite_tt (t2 _ _ _ _ hd')]
      exact ev_lastk (j := 0) _ rfl hd' rfl
  rw [evS_set _ _ _ _ _ _ _ x1]
  simp only [RS.seq_next, List.set_cons_succ, List.set_cons_zero]
  have x2 : ∀ s5, evE (tower tab (n + 2)) (.meth 0 15 (.var 0) .nil []) [some (.d (.ref r)), some (.d (.int rooms)), some (.d (.ref d)), some (.d (.int ((q.1 / 6 : Nat) : Int))), none, s5] ⟨[], S.set r (wS ws (k + 1))⟩ = .ok (.d (.str (sgT q.1))) ⟨[], S.set r (wS ws (k + 1))⟩ := by
    intro s5
    rw [ev_meth0 _ rfl (hget _)]
    show fin _ (tower tab (n + 1 + 1) 15 _ _) = _
    rw [e2]
    rfl
  rw [evS_set _ _ _ _ _ _ _ (x2 none)]
  simp only [RS.seq_next, List.set_cons_succ, List.set_cons_zero]
  have x3 : evE (tower tab (n + 2)) (.and (.bi .bool (.cons (.var 2) .nil)) (.cmp .eq (.ix (.ix (.var 2) (.neg (.con (.int 1)))) (.con (.int 0))) (.var 3))) [some (.d (.ref r)), some (.d (.int rooms)), some (.d (.ref d)), some (.d (.int ((q.1 / 6 : Nat) : Int))), some (.d (.str (sgT q.1))), none] ⟨[], S.set r (wS ws (k + 1))⟩ = .ok (.d (.bl (decide (((l.1 / 6 : Nat) : Int) = ((q.1 / 6 : Nat) : Int))))) ⟨[], S.set r (wS ws (k + 1))⟩ := by
    have hl0 := ev_lastk (j := 0) (i := 2) (tower tab (n + 2)) (σ := [some (.d (.ref r)), some (.d (.int rooms)), some (.d (.ref d)), some (.d (.int ((q.1 / 6 : Nat) : Int))), some (.d (.str (sgT q.1))), none]) (L := []) rfl (hgd (k + 1)) rfl
    rw [evE]
    have hb : evE (tower tab (n + 2)) (.bi .bool (.cons (.var 2) .nil)) [some (.d (.ref r)), some (.d (.int rooms)), some (.d (.ref d)), some (.d (.int ((q.1 / 6 : Nat) : Int))), some (.d (.str (sgT q.1))), none] ⟨[], S.set r (wS ws (k + 1))⟩ = .ok (.d (.bl true)) ⟨[], S.set r (wS ws (k + 1))⟩ := by
      simp [evE, evEs, bi, lstOnly?, items?, hgd]
    rw [hb]
    simp only [R.bind_ok, truth, if_true]
    rw [evE]
    erw [hl0]
    simp [evE, cop, peek, cmpD, eqD]
  rw [evS_set _ _ _ _ _ _ _ x3]
  simp only [RS.seq_next, List.set_cons_succ, List.set_cons_zero]
  obtain ⟨σ4, hσ4⟩ : ∃ σ4 : Sg, σ4 = [some (.d (.ref r)), some (.d (.int rooms)), some (.d (.ref d)), some (.d (.int ((q.1 / 6 : Nat) : Int))), some (.d (.str (sgT q.1))), some (.d (.bl (decide (((l.1 / 6 : Nat) : Int) = ((q.1 / 6 : Nat) : Int)))))] := ⟨_, rfl⟩
  rw [← hσ4]
  have c4 : tst (tower tab (n + 2)) (.or (.cmp .ne (.bi .len (.cons (.var 4) .nil)) (.con (.int 1))) (.or (.cmp .notin (.var 4) (.con (.str ['a', 'b', 'c', 'd', 'e', 'f']))) (.and (.var 5) (.cmp .le (.var 4) (.ix (.ix (.var 2) (.neg (.con (.int 1)))) (.con (.int 1))))))) σ4 ⟨[], S.set r (wS ws (k + 1))⟩ = .ok false ⟨[], S.set r (wS ws (k + 1))⟩ := by
    have hl1 := ev_lastk (j := 1) (i := 2) (tower tab (n + 2)) (σ := σ4) (L := []) (by rw [hσ4]; rfl) (hgd (k + 1)) rfl
    have y1 : evE (tower tab (n + 2)) (.cmp .ne (.bi .len (.cons (.var 4) .nil)) (.con (.int 1))) σ4 ⟨[], S.set r (wS ws (k + 1))⟩ = .ok (.d (.bl false)) ⟨[], S.set r (wS ws (k + 1))⟩ := by
      rw [hσ4]; simp [evE, evEs, bi, sgT, LIM, cop, peek, cmpD, eqD]
    have y2 : evE (tower tab (n + 2)) (.cmp .notin (.var 4) (.con (.str ['a', 'b', 'c', 'd', 'e', 'f']))) σ4 ⟨[], S.set r (wS ws (k + 1))⟩ = .ok (.d (.bl false)) ⟨[], S.set r (wS ws (k + 1))⟩ := by
      have := sg_in q.1
      rw [hσ4]
      simp only [evE, List.getElem?_cons_succ, List.getElem?_cons_zero, R.bind_ok, cop, peek, sgT, cmpD]
      rw [decide_eq_true (by exact this)]
      rfl
    have y3 : evE (tower tab (n + 2)) (.and (.var 5) (.cmp .le (.var 4) (.ix (.ix (.var 2) (.neg (.con (.int 1)))) (.con (.int 1))))) σ4 ⟨[], S.set r (wS ws (k + 1))⟩ = .ok (.d (.bl false)) ⟨[], S.set r (wS ws (k + 1))⟩ := by
      have v5 : evE (tower tab (n + 2)) (.var 5) σ4 ⟨[], S.set r (wS ws (k + 1))⟩ = .ok (.d (.bl (decide (((l.1 / 6 : Nat) : Int) = ((q.1 / 6 : Nat) : Int))))) ⟨[], S.set r (wS ws (k + 1))⟩ := by rw [hσ4]; rfl
      have v4 : evE (tower tab (n + 2)) (.var 4) σ4 ⟨[], S.set r (wS ws (k + 1))⟩ = .ok (.d (.str (sgT q.1))) ⟨[], S.set r (wS ws (k + 1))⟩ := by rw [hσ4]; rfl
      rw [evE, v5]
      simp only [R.bind_ok, truth]
      by_cases hs : ((l.1 / 6 : Nat) : Int) = ((q.1 / 6 : Nat) : Int)
      · rw [decide_eq_true hs, if_pos rfl, evE, v4]
        simp only [R.bind_ok]
        erw [hl1]
        have hlt : l.1 % 6 < q.1 % 6 := by omega
        have hn := sg_lt _ _ hlt
        simp only [R.bind_ok, cop, peek, cmpD]
        have : decide ([SGN.getD (l.1 % 6) 'a'] < sgT q.1) = true := decide_eq_true (by simpa [sgT] using hn)
        rw [this]
        rfl
      · rw [decide_eq_false hs]
        rfl
    simp only [tst]
    rw [evE, y1]
    simp only [R.bind_ok, truth, Bool.false_eq_true, if_false]
    rw [evE, y2]
    simp only [R.bind_ok, truth, Bool.false_eq_true, if_false]
    rw [y3]
    rfl
  rw [evS_if _ _ _ _ _ _ _ _ c4, if_neg (by decide)]
  simp only [evSs, RS.seq_next]
  have x5 : evE (tower tab (n + 2)) (.meth 0 16 (.var 0) .nil []) σ4 ⟨[], S.set r (wS ws (k + 1))⟩ = .ok (.d .non) ⟨[], S.set r (wS ws (k + 1 + 1))⟩ := by
    rw [ev_meth0 _ (by rw [hσ4]; rfl) (hget _)]
    show fin _ (tower tab (n + 1 + 1) 16 _ _) = _
    rw [e3]
    rfl
  rw [evS_ex _ _ _ _ _ _ x5]
  simp only [RS.seq_next]
  have x6 : evE (tower tab (n + 2)) (.meth 0 18 (.var 0) (.cons (.con (.int 0)) (.cons (.var 1) .nil)) []) σ4 ⟨[], S.set r (wS ws (k + 1 + 1))⟩ = .ok (.d (.int (q.2 : Nat))) ⟨[], S.set r (wS ws (k + 3))⟩ := by
    rw [ev_meth2 _ (by rw [hσ4]; rfl) (hget _) (ev_con _ _ _ _) (var_at _ (by rw [hσ4]; rfl)), e4]
    rfl
  rw [ev_ret]
  have x7 : evE (tower tab (n + 2)) (.tup (.cons (.var 3) (.cons (.var 4) (.cons (.meth 0 18 (.var 0) (.cons (.con (.int 0)) (.cons (.var 1) .nil)) []) .nil)))) σ4 ⟨[], S.set r (wS ws (k + 1 + 1))⟩ = .ok (.d (DD q)) ⟨[], S.set r (wS ws (k + 3))⟩ := by
    have w3 : ∀ t, evE (tower tab (n + 2)) (.var 3) σ4 t = .ok (.d (.int ((q.1 / 6 : Nat) : Int))) t := fun t => by rw [hσ4]; rfl
    have w4 : ∀ t, evE (tower tab (n + 2)) (.var 4) σ4 t = .ok (.d (.str (sgT q.1))) t := fun t => by rw [hσ4]; rfl
    rw [evE, evEs, w3]
    simp only [R.bind_ok]
    rw [evEs, w4]
    simp only [R.bind_ok]
    rw [evEs, x6]
    simp only [R.bind_ok, evEs, toDs, toD]
    rfl
  rw [x7, end_d]
end MP
end

/-! text K82AB -/
section
set_option Elab.async false
set_option linter.all false
set_option maxRecDepth 100000
set_option maxHeartbeats 1000000
namespace MP
/-- the first door read -/
theorem door_first (n : Nat) {S : List SC} {r k : Nat} {rooms : Int} {ws : List Tx} {q : Nat × Nat} (h : S[r]? = some (wS ws k))
    (hq : q.1 < 72) (h1 : ((q.1 / 6 : Nat) : Int) < rooms) (h2 : (q.2 : Int) < rooms) (hr : rooms ≤ 12)
    (k0 : ws[k]? = some (numT (q.1 / 6))) (k1 : ws[k + 1]? = some (sgT q.1)) (k2 : ws[k + 2]? = some (numT q.2)) :
    tower tab (n + 3) 22 [.ref r, .int rooms, .lst []] S = .ok (DD q) (S.set r (wS ws (k + 3))) := by
  have hget : ∀ m, (S.set r (wS ws m))[r]? = some (wS ws m) := fun m => set_get h
  have hss : ∀ m m', (S.set r (wS ws m)).set r (wS ws m') = S.set r (wS ws m') := fun m m' => by rw [List.set_set]
  have e1 := number_ok n (lo := 0) (be := rooms) h k0 (by omega) (by omega) h1
  obtain ⟨i1, j1⟩ := List.getElem?_eq_some_iff.mp k1
  have e2 := next_ok (n + 1) (hget (k + 1)) i1
  rw [j1] at e2
  have e3 := step_ok (n + 1) (hget (k + 1))
  rw [hss] at e3
  have e4 := number_ok n (lo := 0) (be := rooms) (hget (k + 1 + 1)) k2 (by omega) (by omega) h2
  rw [hss] at e4
  rw [tw_run (fn := a_read_door) rfl rfl]
  show endF (evSs (tower tab (n + 2)) a_read_door.body [some (.d (.ref r)), some (.d (.int rooms)), some (.d (.lst [])), none, none, none] ⟨[], S⟩) = _
  unfold a_read_door
  simp only []
  rw [seq_cons]
  have c1 : tst (tower tab (n + 2)) (.cmp .eq (.bi .len (.cons (.var 2) .nil)) (.con (.int 72))) [some (.d (.ref r)), some (.d (.int rooms)), some (.d (.lst [])), none, none, none] ⟨[], S⟩ = .ok false ⟨[], S⟩ := by
    refine tst_cmp (x := .int 0) (y := .int 72) ?_ (ev_con _ _ _ _) ?_
    · simp [evE, evEs, bi, items?]
    · rfl
  rw [evS_if _ _ _ _ _ _ _ _ c1, if_neg (by decide)]
  simp only [evSs, RS.seq_next]
  have x1 : evE (tower tab (n + 2)) (.meth 0 18 (.var 0) (.cons (.ite (.var 2) (.ix (.ix (.var 2) (.neg (.con (.int 1)))) (.con (.int 0))) (.con (.int 0))) (.cons (.var 1) .nil)) []) [some (.d (.ref r)), some (.d (.int rooms)), some (.d (.lst [])), none, none, none] ⟨[], S⟩ = .ok (.d (.int ((q.1 / 6 : Nat) : Int))) ⟨[], S.set r (wS ws (k + 1))⟩ := by
    rw [ev_meth2 _ rfl h (x := .int 0) (y := .int rooms) ?_ (var_at _ rfl), e1]
    · rfl
    · rw [ev_ite_ff (by simp [tst, evE, truth, items?])]
      exact ev_con _ _ _ _
  rw [evS_set _ _ _ _ _ _ _ x1]
  simp only [RS.seq_next, List.set_cons_succ, List.set_cons_zero]
  have x2 : ∀ s5, evE (tower tab (n + 2)) (.meth 0 15 (.var 0) .nil []) [some (.d (.ref r)), some (.d (.int rooms)), some (.d (.lst [])), some (.d (.int ((q.1 / 6 : Nat) : Int))), none, s5] ⟨[], S.set r (wS ws (k + 1))⟩ = .ok (.d (.str (sgT q.1))) ⟨[], S.set r (wS ws (k + 1))⟩ := by
    intro s5
    rw [ev_meth0 _ rfl (hget _)]
    show fin _ (tower tab (n + 1 + 1) 15 _ _) = _
    rw [e2]
    rfl
  rw [evS_set _ _ _ _ _ _ _ (x2 none)]
  simp only [RS.seq_next, List.set_cons_succ, List.set_cons_zero]
  have x3 : evE (tower tab (n + 2)) (.and (.bi .bool (.cons (.var 2) .nil)) (.cmp .eq (.ix (.ix (.var 2) (.neg (.con (.int 1)))) (.con (.int 0))) (.var 3))) [some (.d (.ref r)), some (.d (.int rooms)), some (.d (.lst [])), some (.d (.int ((q.1 / 6 : Nat) : Int))), some (.d (.str (sgT q.1))), none] ⟨[], S.set r (wS ws (k + 1))⟩ = .ok (.d (.bl false)) ⟨[], S.set r (wS ws (k + 1))⟩ := by
    simp [evE, evEs, bi, lstOnly?, items?, truth]
  rw [evS_set _ _ _ _ _ _ _ x3]
  simp only [RS.seq_next, List.set_cons_succ, List.set_cons_zero]
  obtain ⟨σ4, hσ4⟩ : ∃ σ4 : Sg, σ4 = [some (.d (.ref r)), some (.d (.int rooms)), some (.d (.lst [])), some (.d (.int ((q.1 / 6 : Nat) : Int))), some (.d (.str (sgT q.1))), some (.d (.bl false))] := ⟨_, rfl⟩
  rw [← hσ4]
  have c4 : tst (tower tab (n + 2)) (.or (.cmp .ne (.bi .len (.cons (.var 4) .nil)) (.con (.int 1))) (.or (.cmp .notin (.var 4) (.con (.str ['a', 'b', 'c', 'd', 'e', 'f']))) (.and (.var 5) (.cmp .le (.var 4) (.ix (.ix (.var 2) (.neg (.con (.int 1)))) (.con (.int 1))))))) σ4 ⟨[], S.set r (wS ws (k + 1))⟩ = .ok false ⟨[], S.set r (wS ws (k + 1))⟩ := by
    have y1 : evE (tower tab (n + 2)) (.cmp .ne (.bi .len (.cons (.var 4) .nil)) (.con (.int 1))) σ4 ⟨[], S.set r (wS ws (k + 1))⟩ = .ok (.d (.bl false)) ⟨[], S.set r (wS ws (k + 1))⟩ := by
      rw [hσ4]; simp [evE, evEs, bi, sgT, LIM, cop, peek, cmpD, eqD]
    have y2 : evE (tower tab (n + 2)) (.cmp .notin (.var 4) (.con (.str ['a', 'b', 'c', 'd', 'e', 'f']))) σ4 ⟨[], S.set r (wS ws (k + 1))⟩ = .ok (.d (.bl false)) ⟨[], S.set r (wS ws (k + 1))⟩ := by
      have := sg_in q.1
      rw [hσ4]
      simp only [evE, List.getElem?_cons_succ, List.getElem?_cons_zero, R.bind_ok, cop, peek, sgT, cmpD]
      rw [decide_eq_true (by exact this)]
      rfl
    have y3 : evE (tower tab (n + 2)) (.and (.var 5) (.cmp .le (.var 4) (.ix (.ix (.var 2) (.neg (.con (.int 1)))) (.con (.int 1))))) σ4 ⟨[], S.set r (wS ws (k + 1))⟩ = .ok (.d (.bl false)) ⟨[], S.set r (wS ws (k + 1))⟩ := by
      rw [hσ4]; simp [evE, truth]
    simp only [tst]
    rw [evE, y1]
    simp only [R.bind_ok, truth, Bool.false_eq_true, if_false]
    rw [evE, y2]
    simp only [R.bind_ok, truth, Bool.false_eq_true, if_false]
    rw [y3]
    rfl
  rw [evS_if _ _ _ _ _ _ _ _ c4, if_neg (by decide)]
  simp only [evSs, RS.seq_next]
  have x5 : evE (tower tab (n + 2)) (.meth 0 16 (.var 0) .nil []) σ4 ⟨[], S.set r (wS ws (k + 1))⟩ = .ok (.d .non) ⟨[], S.set r (wS ws (k + 1 + 1))⟩ := by
    rw [ev_meth0 _ (by rw [hσ4]; rfl) (hget _)]
    show fin _ (tower tab (n + 1 + 1) 16 _ _) = _
    rw [e3]
    rfl
  rw [evS_ex _ _ _ _ _ _ x5]
  simp only [RS.seq_next]
  have x6 : evE (tower tab (n + 2)) (.meth 0 18 (.var 0) (.cons (.con (.int 0)) (.cons (.var 1) .nil)) []) σ4 ⟨[], S.set r (wS ws (k + 1 + 1))⟩ = .ok (.d (.int (q.2 : Nat))) ⟨[], S.set r (wS ws (k + 3))⟩ := by
    rw [ev_meth2 _ (by rw [hσ4]; rfl) (hget _) (ev_con _ _ _ _) (var_at _ (by rw [hσ4]; rfl)), e4]
    rfl
  rw [ev_ret]
  have x7 : evE (tower tab (n + 2)) (.tup (.cons (.var 3) (.cons (.var 4) (.cons (.meth 0 18 (.var 0) (.cons (.con (.int 0)) (.cons (.var 1) .nil)) []) .nil)))) σ4 ⟨[], S.set r (wS ws (k + 1 + 1))⟩ = .ok (.d (DD q)) ⟨[], S.set r (wS ws (k + 3))⟩ := by
    have w3 : ∀ t, evE (tower tab (n + 2)) (.var 3) σ4 t = .ok (.d (.int ((q.1 / 6 : Nat) : Int))) t := fun t => by rw [hσ4]; rfl
    have w4 : ∀ t, evE (tower tab (n + 2)) (.var 4) σ4 t = .ok (.d (.str (sgT q.1))) t := fun t => by rw [hσ4]; rfl
    rw [evE, evEs, w3]
    simp only [R.bind_ok]
    rw [evEs, w4]
    simp only [R.bind_ok]
    rw [evEs, x6]
    simp only [R.bind_ok, evEs, toDs, toD]
    rfl
  rw [x7, end_d]
end MP
end

/-! text K82AC -/
section
set_option Elab.async false
set_option linter.all false
set_option maxRecDepth 100000
set_option maxHeartbeats 1000000
namespace MP
theorem whl_ok {test : Sg → M Bool} {body : Sg → Stt → RS} (I : Nat → Sg → Stt → Prop) (m : Nat) (hm : m < 1000) {σ : Sg} {t : Stt} (h0 : I 0 σ t)
    (hb : ∀ i σ t, i < m → I i σ t → ∃ σ2 t2, test σ t = .ok true t ∧ body σ t = .next σ2 t2 ∧ I (i + 1) σ2 t2) (he : ∀ σ t, I m σ t → test σ t = .ok false t) :
    ∃ σ' t', whlL test body FUEL σ t = .next σ' t' ∧ I m σ' t' :=
  whl_inv I m hb he FUEL 0 σ t (by omega) (Nat.lt_of_lt_of_le (show m - 0 < 1000 by omega) (by decide)) h0
end MP
end

/-! text K82AD -/
section
set_option Elab.async false
set_option linter.all false
set_option maxRecDepth 100000
set_option maxHeartbeats 1000000
namespace MP
/-- the words of doors lie from the k-th on -/
def DoorsAt (ws : List Tx) (k : Nat) (qs : List (Nat × Nat)) : Prop :=
  (∀ i (h : i < qs.length), ws[k + 4 * i]? = some (numT (qs[i].1 / 6)) ∧ ws[k + 4 * i + 1]? = some (sgT qs[i].1) ∧ ws[k + 4 * i + 2]? = some (numT qs[i].2)) ∧
  (∀ i, i + 1 < qs.length → ws[k + 4 * i + 3]? = some [';']) ∧ ∃ w, ws[k + 4 * (qs.length - 1) + 3]? = some w ∧ w ≠ [';']
theorem num_ne : ∀ k, k < 13 → numT k ≠ ['-'] := by decide +kernel
theorem tst_next (n : Nat) {S : List SC} {i r k : Nat} {ws : List Tx} {σ : Sg} {L : List LC} {w x : Tx} (hσ : σ[i]? = some (some (.d (.ref r)))) (h : S[r]? = some (wS ws k)) (hk : ws[k]? = some w) :
    tst (tower tab (n + 1)) (.cmp .eq (.meth 0 15 (.var i) .nil []) (.con (.str x))) σ ⟨L, S⟩ = .ok (decide (w = x)) ⟨L, S⟩ := by
  obtain ⟨i1, j1⟩ := List.getElem?_eq_some_iff.mp hk
  have e2 := next_ok n h i1
  rw [j1] at e2
  refine tst_cmp (x := .str w) (y := .str x) ?_ (ev_con _ _ _ _) (eq_str _ _)
  rw [ev_meth0 _ hσ h, e2]
  rfl
theorem ev_step (n : Nat) {S : List SC} {i r k : Nat} {ws : List Tx} {σ : Sg} {L : List LC} (hσ : σ[i]? = some (some (.d (.ref r)))) (h : S[r]? = some (wS ws k)) :
    evE (tower tab (n + 1)) (.meth 0 16 (.var i) .nil []) σ ⟨L, S⟩ = .ok (.d .non) ⟨L, S.set r (wS ws (k + 1))⟩ := by
  rw [ev_meth0 _ hσ h, step_ok n h]
  rfl
theorem doors_none (n : Nat) {S : List SC} {r k : Nat} {rooms : Int} {ws : List Tx} (h : S[r]? = some (wS ws k)) (hk : ws[k]? = some ['-']) :
    tower tab (n + 4) 23 [.ref r, .int rooms] S = .ok (.tup []) (S.set r (wS ws (k + 1))) := by
  rw [tw_run (fn := a_read_doors) rfl rfl]
  show endF (evSs (tower tab (n + 3)) a_read_doors.body [some (.d (.ref r)), some (.d (.int rooms)), none] ⟨[], S⟩) = _
  unfold a_read_doors
  simp only []
  rw [seq_cons, evS_if _ _ _ _ _ _ _ _ (tst_next (n + 2) rfl h hk), if_pos (by decide), seq_cons, evS_ex _ _ _ _ _ _ (ev_step (n + 2) rfl h), RS.seq_next]
  simp only [evSs, evS, evE, evEs, R.bind_ok, toDs, R.stm_ok, RS.seq_ret, endF, deepF]
def sMore : List S := [.ex (.meth 0 16 (.var 0) .nil []), .ex (.bm .append (.var 2) (.cons (.call 22 (.cons (.var 0) (.cons (.var 1) (.cons (.var 2) .nil))) []) .nil))]
theorem doors_turn (n : Nat) {S : List SC} {r d k : Nat} {rooms : Int} {ws : List Tx} {ps : List (Nat × Nat)} {l q : Nat × Nat} (h : S[r]? = some (wS ws k)) (hd : S[d]? = some (.lst ((ps ++ [l]).map DD)))
    (hl : ps.length + 1 < 72) (hlq : l.1 < q.1) (hq : q.1 < 72) (h1 : ((q.1 / 6 : Nat) : Int) < rooms) (h2 : (q.2 : Int) < rooms) (hr : rooms ≤ 12)
    (k0 : ws[k + 1]? = some (numT (q.1 / 6))) (k1 : ws[k + 1 + 1]? = some (sgT q.1)) (k2 : ws[k + 1 + 2]? = some (numT q.2)) :
    evSs (tower tab (n + 3)) sMore [some (.d (.ref r)), some (.d (.int rooms)), some (.d (.ref d))] ⟨[], S⟩ = .next [some (.d (.ref r)), some (.d (.int rooms)), some (.d (.ref d))] ⟨[], (S.set r (wS ws (k + 4))).set d (.lst ((ps ++ [l, q]).map DD))⟩ := by
  have hdr : d ≠ r := by rintro rfl; rw [h] at hd; cases hd
  have hgd : ∀ m, (S.set r (wS ws m))[d]? = some (.lst ((ps ++ [l]).map DD)) := fun m => by rw [List.getElem?_set_ne (Ne.symm hdr), hd]
  have e := door_more n (set_get h) (hgd (k + 1)) hl hlq hq h1 h2 hr k0 k1 k2
  rw [List.set_set] at e
  unfold sMore
  rw [seq_cons, evS_ex _ _ _ _ _ _ (ev_step (n + 2) rfl h), RS.seq_next, seq_cons]
  have x : evE (tower tab (n + 3)) (.bm .append (.var 2) (.cons (.call 22 (.cons (.var 0) (.cons (.var 1) (.cons (.var 2) .nil))) []) .nil)) [some (.d (.ref r)), some (.d (.int rooms)), some (.d (.ref d))] ⟨[], S.set r (wS ws (k + 1))⟩ = .ok (.d .non) ⟨[], (S.set r (wS ws (k + 4))).set d (.lst ((ps ++ [l, q]).map DD))⟩ := by
    have hd4 := hgd (k + 4)
    have hc : evE (tower tab (n + 3)) (.call 22 (.cons (.var 0) (.cons (.var 1) (.cons (.var 2) .nil))) []) [some (.d (.ref r)), some (.d (.int rooms)), some (.d (.ref d))] ⟨[], S.set r (wS ws (k + 1))⟩ = .ok (.d (DD q)) ⟨[], S.set r (wS ws (k + 4))⟩ := by
      simp only [evE, evEs, List.getElem?_cons_succ, List.getElem?_cons_zero, R.bind_ok, toDs, toD, List.append_nil]
      rw [e]
      rfl
    rw [ev_bm, var_at _ rfl, R.bind_ok, if_pos (by simp only [bmTy, hgd]), es_one, hc]
    simp only [R.bind_ok, bm, writeL, hd4]
    have hw : dsOf? (((ps ++ [l]).map DD).map W.d ++ [.d (DD q)]) = some ((ps ++ [l, q]).map DD) := by
      have := dsOf_map ((ps ++ [l, q]).map DD)
      rw [← this]
      simp
    have hlen : ((ps ++ [l, q]).map DD).length < LIM := by
      simp only [List.length_map, List.length_append, List.length_cons, List.length_nil]
      exact Nat.lt_of_lt_of_le (show ps.length + (0 + 1 + 1) < 1000 by omega) (by decide)
    simp only [hw, if_pos hlen]
  rw [evS_ex _ _ _ _ _ _ x, RS.seq_next]
  simp only [evSs]
end MP
end

/-! text K82AE -/
section
set_option Elab.async false
set_option linter.all false
set_option maxRecDepth 100000
set_option maxHeartbeats 1000000
namespace MP
theorem doors_some (n : Nat) {S : List SC} {r k : Nat} {rooms : Nat} {ws : List Tx} {q0 : Nat × Nat} {qr : List (Nat × Nat)} (h : S[r]? = some (wS ws k)) (hr : rooms ≤ 12)
    (hc : Codes (q0 :: qr) (rooms * 6) rooms) (hat : DoorsAt ws k (q0 :: qr)) :
    ∃ S' c, tower tab (n + 4) 23 [.ref r, .int rooms] S = .ok (.tup ((q0 :: qr).map DD)) S' ∧ S' = S.set r (wS ws (k + 3 + 4 * qr.length)) ++ [c] := by
  obtain ⟨qs, hqs⟩ : ∃ qs, qs = q0 :: qr := ⟨_, rfl⟩
  rw [← hqs] at hc hat ⊢
  have hlen : qs.length = qr.length + 1 := by rw [hqs]; rfl
  obtain ⟨a1, a2, w, a3, a4⟩ := hat
  have h72 : ∀ q ∈ qs, q.1 < 72 ∧ ((q.1 / 6 : Nat) : Int) < rooms ∧ (q.2 : Int) < rooms := fun q hq => by
    have := (hc.2 q hq).1
    have h2 := (hc.2 q hq).2
    exact ⟨by omega, by omega, h2⟩
  have hl72 : qs.length ≤ 72 := by
    have := hc.len
    omega
  have hinc : ∀ i j (hi : i < qs.length) (hj : j < qs.length), i < j → qs[i].1 < qs[j].1 := by
    intro i j hi hj hij
    have := hc.1
    rw [List.pairwise_iff_getElem] at this
    have t := this i j (by simpa using hi) (by simpa using hj) hij
    simpa using t
  have h0len : 0 < qs.length := by omega
  obtain ⟨b1, b2, b3⟩ := a1 0 h0len
  have hq0 : qs[0] = q0 := by simp [hqs]
  have m0 := h72 qs[0] (List.getElem_mem h0len)
  have ef := door_first n (q := qs[0]) h m0.1 m0.2.1 m0.2.2 (by omega) (by simpa using b1) (by simpa using b2) (by simpa using b3)
  -- the first word is no dash
  have hw0 : ws[k]? = some (numT (qs[0].1 / 6)) := by simpa using b1
  have hnd := num_ne (qs[0].1 / 6) (by omega)
  rw [tw_run (fn := a_read_doors) rfl rfl]
  show ∃ S' c, endF (evSs (tower tab (n + 3)) a_read_doors.body [some (.d (.ref r)), some (.d (.int rooms)), none] ⟨[], S⟩) = _ ∧ _
  unfold a_read_doors
  simp only []
  rw [seq_cons, evS_if _ _ _ _ _ _ _ _ (tst_next (n + 2) rfl h hw0), decide_eq_false hnd, if_neg (by decide)]
  simp only [evSs, RS.seq_next]
  have x1 : evE (tower tab (n + 3)) (.lst .shr (.cons (.call 22 (.cons (.var 0) (.cons (.var 1) (.cons (.lst .val .nil) .nil))) []) .nil)) [some (.d (.ref r)), some (.d (.int rooms)), none] ⟨[], S⟩ = .ok (.d (.ref S.length)) ⟨[], S.set r (wS ws (k + 3)) ++ [.lst [DD qs[0]]]⟩ := by
    simp only [evE, evEs, mkLst, List.getElem?_cons_succ, List.getElem?_cons_zero, R.bind_ok, toDs, toD, List.append_nil]
    rw [ef]
    simp only [fin, R.bind_ok, toDs, toD, List.length_set]
  rw [evS_set _ _ _ _ _ _ _ x1]
  simp only [RS.seq_next, List.set_cons_succ, List.set_cons_zero]
  have hloop : ∃ σ' t', whlL (tst (tower tab (n + 3)) (.cmp .eq (.meth 0 15 (.var 0) .nil []) (.con (.str [';'])))) (evSs (tower tab (n + 3)) sMore) FUEL [some (.d (.ref r)), some (.d (.int rooms)), some (.d (.ref S.length))] ⟨[], S.set r (wS ws (k + 3)) ++ [.lst [DD qs[0]]]⟩ = .next σ' t' ∧
      (σ' = [some (.d (.ref r)), some (.d (.int rooms)), some (.d (.ref S.length))] ∧ t' = ⟨[], S.set r (wS ws (k + 3 + 4 * qr.length)) ++ [.lst ((qs.take (qr.length + 1)).map DD)]⟩) := by
    refine whl_ok (fun i σ t => σ = [some (.d (.ref r)), some (.d (.int rooms)), some (.d (.ref S.length))] ∧ t = ⟨[], S.set r (wS ws (k + 3 + 4 * i)) ++ [.lst ((qs.take (i + 1)).map DD)]⟩) qr.length (by omega) ⟨rfl, ?_⟩ ?_ ?_
    · rw [List.take_add_one, List.getElem?_eq_getElem h0len]; rfl
    · rintro i σ t hi ⟨rfl, rfl⟩
      have hr1 : (S.set r (wS ws (k + 3 + 4 * i)) ++ [SC.lst ((qs.take (i + 1)).map DD)])[r]? = some (wS ws (k + 3 + 4 * i)) := at_app _ (set_get h)
      have hd1 : (S.set r (wS ws (k + 3 + 4 * i)) ++ [SC.lst ((qs.take (i + 1)).map DD)])[S.length]? = some (SC.lst ((qs.take (i + 1)).map DD)) := by
        have := at_new (S.set r (wS ws (k + 3 + 4 * i))) (SC.lst ((qs.take (i + 1)).map DD))
        rw [List.length_set] at this
        exact this
      have g := a2 i (by omega)
      have g' : ws[k + 3 + 4 * i]? = some [';'] := by rw [← g]; congr 1; omega
      obtain ⟨c1, c2, c3⟩ := a1 (i + 1) (by omega)
      have hi1 : i + 1 < qs.length := by omega
      have htk : qs.take (i + 1) = qs.take i ++ [qs[i]] := by
        rw [List.take_add_one, List.getElem?_eq_getElem (by omega)]; rfl
      have mi := h72 qs[i + 1] (List.getElem_mem hi1)
      have ht := doors_turn n (l := qs[i]) (q := qs[i + 1]) (rooms := rooms) (ps := qs.take i) hr1 (by rw [hd1, htk]) (by simp; omega) (hinc i (i + 1) (by omega) hi1 (by omega)) mi.1 mi.2.1 mi.2.2 (by omega)
        (by rw [← c1]; congr 1; omega) (by rw [← c2]; congr 1; omega) (by rw [← c3]; congr 1; omega)
      refine ⟨_, _, ?_, ht, rfl, ?_⟩
      · rw [tst_next (n + 2) rfl hr1 g']
        rfl
      · have s1 : S[r]? = some (wS ws k) := h
        have hrl : r < S.length := (List.getElem?_eq_some_iff.mp h).1
        rw [set_app _ _ (set_get h), List.set_set]
        have : ((S.set r (wS ws (k + 3 + 4 * i + 4))) ++ [SC.lst ((qs.take (i + 1)).map DD)]).set S.length (SC.lst ((qs.take i ++ [qs[i], qs[i + 1]]).map DD)) = S.set r (wS ws (k + 3 + 4 * i + 4)) ++ [SC.lst ((qs.take i ++ [qs[i], qs[i + 1]]).map DD)] := by
          have := set_new (S.set r (wS ws (k + 3 + 4 * i + 4))) (SC.lst ((qs.take (i + 1)).map DD)) (SC.lst ((qs.take i ++ [qs[i], qs[i + 1]]).map DD))
          rw [List.length_set] at this
          exact this
        rw [this]
        have e2 : qs.take (i + 1 + 1) = qs.take i ++ [qs[i], qs[i + 1]] := by
          rw [List.take_add_one, List.getElem?_eq_getElem hi1, htk, List.append_assoc]
          rfl
        rw [e2]
        rfl
    · rintro σ t ⟨rfl, rfl⟩
      have hr1 : (S.set r (wS ws (k + 3 + 4 * qr.length)) ++ [SC.lst ((qs.take (qr.length + 1)).map DD)])[r]? = some (wS ws (k + 3 + 4 * qr.length)) := at_app _ (set_get h)
      have g' : ws[k + 3 + 4 * qr.length]? = some w := by rw [← a3]; congr 1; omega
      rw [tst_next (n + 2) rfl hr1 g', decide_eq_false a4]
  obtain ⟨σ', t', el, rfl, rfl⟩ := hloop
  refine ⟨_, .lst ((qs.take (qr.length + 1)).map DD), ?_, rfl⟩
  simp only [evS]
  show endF ((whlL _ (evSs (tower tab (n + 3)) sMore) FUEL _ _).seq _) = _
  rw [el]
  have hd1 : (S.set r (wS ws (k + 3 + 4 * qr.length)) ++ [SC.lst ((qs.take (qr.length + 1)).map DD)])[S.length]? = some (SC.lst ((qs.take (qr.length + 1)).map DD)) := by
    have := at_new (S.set r (wS ws (k + 3 + 4 * qr.length))) (SC.lst ((qs.take (qr.length + 1)).map DD))
    rw [List.length_set] at this
    exact this
  simp only [RS.seq_next, evE, evEs, List.getElem?_cons_succ, List.getElem?_cons_zero, R.bind_ok, bi, items?, hd1]
  rw [toDs_map, R.bind_ok, end_d]
  rw [List.take_of_length_le (by omega)]
end MP
end

/-! text K82AF -/
section
set_option Elab.async false
set_option linter.all false
set_option maxRecDepth 100000
set_option maxHeartbeats 1000000
namespace MP
theorem wS_ins {S : List SC} {r k : Nat} {ws : List Tx} (h : S[r]? = some (wS ws k)) : S[r]? = some (.ins 0 [(0, .lst (ws.map D.str)), (1, .int (k : Nat))]) := h
/-- the ends of a book: none -/
theorem ends_none (n : Nat) {S : List SC} {r k : Nat} {rooms : Int} {ws : List Tx} (h : S[r]? = some (wS ws k)) (hk : ws[k]? = some ['-']) (hl : ws.length = k + 1) :
    tower tab (n + 3) 24 [.ref r, .int rooms] S = .ok (.tup []) (S.set r (wS ws (k + 1))) := by
  obtain ⟨i1, j1⟩ := List.getElem?_eq_some_iff.mp hk
  have e1 := next_ok (n + 1) h i1
  rw [j1] at e1
  have e2 := step_ok (n + 1) h
  have g := set_get (y := wS ws (k + 1)) h
  have e3 := stop_ok (n + 1) g (by omega)
  have h0 := wS_ins h
  have h1 := wS_ins g
  rw [tw_run (fn := a_read_ends) rfl rfl]
  simp only [a_read_ends, ↓b_T, ↓s_T, ↓q_T, noX_ok, evEs, evIfs, evFs, isTy, putFl, List.getElem?_cons_zero, List.getElem?_cons_succ, List.getElem?_nil, List.set_cons_zero, List.set_cons_succ, List.length_cons, List.length_nil, List.cons_append, List.nil_append, List.append_nil, List.map_cons, List.map_nil, Option.map_some, Option.map_none, Option.bind_some, Bool.not_true, Bool.not_false, Bool.false_eq_true, if_true, if_false, ite_true, ite_false, decide_true, decide_false, List.isEmpty_nil, List.isEmpty_cons, reduceCtorEq, List.length_map, List.length_append, Nat.reduceLeDiff, Nat.reduceAdd, Nat.reduceLT, decide_eq_true_eq, Bool.and_true, Bool.true_and, Bool.and_false, Bool.false_and, beq_self_eq_true, bne_self_eq_false, List.getLast?_concat, List.getLast?_singleton, List.map_append, ne_eq, not_true_eq_false, not_false_eq_true, bT_ok, bT_exc, bT_stk, sT_ok, sT_exc, sT_stk, qT_next, qT_brk, qT_cnt, qT_ret, qT_exc, qT_stk, itS_l, itL_l, okO_s, okO_n, okW_s, it_lst, it_tup, it_klst, it_ref, it_loc, lo_lst, lo_klst, lo_ref, lo_loc, eo_lst, eo_ref, eo_loc, dsOf_map, dsOf_mapf, dsOf_n, dsOf_c, dsOf_app, toD_d, toD_loc, tdL_l, toDs_map, toDs_n, toDs_c, mk_val, mk_loc, mk_shr, tr_non, tr_bl, tr_int, tr_str, tr_lst, tr_tup, tr_ref, tr_loc, bop_ii, bop_ss, bI_add, bI_sub, neg_i, cop_dd, pkL_l, cop_ld, cop_dl, eq_int, ne_int, eq_str, ne_str, eq_rep, ne_rep, lt_int, le_int, gt_int, ge_int, lt_str, le_str, gt_str, ge_str, isN_n, isN_i, isN_s, isN_t, isN_l, isN_b, notN_n, notN_i, notN_s, notN_t, notN_l, in_str, nin_str, sub_str, sub_lst, sub_tup, sub_klst, sub_ref, sub_loc, nth_0, nth_1, nth_2, nth_m1, nth_map, len_str, len_lst, len_tup, len_klst, len_ref, len_loc, isi_d, str_int, int_int, int_bl, int_str, list_str, list_lst, list_tup, list_ref, list_loc, tuple_lst, tuple_tup, tuple_ref, tuple_loc, all_lst, max_ii, min_ii, repr_d, bool_bl, bool_int, bool_lst, bool_ref, wr_ref, wr_loc, wrS_l, wrL_l, bm_append, bm_extend, bm_pop, bm_popAt, bm_join, bm_split, tyS_l, tyL_l, ty_app_ref, ty_ext_ref, ty_pop_ref, ty_popAt_ref, ty_app_loc, ty_ext_loc, ty_pop_loc, ty_popAt_loc, ty_join, ty_split, ss_set, flS_i, fl_ref, fin_o, fin_x, pt_n, pt_2, pt_3, ef_r, ef_n, ef_x, fm_s, fm_i, fm_M, lk_0, lk_1, lk_2, lk_3, sr_lst, sr_tup, sr_klst, srS_l, srL_l, sr_ref, sr_loc, si_fix, si_loc, si_shr, e_var, e_con, e_bin, e_cmp, e_chain, e_and, e_or, e_not, e_neg, e_ite, e_tup, e_lst, e_ix, e_call, e_callk, e_callv, insS_i, e_meth, mkF_o, mkF_x, e_make, e_fld, e_bi, e_bm, e_fstr, s_set, s_par, wfS_i, s_setf, s_seti, s_ex, s_ret, s_retN, s_ife, s_rai, s_pas, s_brk, s_cnt, s_nil, s_cons, t_tst, q_seq, q_str, q_r1, q_r2, at_new, set_new, List.replicate, h0, h1, e1, e2, e3]
theorem ends_some (n : Nat) {S : List SC} {r k rooms : Nat} {ws : List Tx} {es : List Nat} (h : S[r]? = some (wS ws k)) (hr : rooms ≤ 12) (he : Inc es rooms) (hne : es ≠ [])
    (hw : ws.drop k = es.map numT) :
    tower tab (n + 3) 24 [.ref r, .int rooms] S = .ok (.tup (es.map iD)) (S.set r (wS ws (k + es.length))) := by
  have hat : ∀ i (hi : i < es.length), ws[k + i]? = some (numT es[i]) := fun i hi => by
    have := congrArg (fun l => l[i]?) hw
    simpa [hi] using this
  have hlen : ws.length = k + es.length := by
    have a := congrArg List.length hw
    have b := (List.getElem?_eq_some_iff.mp (hat 0 (by cases es <;> simp at hne ⊢))).1
    simp at a
    omega
  have h12 : ∀ i (hi : i < es.length), es[i] < rooms := fun i hi => he.2 _ (List.getElem_mem hi)
  have hinc : ∀ i (hi : i + 1 < es.length), es[i] < es[i + 1] := fun i hi => (List.pairwise_iff_getElem.mp he.1) i (i + 1) (by omega) hi (by omega)
  have hel := he.len
  have h0 : 0 < es.length := by cases es <;> simp at hne ⊢
  have w0 := hat 0 h0
  obtain ⟨i1, j1⟩ := List.getElem?_eq_some_iff.mp w0
  have e1 := next_ok (n + 1) h i1
  simp only [Nat.add_zero] at w0 i1 j1 e1
  rw [j1] at e1
  have nd := num_ne es[0] (by have := h12 0 h0; omega)
  have e2 := number_ok n (lo := 0) (be := rooms) h w0 (by have := h12 0 h0; omega) (by omega) (by have := h12 0 h0; omega)
  have hi0 := wS_ins h
  have hi1 : ∀ m, (S.set r (wS ws m))[r]? = some (.ins 0 [(0, .lst (ws.map D.str)), (1, .int (m : Nat))]) := fun m => wS_ins (set_get h)
  have hloop := S_whlF (Φ := tower tab (n + 2)) (c := .cmp .lt (.fld (.var 0) 1) (.bi .len (.cons (.fld (.var 0) 0) .nil))) (b := [.ex (.bm .append (.var 2) (.cons (.meth 0 18 (.var 0) (.cons (.bin .add (.ix (.var 2) (.neg (.con (.int 1)))) (.con (.int 1))) (.cons (.var 1) .nil)) []) .nil))])
    (fun i => [some (.d (.ref r)), some (.d (.int rooms)), some (.loc 0)]) (fun i => ⟨[.lst false (((es.take (i + 1)).map iD).map W.d)], S.set r (wS ws (k + i + 1))⟩) (es.length - 1) (by omega) ?_ ?_
  · simp only [Nat.add_zero] at hloop
    have htk : es.take (0 + 1) = [es[0]] := by rw [List.take_add_one, List.getElem?_eq_getElem h0]; rfl
    rw [htk] at hloop
    simp only [↓b_T, ↓s_T, ↓q_T, noX_ok, evEs, evIfs, evFs, isTy, putFl, List.getElem?_cons_zero, List.getElem?_cons_succ, List.getElem?_nil, List.set_cons_zero, List.set_cons_succ, List.length_cons, List.length_nil, List.cons_append, List.nil_append, List.append_nil, List.map_cons, List.map_nil, Option.map_some, Option.map_none, Option.bind_some, Bool.not_true, Bool.not_false, Bool.false_eq_true, if_true, if_false, ite_true, ite_false, decide_true, decide_false, List.isEmpty_nil, List.isEmpty_cons, reduceCtorEq, List.length_map, List.length_append, Nat.reduceLeDiff, Nat.reduceAdd, Nat.reduceLT, decide_eq_true_eq, Bool.and_true, Bool.true_and, Bool.and_false, Bool.false_and, beq_self_eq_true, bne_self_eq_false, List.getLast?_concat, List.getLast?_singleton, List.map_append, ne_eq, not_true_eq_false, not_false_eq_true, bT_ok, bT_exc, bT_stk, sT_ok, sT_exc, sT_stk, qT_next, qT_brk, qT_cnt, qT_ret, qT_exc, qT_stk, itS_l, itL_l, okO_s, okO_n, okW_s, it_lst, it_tup, it_klst, it_ref, it_loc, lo_lst, lo_klst, lo_ref, lo_loc, eo_lst, eo_ref, eo_loc, dsOf_map, dsOf_mapf, dsOf_n, dsOf_c, dsOf_app, toD_d, toD_loc, tdL_l, toDs_map, toDs_n, toDs_c, mk_val, mk_loc, mk_shr, tr_non, tr_bl, tr_int, tr_str, tr_lst, tr_tup, tr_ref, tr_loc, bop_ii, bop_ss, bI_add, bI_sub, neg_i, cop_dd, pkL_l, cop_ld, cop_dl, eq_int, ne_int, eq_str, ne_str, eq_rep, ne_rep, lt_int, le_int, gt_int, ge_int, lt_str, le_str, gt_str, ge_str, isN_n, isN_i, isN_s, isN_t, isN_l, isN_b, notN_n, notN_i, notN_s, notN_t, notN_l, in_str, nin_str, sub_str, sub_lst, sub_tup, sub_klst, sub_ref, sub_loc, nth_0, nth_1, nth_2, nth_m1, nth_map, len_str, len_lst, len_tup, len_klst, len_ref, len_loc, isi_d, str_int, int_int, int_bl, int_str, list_str, list_lst, list_tup, list_ref, list_loc, tuple_lst, tuple_tup, tuple_ref, tuple_loc, all_lst, max_ii, min_ii, repr_d, bool_bl, bool_int, bool_lst, bool_ref, wr_ref, wr_loc, wrS_l, wrL_l, bm_append, bm_extend, bm_pop, bm_popAt, bm_join, bm_split, tyS_l, tyL_l, ty_app_ref, ty_ext_ref, ty_pop_ref, ty_popAt_ref, ty_app_loc, ty_ext_loc, ty_pop_loc, ty_popAt_loc, ty_join, ty_split, ss_set, flS_i, fl_ref, fin_o, fin_x, pt_n, pt_2, pt_3, ef_r, ef_n, ef_x, fm_s, fm_i, fm_M, lk_0, lk_1, lk_2, lk_3, sr_lst, sr_tup, sr_klst, srS_l, srL_l, sr_ref, sr_loc, si_fix, si_loc, si_shr, e_var, e_con, e_bin, e_cmp, e_chain, e_and, e_or, e_not, e_neg, e_ite, e_tup, e_lst, e_ix, e_call, e_callk, e_callv, insS_i, e_meth, mkF_o, mkF_x, e_make, e_fld, e_bi, e_bm, e_fstr, s_set, s_par, wfS_i, s_setf, s_seti, s_ex, s_ret, s_retN, s_ife, s_rai, s_pas, s_brk, s_cnt, s_nil, s_cons, t_tst, q_seq, q_str, q_r1, q_r2, at_new, set_new, iD] at hloop
    rw [tw_run (fn := a_read_ends) rfl rfl]
    have hz : k + (es.length - 1) + 1 = k + es.length := by omega
    have hz2 : es.length - 1 + 1 = es.length := by omega
    simp only [a_read_ends, ↓b_T, ↓s_T, ↓q_T, noX_ok, evEs, evIfs, evFs, isTy, putFl, List.getElem?_cons_zero, List.getElem?_cons_succ, List.getElem?_nil, List.set_cons_zero, List.set_cons_succ, List.length_cons, List.length_nil, List.cons_append, List.nil_append, List.append_nil, List.map_cons, List.map_nil, Option.map_some, Option.map_none, Option.bind_some, Bool.not_true, Bool.not_false, Bool.false_eq_true, if_true, if_false, ite_true, ite_false, decide_true, decide_false, List.isEmpty_nil, List.isEmpty_cons, reduceCtorEq, List.length_map, List.length_append, Nat.reduceLeDiff, Nat.reduceAdd, Nat.reduceLT, decide_eq_true_eq, Bool.and_true, Bool.true_and, Bool.and_false, Bool.false_and, beq_self_eq_true, bne_self_eq_false, List.getLast?_concat, List.getLast?_singleton, List.map_append, ne_eq, not_true_eq_false, not_false_eq_true, bT_ok, bT_exc, bT_stk, sT_ok, sT_exc, sT_stk, qT_next, qT_brk, qT_cnt, qT_ret, qT_exc, qT_stk, itS_l, itL_l, okO_s, okO_n, okW_s, it_lst, it_tup, it_klst, it_ref, it_loc, lo_lst, lo_klst, lo_ref, lo_loc, eo_lst, eo_ref, eo_loc, dsOf_map, dsOf_mapf, dsOf_n, dsOf_c, dsOf_app, toD_d, toD_loc, tdL_l, toDs_map, toDs_n, toDs_c, mk_val, mk_loc, mk_shr, tr_non, tr_bl, tr_int, tr_str, tr_lst, tr_tup, tr_ref, tr_loc, bop_ii, bop_ss, bI_add, bI_sub, neg_i, cop_dd, pkL_l, cop_ld, cop_dl, eq_int, ne_int, eq_str, ne_str, eq_rep, ne_rep, lt_int, le_int, gt_int, ge_int, lt_str, le_str, gt_str, ge_str, isN_n, isN_i, isN_s, isN_t, isN_l, isN_b, notN_n, notN_i, notN_s, notN_t, notN_l, in_str, nin_str, sub_str, sub_lst, sub_tup, sub_klst, sub_ref, sub_loc, nth_0, nth_1, nth_2, nth_m1, nth_map, len_str, len_lst, len_tup, len_klst, len_ref, len_loc, isi_d, str_int, int_int, int_bl, int_str, list_str, list_lst, list_tup, list_ref, list_loc, tuple_lst, tuple_tup, tuple_ref, tuple_loc, all_lst, max_ii, min_ii, repr_d, bool_bl, bool_int, bool_lst, bool_ref, wr_ref, wr_loc, wrS_l, wrL_l, bm_append, bm_extend, bm_pop, bm_popAt, bm_join, bm_split, tyS_l, tyL_l, ty_app_ref, ty_ext_ref, ty_pop_ref, ty_popAt_ref, ty_app_loc, ty_ext_loc, ty_pop_loc, ty_popAt_loc, ty_join, ty_split, ss_set, flS_i, fl_ref, fin_o, fin_x, pt_n, pt_2, pt_3, ef_r, ef_n, ef_x, fm_s, fm_i, fm_M, lk_0, lk_1, lk_2, lk_3, sr_lst, sr_tup, sr_klst, srS_l, srL_l, sr_ref, sr_loc, si_fix, si_loc, si_shr, e_var, e_con, e_bin, e_cmp, e_chain, e_and, e_or, e_not, e_neg, e_ite, e_tup, e_lst, e_ix, e_call, e_callk, e_callv, insS_i, e_meth, mkF_o, mkF_x, e_make, e_fld, e_bi, e_bm, e_fstr, s_set, s_par, wfS_i, s_setf, s_seti, s_ex, s_ret, s_retN, s_ife, s_rai, s_pas, s_brk, s_cnt, s_nil, s_cons, t_tst, q_seq, q_str, q_r1, q_r2, at_new, set_new, hi0, hi1, e1, e2, nd, hloop, List.replicate, dsOf_map, toDs_map, hz, hz2, List.take_length]
  · intro i hi
    have hi1' : i + 1 < es.length := by omega
    have htk : es.take (i + 1) = es.take i ++ [es[i]] := by rw [List.take_add_one, List.getElem?_eq_getElem (by omega)]; rfl
    have htk2 : es.take (i + 1 + 1) = es.take (i + 1) ++ [es[i + 1]] := by rw [List.take_add_one, List.getElem?_eq_getElem hi1']; rfl
    have e := number_ok n (lo := (es[i] : Int) + 1) (be := rooms) (set_get (y := wS ws (k + i + 1)) h) (hat (i + 1) hi1') (by have := h12 (i + 1) hi1'; omega) (by have := hinc i hi1'; omega) (by have := h12 (i + 1) hi1'; omega)
    rw [List.set_set] at e
    have lt : ((k + i + 1 : Nat) : Int) < ws.length := by omega
    have l2 : (List.take i es).length + 1 + 1 < 1000000 := by rw [List.length_take]; omega
    constructor
    · simp only [↓b_T, ↓s_T, ↓q_T, noX_ok, evEs, evIfs, evFs, isTy, putFl, List.getElem?_cons_zero, List.getElem?_cons_succ, List.getElem?_nil, List.set_cons_zero, List.set_cons_succ, List.length_cons, List.length_nil, List.cons_append, List.nil_append, List.append_nil, List.map_cons, List.map_nil, Option.map_some, Option.map_none, Option.bind_some, Bool.not_true, Bool.not_false, Bool.false_eq_true, if_true, if_false, ite_true, ite_false, decide_true, decide_false, List.isEmpty_nil, List.isEmpty_cons, reduceCtorEq, List.length_map, List.length_append, Nat.reduceLeDiff, Nat.reduceAdd, Nat.reduceLT, decide_eq_true_eq, Bool.and_true, Bool.true_and, Bool.and_false, Bool.false_and, beq_self_eq_true, bne_self_eq_false, List.getLast?_concat, List.getLast?_singleton, List.map_append, ne_eq, not_true_eq_false, not_false_eq_true, bT_ok, bT_exc, bT_stk, sT_ok, sT_exc, sT_stk, qT_next, qT_brk, qT_cnt, qT_ret, qT_exc, qT_stk, itS_l, itL_l, okO_s, okO_n, okW_s, it_lst, it_tup, it_klst, it_ref, it_loc, lo_lst, lo_klst, lo_ref, lo_loc, eo_lst, eo_ref, eo_loc, dsOf_map, dsOf_mapf, dsOf_n, dsOf_c, dsOf_app, toD_d, toD_loc, tdL_l, toDs_map, toDs_n, toDs_c, mk_val, mk_loc, mk_shr, tr_non, tr_bl, tr_int, tr_str, tr_lst, tr_tup, tr_ref, tr_loc, bop_ii, bop_ss, bI_add, bI_sub, neg_i, cop_dd, pkL_l, cop_ld, cop_dl, eq_int, ne_int, eq_str, ne_str, eq_rep, ne_rep, lt_int, le_int, gt_int, ge_int, lt_str, le_str, gt_str, ge_str, isN_n, isN_i, isN_s, isN_t, isN_l, isN_b, notN_n, notN_i, notN_s, notN_t, notN_l, in_str, nin_str, sub_str, sub_lst, sub_tup, sub_klst, sub_ref, sub_loc, nth_0, nth_1, nth_2, nth_m1, nth_map, len_str, len_lst, len_tup, len_klst, len_ref, len_loc, isi_d, str_int, int_int, int_bl, int_str, list_str, list_lst, list_tup, list_ref, list_loc, tuple_lst, tuple_tup, tuple_ref, tuple_loc, all_lst, max_ii, min_ii, repr_d, bool_bl, bool_int, bool_lst, bool_ref, wr_ref, wr_loc, wrS_l, wrL_l, bm_append, bm_extend, bm_pop, bm_popAt, bm_join, bm_split, tyS_l, tyL_l, ty_app_ref, ty_ext_ref, ty_pop_ref, ty_popAt_ref, ty_app_loc, ty_ext_loc, ty_pop_loc, ty_popAt_loc, ty_join, ty_split, ss_set, flS_i, fl_ref, fin_o, fin_x, pt_n, pt_2, pt_3, ef_r, ef_n, ef_x, fm_s, fm_i, fm_M, lk_0, lk_1, lk_2, lk_3, sr_lst, sr_tup, sr_klst, srS_l, srL_l, sr_ref, sr_loc, si_fix, si_loc, si_shr, e_var, e_con, e_bin, e_cmp, e_chain, e_and, e_or, e_not, e_neg, e_ite, e_tup, e_lst, e_ix, e_call, e_callk, e_callv, insS_i, e_meth, mkF_o, mkF_x, e_make, e_fld, e_bi, e_bm, e_fstr, s_set, s_par, wfS_i, s_setf, s_seti, s_ex, s_ret, s_retN, s_ife, s_rai, s_pas, s_brk, s_cnt, s_nil, s_cons, t_tst, q_seq, q_str, q_r1, q_r2, at_new, set_new, hi1, lt]
    · rw [htk2, htk]
      simp only [↓b_T, ↓s_T, ↓q_T, noX_ok, evEs, evIfs, evFs, isTy, putFl, List.getElem?_cons_zero, List.getElem?_cons_succ, List.getElem?_nil, List.set_cons_zero, List.set_cons_succ, List.length_cons, List.length_nil, List.cons_append, List.nil_append, List.append_nil, List.map_cons, List.map_nil, Option.map_some, Option.map_none, Option.bind_some, Bool.not_true, Bool.not_false, Bool.false_eq_true, if_true, if_false, ite_true, ite_false, decide_true, decide_false, List.isEmpty_nil, List.isEmpty_cons, reduceCtorEq, List.length_map, List.length_append, Nat.reduceLeDiff, Nat.reduceAdd, Nat.reduceLT, decide_eq_true_eq, Bool.and_true, Bool.true_and, Bool.and_false, Bool.false_and, beq_self_eq_true, bne_self_eq_false, List.getLast?_concat, List.getLast?_singleton, List.map_append, ne_eq, not_true_eq_false, not_false_eq_true, bT_ok, bT_exc, bT_stk, sT_ok, sT_exc, sT_stk, qT_next, qT_brk, qT_cnt, qT_ret, qT_exc, qT_stk, itS_l, itL_l, okO_s, okO_n, okW_s, it_lst, it_tup, it_klst, it_ref, it_loc, lo_lst, lo_klst, lo_ref, lo_loc, eo_lst, eo_ref, eo_loc, dsOf_map, dsOf_mapf, dsOf_n, dsOf_c, dsOf_app, toD_d, toD_loc, tdL_l, toDs_map, toDs_n, toDs_c, mk_val, mk_loc, mk_shr, tr_non, tr_bl, tr_int, tr_str, tr_lst, tr_tup, tr_ref, tr_loc, bop_ii, bop_ss, bI_add, bI_sub, neg_i, cop_dd, pkL_l, cop_ld, cop_dl, eq_int, ne_int, eq_str, ne_str, eq_rep, ne_rep, lt_int, le_int, gt_int, ge_int, lt_str, le_str, gt_str, ge_str, isN_n, isN_i, isN_s, isN_t, isN_l, isN_b, notN_n, notN_i, notN_s, notN_t, notN_l, in_str, nin_str, sub_str, sub_lst, sub_tup, sub_klst, sub_ref, sub_loc, nth_0, nth_1, nth_2, nth_m1, nth_map, len_str, len_lst, len_tup, len_klst, len_ref, len_loc, isi_d, str_int, int_int, int_bl, int_str, list_str, list_lst, list_tup, list_ref, list_loc, tuple_lst, tuple_tup, tuple_ref, tuple_loc, all_lst, max_ii, min_ii, repr_d, bool_bl, bool_int, bool_lst, bool_ref, wr_ref, wr_loc, wrS_l, wrL_l, bm_append, bm_extend, bm_pop, bm_popAt, bm_join, bm_split, tyS_l, tyL_l, ty_app_ref, ty_ext_ref, ty_pop_ref, ty_popAt_ref, ty_app_loc, ty_ext_loc, ty_pop_loc, ty_popAt_loc, ty_join, ty_split, ss_set, flS_i, fl_ref, fin_o, fin_x, pt_n, pt_2, pt_3, ef_r, ef_n, ef_x, fm_s, fm_i, fm_M, lk_0, lk_1, lk_2, lk_3, sr_lst, sr_tup, sr_klst, srS_l, srL_l, sr_ref, sr_loc, si_fix, si_loc, si_shr, e_var, e_con, e_bin, e_cmp, e_chain, e_and, e_or, e_not, e_neg, e_ite, e_tup, e_lst, e_ix, e_call, e_callk, e_callv, insS_i, e_meth, mkF_o, mkF_x, e_make, e_fld, e_bi, e_bm, e_fstr, s_set, s_par, wfS_i, s_setf, s_seti, s_ex, s_ret, s_retN, s_ife, s_rai, s_pas, s_brk, s_cnt, s_nil, s_cons, t_tst, q_seq, q_str, q_r1, q_r2, at_new, set_new, hi1, iD, e, l2]
      rfl
  · have lt : ¬ (((k + (es.length - 1) + 1 : Nat) : Int) < ws.length) := by omega
    simp only [↓b_T, ↓s_T, ↓q_T, noX_ok, evEs, evIfs, evFs, isTy, putFl, List.getElem?_cons_zero, List.getElem?_cons_succ, List.getElem?_nil, List.set_cons_zero, List.set_cons_succ, List.length_cons, List.length_nil, List.cons_append, List.nil_append, List.append_nil, List.map_cons, List.map_nil, Option.map_some, Option.map_none, Option.bind_some, Bool.not_true, Bool.not_false, Bool.false_eq_true, if_true, if_false, ite_true, ite_false, decide_true, decide_false, List.isEmpty_nil, List.isEmpty_cons, reduceCtorEq, List.length_map, List.length_append, Nat.reduceLeDiff, Nat.reduceAdd, Nat.reduceLT, decide_eq_true_eq, Bool.and_true, Bool.true_and, Bool.and_false, Bool.false_and, beq_self_eq_true, bne_self_eq_false, List.getLast?_concat, List.getLast?_singleton, List.map_append, ne_eq, not_true_eq_false, not_false_eq_true, bT_ok, bT_exc, bT_stk, sT_ok, sT_exc, sT_stk, qT_next, qT_brk, qT_cnt, qT_ret, qT_exc, qT_stk, itS_l, itL_l, okO_s, okO_n, okW_s, it_lst, it_tup, it_klst, it_ref, it_loc, lo_lst, lo_klst, lo_ref, lo_loc, eo_lst, eo_ref, eo_loc, dsOf_map, dsOf_mapf, dsOf_n, dsOf_c, dsOf_app, toD_d, toD_loc, tdL_l, toDs_map, toDs_n, toDs_c, mk_val, mk_loc, mk_shr, tr_non, tr_bl, tr_int, tr_str, tr_lst, tr_tup, tr_ref, tr_loc, bop_ii, bop_ss, bI_add, bI_sub, neg_i, cop_dd, pkL_l, cop_ld, cop_dl, eq_int, ne_int, eq_str, ne_str, eq_rep, ne_rep, lt_int, le_int, gt_int, ge_int, lt_str, le_str, gt_str, ge_str, isN_n, isN_i, isN_s, isN_t, isN_l, isN_b, notN_n, notN_i, notN_s, notN_t, notN_l, in_str, nin_str, sub_str, sub_lst, sub_tup, sub_klst, sub_ref, sub_loc, nth_0, nth_1, nth_2, nth_m1, nth_map, len_str, len_lst, len_tup, len_klst, len_ref, len_loc, isi_d, str_int, int_int, int_bl, int_str, list_str, list_lst, list_tup, list_ref, list_loc, tuple_lst, tuple_tup, tuple_ref, tuple_loc, all_lst, max_ii, min_ii, repr_d, bool_bl, bool_int, bool_lst, bool_ref, wr_ref, wr_loc, wrS_l, wrL_l, bm_append, bm_extend, bm_pop, bm_popAt, bm_join, bm_split, tyS_l, tyL_l, ty_app_ref, ty_ext_ref, ty_pop_ref, ty_popAt_ref, ty_app_loc, ty_ext_loc, ty_pop_loc, ty_popAt_loc, ty_join, ty_split, ss_set, flS_i, fl_ref, fin_o, fin_x, pt_n, pt_2, pt_3, ef_r, ef_n, ef_x, fm_s, fm_i, fm_M, lk_0, lk_1, lk_2, lk_3, sr_lst, sr_tup, sr_klst, srS_l, srL_l, sr_ref, sr_loc, si_fix, si_loc, si_shr, e_var, e_con, e_bin, e_cmp, e_chain, e_and, e_or, e_not, e_neg, e_ite, e_tup, e_lst, e_ix, e_call, e_callk, e_callv, insS_i, e_meth, mkF_o, mkF_x, e_make, e_fld, e_bi, e_bm, e_fstr, s_set, s_par, wfS_i, s_setf, s_seti, s_ex, s_ret, s_retN, s_ife, s_rai, s_pas, s_brk, s_cnt, s_nil, s_cons, t_tst, q_seq, q_str, q_r1, q_r2, at_new, set_new, hi1, lt]
end MP
end

/-! text K82AG -/
section
set_option Elab.async false
set_option linter.all false
set_option maxRecDepth 100000
set_option maxHeartbeats 1000000
namespace MP
theorem joinL_cons (s x : Tx) {r : List Tx} (h : r ≠ []) : joinL s (x :: r) = x ++ s ++ joinL s r := by
  cases r with
  | nil => exact absurd rfl h
  | cons y t => rfl
theorem joinL_app (s : Tx) : ∀ {a b : List Tx}, a ≠ [] → b ≠ [] → joinL s (a ++ b) = joinL s a ++ s ++ joinL s b
  | [], _, h, _ => absurd rfl h
  | [x], b, _, hb => by rw [List.singleton_append, joinL_cons s x hb]; rfl
  | x :: y :: t, b, _, hb => by
    rw [List.cons_append, joinL_cons s x (by simp), joinL_app s (a := y :: t) (by simp) hb, joinL_cons s x (by simp)]
    simp only [List.append_assoc]
def dw (q : Nat × Nat) : List Tx := [numT (q.1 / 6), sgT q.1, numT q.2]
def dwords : List (Nat × Nat) → List Tx
  | [] => []
  | [q] => dw q
  | q :: r => dw q ++ [';'] :: dwords r
def dtop (qs : List (Nat × Nat)) : List Tx := if qs = [] then [['-']] else dwords qs
def etop (es : List Nat) : List Tx := if es = [] then [['-']] else es.map numT
def bwords (rooms : Nat) (qs : List (Nat × Nat)) (es : List Nat) : List Tx := numT rooms :: ['d', 'o', 'o', 'r', 's'] :: (dtop qs ++ ['e', 'n', 'd', 's'] :: etop es)
theorem dwords_ne : ∀ {qs : List (Nat × Nat)}, qs ≠ [] → dwords qs ≠ []
  | [], h => absurd rfl h
  | [_], _ => by simp [dwords, dw]
  | _ :: _ :: _, _ => by simp [dwords, dw]
theorem dw_join (q : Nat × Nat) : joinL [' '] (dw q) = doorT q := by simp [dw, joinL, doorT, sgT]
theorem dwords_join : ∀ {qs : List (Nat × Nat)}, qs ≠ [] → joinL [' '] (dwords qs) = joinL [' ', ';', ' '] (qs.map doorT)
  | [], h => absurd rfl h
  | [q], _ => by simp only [dwords, dw_join, List.map_cons, List.map_nil, joinL]
  | q :: p :: r, _ => by
    have ih := dwords_join (qs := p :: r) (by simp)
    have e : dwords (q :: p :: r) = dw q ++ [';'] :: dwords (p :: r) := by
      rw [dwords]
      simp
    rw [e, joinL_app _ (by simp [dw]) (by simp), joinL_cons _ _ (dwords_ne (by simp)), ih, dw_join]
    rw [List.map_cons (f := doorT) (a := q), joinL_cons [' ', ';', ' '] _ (by simp)]
    simp only [List.append_assoc, List.cons_append, List.nil_append]
theorem dtop_join (qs : List (Nat × Nat)) : joinL [' '] (dtop qs) = doorsT qs := by
  unfold dtop doorsT
  split
  · rfl
  · exact dwords_join (by assumption)
theorem etop_join (es : List Nat) : joinL [' '] (etop es) = endsT es := by
  unfold etop endsT
  split <;> rfl
theorem dtop_ne (qs : List (Nat × Nat)) : dtop qs ≠ [] := by
  unfold dtop
  split
  · simp
  · exact dwords_ne (by assumption)
theorem etop_ne (es : List Nat) : etop es ≠ [] := by
  unfold etop
  split
  · simp
  · simpa using (by assumption)
theorem bwords_join (rooms : Nat) (qs : List (Nat × Nat)) (es : List Nat) : joinL [' '] (bwords rooms qs es) = bookT rooms qs es := by
  unfold bwords
  rw [joinL_cons _ _ (by simp), joinL_cons _ _ (by simp), joinL_app _ (dtop_ne qs) (by simp), joinL_cons _ _ (etop_ne es), dtop_join, etop_join]
  simp [bookT]
theorem num_free : ∀ k, k < 13 → ' ' ∉ numT k := by decide +kernel
theorem sg_free (c : Nat) : ' ' ∉ sgT c := by
  have : ∀ i, i < 6 → ' ' ∉ ([SGN.getD i 'a'] : Tx) := by decide
  exact this _ (Nat.mod_lt _ (by decide))
theorem dwords_free : ∀ {qs : List (Nat × Nat)}, (∀ q ∈ qs, q.1 < 72 ∧ q.2 < 12) → ∀ p ∈ dwords qs, ' ' ∉ p
  | [], _, p, hp => by simp [dwords] at hp
  | [q], h, p, hp => by
    have := h q (by simp)
    simp only [dwords, dw, List.mem_cons, List.not_mem_nil, or_false] at hp
    rcases hp with rfl | rfl | rfl
    · exact num_free _ (by omega)
    · exact sg_free _
    · exact num_free _ (by omega)
  | q :: r :: s, h, p, hp => by
    have := h q (by simp)
    rw [dwords] at hp
    simp only [dw, List.cons_append, List.nil_append, List.mem_cons] at hp
    rcases hp with rfl | rfl | rfl | rfl | hp
    · exact num_free _ (by omega)
    · exact sg_free _
    · exact num_free _ (by omega)
    · decide
    · exact dwords_free (qs := r :: s) (fun x hx => h x (by simp [hx])) p hp
    simp
theorem bwords_split {rooms : Nat} {qs : List (Nat × Nat)} {es : List Nat} (hr : rooms ≤ 12) (hq : ∀ q ∈ qs, q.1 < 72 ∧ q.2 < 12) (he : ∀ e ∈ es, e < 12) : splitL ' ' [] (bookT rooms qs es) = bwords rooms qs es := by
  rw [← bwords_join]
  refine sp_join ' ' _ (by simp [bwords]) fun p hp => ?_
  simp only [bwords, List.mem_cons, List.mem_append] at hp
  rcases hp with rfl | rfl | hp | rfl | hp
  · exact num_free _ (by omega)
  · decide
  · unfold dtop at hp
    split at hp
    · rw [List.mem_singleton] at hp; subst hp; decide
    · exact dwords_free hq p hp
  · decide
  · unfold etop at hp
    split at hp
    · rw [List.mem_singleton] at hp; subst hp; decide
    · obtain ⟨e, h1, rfl⟩ := List.mem_map.mp hp
      exact num_free _ (by have := he e h1; omega)
theorem dwords_at : ∀ {qs : List (Nat × Nat)} (w : Tx) (tl : List Tx), qs ≠ [] → (∀ i (h : i < qs.length), (dwords qs ++ w :: tl)[4 * i]? = some (numT (qs[i].1 / 6)) ∧ (dwords qs ++ w :: tl)[4 * i + 1]? = some (sgT qs[i].1) ∧ (dwords qs ++ w :: tl)[4 * i + 2]? = some (numT qs[i].2)) ∧
    (∀ i, i + 1 < qs.length → (dwords qs ++ w :: tl)[4 * i + 3]? = some [';']) ∧ (dwords qs ++ w :: tl)[4 * (qs.length - 1) + 3]? = some w
  | [], _, _, h => absurd rfl h
  | [q], w, tl, _ => by
    refine ⟨fun i h => ?_, fun i h => ?_, ?_⟩
    · simp only [List.length_cons, List.length_nil] at h
      have : i = 0 := by omega
      subst this
      simp [dwords, dw]
    · simp only [List.length_cons, List.length_nil] at h
      omega
    · simp [dwords, dw]
  | q :: r :: s, w, tl, _ => by
    obtain ⟨a, b, c⟩ := dwords_at (qs := r :: s) w tl (by simp)
    have e : dwords (q :: r :: s) ++ w :: tl = numT (q.1 / 6) :: sgT q.1 :: numT q.2 :: [';'] :: (dwords (r :: s) ++ w :: tl) := by
      rw [dwords]
      · simp [dw]
      · simp
    rw [e]
    refine ⟨fun i h => ?_, fun i h => ?_, ?_⟩
    · cases i with
      | zero => simp
      | succ i =>
        have := a i (by simpa using h)
        rw [show 4 * (i + 1) = 4 * i + 4 by omega, show 4 * i + 4 + 1 = 4 * i + 1 + 4 by omega, show 4 * i + 4 + 2 = 4 * i + 2 + 4 by omega]
        simpa only [List.getElem?_cons_succ, List.getElem_cons_succ] using this
    · cases i with
      | zero => simp
      | succ i =>
        have := b i (by simpa using h)
        rw [show 4 * (i + 1) + 3 = 4 * i + 3 + 4 by omega]
        simpa only [List.getElem?_cons_succ] using this
    · rw [show 4 * ((q :: r :: s).length - 1) + 3 = 4 * ((r :: s).length - 1) + 3 + 4 by simp; omega]
      simpa only [List.getElem?_cons_succ] using c
theorem doors_at {ws : List Tx} {k : Nat} {qs : List (Nat × Nat)} {w : Tx} {tl : List Tx} (h : ws.drop k = dwords qs ++ w :: tl) (hq : qs ≠ []) (hw : w ≠ [';']) : DoorsAt ws k qs := by
  obtain ⟨a, b, c⟩ := dwords_at w tl hq
  rw [← h] at a b c
  simp only [List.getElem?_drop] at a b c
  exact ⟨fun i h => by
    have := a i h
    rw [show k + 4 * i + 1 = k + (4 * i + 1) by omega, show k + 4 * i + 2 = k + (4 * i + 2) by omega]
    exact this, fun i h => by rw [show k + 4 * i + 3 = k + (4 * i + 3) by omega]; exact b i h, w, by rw [show k + 4 * (qs.length - 1) + 3 = k + (4 * (qs.length - 1) + 3) by omega]; exact c, hw⟩
theorem dwords_len : ∀ {qs : List (Nat × Nat)}, qs ≠ [] → (dwords qs).length = 3 + 4 * (qs.length - 1)
  | [], h => absurd rfl h
  | [_], _ => rfl
  | q :: r :: s, _ => by
    have := dwords_len (qs := r :: s) (by simp)
    rw [dwords]
    · simp [dw] at this ⊢; omega
    · simp
end MP
end

/-! text K82AH -/
section
set_option Elab.async false
set_option linter.all false
set_option maxRecDepth 100000
set_option maxHeartbeats 1000000
namespace MP
theorem doors_read (n : Nat) {S : List SC} {r k : Nat} {rooms : Nat} {ws : List Tx} {qs : List (Nat × Nat)} {w : Tx} {tl : List Tx} (h : S[r]? = some (wS ws k)) (hr : rooms ≤ 12)
    (hc : Codes qs (rooms * 6) rooms) (hd : ws.drop k = dtop qs ++ w :: tl) (hw : w ≠ [';']) :
    ∃ C, tower tab (n + 4) 23 [.ref r, .int rooms] S = .ok (.tup (qs.map DD)) (S.set r (wS ws (k + (dtop qs).length)) ++ C) := by
  cases qs with
  | nil =>
    have hk : ws[k]? = some ['-'] := by
      have := congrArg (fun l => l[0]?) hd
      simpa [dtop] using this
    refine ⟨[], ?_⟩
    rw [doors_none n h hk]
    simp [dtop]
  | cons q0 qr =>
    have e : dtop (q0 :: qr) = dwords (q0 :: qr) := by simp [dtop]
    rw [e] at hd
    obtain ⟨S', c, e1, e2⟩ := doors_some n h hr hc (doors_at hd (by simp) hw)
    refine ⟨[c], ?_⟩
    rw [e1, e2, e, dwords_len (by simp)]
    simp [Nat.add_assoc]
theorem ends_read (n : Nat) {S : List SC} {r k rooms : Nat} {ws : List Tx} {es : List Nat} (h : S[r]? = some (wS ws k)) (hr : rooms ≤ 12) (he : Inc es rooms) (hd : ws.drop k = etop es) :
    ∃ m, tower tab (n + 3) 24 [.ref r, .int rooms] S = .ok (.tup (es.map iD)) (S.set r (wS ws m)) := by
  cases es with
  | nil =>
    have hk : ws[k]? = some ['-'] := by
      have := congrArg (fun l => l[0]?) hd
      simpa [etop] using this
    have hl : ws.length = k + 1 := by
      have a := congrArg List.length hd
      have b := (List.getElem?_eq_some_iff.mp hk).1
      simp [etop] at a
      omega
    exact ⟨_, ends_none n h hk hl⟩
  | cons e0 er =>
    exact ⟨_, ends_some n h hr he (by simp) (by rw [hd]; simp [etop])⟩
theorem book_len {rooms : Nat} {qs : List (Nat × Nat)} {es : List Nat} (hr : rooms ≤ 12) (h : Dok qs) (he : ∀ e ∈ es, e < 12) (hl : es.length ≤ 12) : (bookT rooms qs es).length ≤ 5000 := by
  have a := num12 hr
  have b := doors_len h
  have c := ends_len he hl
  simp only [bookT, List.length_append, List.length_cons, List.length_nil]
  omega
theorem read_book_ok (n : Nat) (S : List SC) {rooms : Nat} {qs : List (Nat × Nat)} {es : List Nat} (h1 : 1 ≤ rooms) (hr : rooms ≤ 12) (hc : Codes qs (rooms * 6) rooms) (he : Inc es rooms) :
    ∃ C, tower tab (n + 5) 25 [.str (bookT rooms qs es)] S = .ok (BK rooms qs es) (S ++ C) := by
  have hq : ∀ q ∈ qs, q.1 < 72 ∧ q.2 < 12 := fun q hq => by have a := (hc.2 q hq).1; have b := (hc.2 q hq).2; omega
  have hql := hc.len
  have hD : Dok qs := ⟨by omega, hq⟩
  have he12 : ∀ e ∈ es, e < 12 := fun e h => by have := he.2 e h; omega
  have hel := he.len
  have hs := bwords_split (es := es) hr hq he12
  have hl := book_len (rooms := rooms) hr hD he12 (by omega)
  obtain ⟨ws, hws⟩ : ∃ ws, ws = bwords rooms qs es := ⟨_, rfl⟩
  have e1 := words_ok (n + 3) S (bookT rooms qs es) hl
  rw [hs, ← hws] at e1
  have e2 := init_ok (n + 3) S ws
  have hget : ∀ m C, (S ++ wS ws m :: C)[S.length]? = some (wS ws m) := fun m C => by simp
  have hset : ∀ m m' C, (S ++ wS ws m :: C).set S.length (wS ws m') = S ++ wS ws m' :: C := fun m m' C => by simp
  have e3 := number_ok (n + 2) (lo := 1) (be := 13) (hget 0 []) (v := rooms) (by rw [hws]; rfl) (by omega) (by omega) (by omega)
  rw [hset] at e3
  have e4 := want_ok (n + 2) (hget 1 []) (w := ['d', 'o', 'o', 'r', 's']) (by rw [hws]; rfl)
  rw [hset] at e4
  obtain ⟨C, e5⟩ := doors_read n (rooms := rooms) (qs := qs) (w := ['e', 'n', 'd', 's']) (tl := etop es) (hget 2 []) hr hc (by rw [hws]; rfl) (by decide)
  rw [hset] at e5
  obtain ⟨k, hk⟩ : ∃ k, k = 2 + (dtop qs).length := ⟨_, rfl⟩
  rw [← hk, List.append_assoc, List.cons_append, List.nil_append] at e5
  have hd : ws.drop k = ['e', 'n', 'd', 's'] :: etop es := by
    rw [hws, hk, bwords, show 2 + (dtop qs).length = (dtop qs).length + 1 + 1 by omega, List.drop_succ_cons, List.drop_succ_cons, List.drop_left]
  have e6 := want_ok (n + 2) (hget k C) (w := ['e', 'n', 'd', 's']) (by
    have := congrArg (fun l => l[0]?) hd
    simpa using this)
  rw [hset] at e6
  obtain ⟨m, e7⟩ := ends_read (n + 1) (hget (k + 1) C) hr he (by
    have := congrArg List.tail hd
    simpa using this)
  rw [hset] at e7
  refine ⟨wS ws m :: C, ?_⟩
  have hi : ∀ m C, (S ++ wS ws m :: C)[S.length]? = some (.ins 0 [(0, .lst (ws.map D.str)), (1, .int (m : Nat))]) := fun m C => wS_ins (hget m C)
  rw [tw_run (fn := a_read_book) rfl rfl]
  simp only [a_read_book, ↓b_T, ↓s_T, ↓q_T, noX_ok, evEs, evIfs, evFs, isTy, putFl, List.getElem?_cons_zero, List.getElem?_cons_succ, List.getElem?_nil, List.set_cons_zero, List.set_cons_succ, List.length_cons, List.length_nil, List.cons_append, List.nil_append, List.append_nil, List.map_cons, List.map_nil, Option.map_some, Option.map_none, Option.bind_some, Bool.not_true, Bool.not_false, Bool.false_eq_true, if_true, if_false, ite_true, ite_false, decide_true, decide_false, List.isEmpty_nil, List.isEmpty_cons, reduceCtorEq, List.length_map, List.length_append, Nat.reduceLeDiff, Nat.reduceAdd, Nat.reduceLT, decide_eq_true_eq, Bool.and_true, Bool.true_and, Bool.and_false, Bool.false_and, beq_self_eq_true, bne_self_eq_false, List.getLast?_concat, List.getLast?_singleton, List.map_append, ne_eq, not_true_eq_false, not_false_eq_true, bT_ok, bT_exc, bT_stk, sT_ok, sT_exc, sT_stk, qT_next, qT_brk, qT_cnt, qT_ret, qT_exc, qT_stk, itS_l, itL_l, okO_s, okO_n, okW_s, it_lst, it_tup, it_klst, it_ref, it_loc, lo_lst, lo_klst, lo_ref, lo_loc, eo_lst, eo_ref, eo_loc, dsOf_map, dsOf_mapf, dsOf_n, dsOf_c, dsOf_app, toD_d, toD_loc, tdL_l, toDs_map, toDs_n, toDs_c, mk_val, mk_loc, mk_shr, tr_non, tr_bl, tr_int, tr_str, tr_lst, tr_tup, tr_ref, tr_loc, bop_ii, bop_ss, bI_add, bI_sub, neg_i, cop_dd, pkL_l, cop_ld, cop_dl, eq_int, ne_int, eq_str, ne_str, eq_rep, ne_rep, lt_int, le_int, gt_int, ge_int, lt_str, le_str, gt_str, ge_str, isN_n, isN_i, isN_s, isN_t, isN_l, isN_b, notN_n, notN_i, notN_s, notN_t, notN_l, in_str, nin_str, sub_str, sub_lst, sub_tup, sub_klst, sub_ref, sub_loc, nth_0, nth_1, nth_2, nth_m1, nth_map, len_str, len_lst, len_tup, len_klst, len_ref, len_loc, isi_d, str_int, int_int, int_bl, int_str, list_str, list_lst, list_tup, list_ref, list_loc, tuple_lst, tuple_tup, tuple_ref, tuple_loc, all_lst, max_ii, min_ii, repr_d, bool_bl, bool_int, bool_lst, bool_ref, wr_ref, wr_loc, wrS_l, wrL_l, bm_append, bm_extend, bm_pop, bm_popAt, bm_join, bm_split, tyS_l, tyL_l, ty_app_ref, ty_ext_ref, ty_pop_ref, ty_popAt_ref, ty_app_loc, ty_ext_loc, ty_pop_loc, ty_popAt_loc, ty_join, ty_split, ss_set, flS_i, fl_ref, fin_o, fin_x, pt_n, pt_2, pt_3, ef_r, ef_n, ef_x, fm_s, fm_i, fm_M, lk_0, lk_1, lk_2, lk_3, sr_lst, sr_tup, sr_klst, srS_l, srL_l, sr_ref, sr_loc, si_fix, si_loc, si_shr, e_var, e_con, e_bin, e_cmp, e_chain, e_and, e_or, e_not, e_neg, e_ite, e_tup, e_lst, e_ix, e_call, e_callk, e_callv, insS_i, e_meth, mkF_o, mkF_x, e_make, e_fld, e_bi, e_bm, e_fstr, s_set, s_par, wfS_i, s_setf, s_seti, s_ex, s_ret, s_retN, s_ife, s_rai, s_pas, s_brk, s_cnt, s_nil, s_cons, t_tst, q_seq, q_str, q_r1, q_r2, at_new, set_new, List.replicate, e1, e2, hi, e3, e4, e5, e6, e7, BK, Int.reduceAdd]
end MP
end

/-! text K82AI -/
section
set_option Elab.async false
set_option linter.all false
set_option maxRecDepth 100000
set_option maxHeartbeats 1000000
namespace MP
theorem made_of (n : Nat) (S : List SC) (x l : Tx) (m : Int) (hx : x.length ≤ 10000) : tower tab (n + 1) 2 [.str x, .str l, .int m] S = .ok (.bl (decide ((x.length : Int) ≤ m) && x.all fun c => decide (c ∈ l))) S := by
  have hx1 : x.length ≤ 1000000 := by omega
  rw [tw_run (fn := a_is_made_of) rfl rfl]
  have hc := comp_mapv (Φ := tower tab n) (own := [3]) (p := .name 3) (it := .str (.var 0)) (elt := .cmp .isin (.var 3) (.var 1)) (σ := [some (.d (.str x)), some (.d (.str l)), some (.d (.int m)), none]) (t := ⟨[], S⟩) (t1 := ⟨[], S⟩) (src := .fix ((signsOf x).map .d))
    x (fun c => .str [c]) (fun c => .bl (decide (c ∈ l))) (by simp only [q_str, ↓b_T, ↓s_T, ↓q_T, noX_ok, evEs, evIfs, evFs, isTy, putFl, List.getElem?_cons_zero, List.getElem?_cons_succ, List.getElem?_nil, List.set_cons_zero, List.set_cons_succ, List.length_cons, List.length_nil, List.cons_append, List.nil_append, List.append_nil, List.map_cons, List.map_nil, Option.map_some, Option.map_none, Option.bind_some, Bool.not_true, Bool.not_false, Bool.false_eq_true, if_true, if_false, ite_true, ite_false, decide_true, decide_false, List.isEmpty_nil, List.isEmpty_cons, reduceCtorEq, List.length_map, List.length_append, Nat.reduceLeDiff, Nat.reduceAdd, Nat.reduceLT, decide_eq_true_eq, Bool.and_true, Bool.true_and, Bool.and_false, Bool.false_and, beq_self_eq_true, bne_self_eq_false, List.getLast?_concat, List.getLast?_singleton, List.map_append, ne_eq, not_true_eq_false, not_false_eq_true, bT_ok, bT_exc, bT_stk, sT_ok, sT_exc, sT_stk, qT_next, qT_brk, qT_cnt, qT_ret, qT_exc, qT_stk, itS_l, itL_l, okO_s, okO_n, okW_s, it_lst, it_tup, it_klst, it_ref, it_loc, lo_lst, lo_klst, lo_ref, lo_loc, eo_lst, eo_ref, eo_loc, dsOf_map, dsOf_mapf, dsOf_n, dsOf_c, dsOf_app, toD_d, toD_loc, tdL_l, toDs_map, toDs_n, toDs_c, mk_val, mk_loc, mk_shr, tr_non, tr_bl, tr_int, tr_str, tr_lst, tr_tup, tr_ref, tr_loc, bop_ii, bop_ss, bI_add, bI_sub, neg_i, cop_dd, pkL_l, cop_ld, cop_dl, eq_int, ne_int, eq_str, ne_str, eq_rep, ne_rep, lt_int, le_int, gt_int, ge_int, lt_str, le_str, gt_str, ge_str, isN_n, isN_i, isN_s, isN_t, isN_l, isN_b, notN_n, notN_i, notN_s, notN_t, notN_l, in_str, nin_str, sub_str, sub_lst, sub_tup, sub_klst, sub_ref, sub_loc, nth_0, nth_1, nth_2, nth_m1, nth_map, len_str, len_lst, len_tup, len_klst, len_ref, len_loc, isi_d, str_int, int_int, int_bl, int_str, list_str, list_lst, list_tup, list_ref, list_loc, tuple_lst, tuple_tup, tuple_ref, tuple_loc, all_lst, max_ii, min_ii, repr_d, bool_bl, bool_int, bool_lst, bool_ref, wr_ref, wr_loc, wrS_l, wrL_l, bm_append, bm_extend, bm_pop, bm_popAt, bm_join, bm_split, tyS_l, tyL_l, ty_app_ref, ty_ext_ref, ty_pop_ref, ty_popAt_ref, ty_app_loc, ty_ext_loc, ty_pop_loc, ty_popAt_loc, ty_join, ty_split, ss_set, flS_i, fl_ref, fin_o, fin_x, pt_n, pt_2, pt_3, ef_r, ef_n, ef_x, fm_s, fm_i, fm_M, lk_0, lk_1, lk_2, lk_3, sr_lst, sr_tup, sr_klst, srS_l, srL_l, sr_ref, sr_loc, si_fix, si_loc, si_shr, e_var, e_con, e_bin, e_cmp, e_chain, e_and, e_or, e_not, e_neg, e_ite, e_tup, e_lst, e_ix, e_call, e_callk, e_callv, insS_i, e_meth, mkF_o, mkF_x, e_make, e_fld, e_bi, e_bm, e_fstr, s_set, s_par, wfS_i, s_setf, s_seti, s_ex, s_ret, s_retN, s_ife, s_rai, s_pas, s_brk, s_cnt, s_nil, s_cons, t_tst, q_seq, q_str, q_r1, q_r2, at_new, set_new, hx1, LIM]) rfl rfl (by omega) fun c hc => ⟨[some (.d (.str x)), some (.d (.str l)), some (.d (.int m)), some (.d (.str [c]))], rfl, by simp only [↓b_T, ↓s_T, ↓q_T, noX_ok, evEs, evIfs, evFs, isTy, putFl, List.getElem?_cons_zero, List.getElem?_cons_succ, List.getElem?_nil, List.set_cons_zero, List.set_cons_succ, List.length_cons, List.length_nil, List.cons_append, List.nil_append, List.append_nil, List.map_cons, List.map_nil, Option.map_some, Option.map_none, Option.bind_some, Bool.not_true, Bool.not_false, Bool.false_eq_true, if_true, if_false, ite_true, ite_false, decide_true, decide_false, List.isEmpty_nil, List.isEmpty_cons, reduceCtorEq, List.length_map, List.length_append, Nat.reduceLeDiff, Nat.reduceAdd, Nat.reduceLT, decide_eq_true_eq, Bool.and_true, Bool.true_and, Bool.and_false, Bool.false_and, beq_self_eq_true, bne_self_eq_false, List.getLast?_concat, List.getLast?_singleton, List.map_append, ne_eq, not_true_eq_false, not_false_eq_true, bT_ok, bT_exc, bT_stk, sT_ok, sT_exc, sT_stk, qT_next, qT_brk, qT_cnt, qT_ret, qT_exc, qT_stk, itS_l, itL_l, okO_s, okO_n, okW_s, it_lst, it_tup, it_klst, it_ref, it_loc, lo_lst, lo_klst, lo_ref, lo_loc, eo_lst, eo_ref, eo_loc, dsOf_map, dsOf_mapf, dsOf_n, dsOf_c, dsOf_app, toD_d, toD_loc, tdL_l, toDs_map, toDs_n, toDs_c, mk_val, mk_loc, mk_shr, tr_non, tr_bl, tr_int, tr_str, tr_lst, tr_tup, tr_ref, tr_loc, bop_ii, bop_ss, bI_add, bI_sub, neg_i, cop_dd, pkL_l, cop_ld, cop_dl, eq_int, ne_int, eq_str, ne_str, eq_rep, ne_rep, lt_int, le_int, gt_int, ge_int, lt_str, le_str, gt_str, ge_str, isN_n, isN_i, isN_s, isN_t, isN_l, isN_b, notN_n, notN_i, notN_s, notN_t, notN_l, in_str, nin_str, sub_str, sub_lst, sub_tup, sub_klst, sub_ref, sub_loc, nth_0, nth_1, nth_2, nth_m1, nth_map, len_str, len_lst, len_tup, len_klst, len_ref, len_loc, isi_d, str_int, int_int, int_bl, int_str, list_str, list_lst, list_tup, list_ref, list_loc, tuple_lst, tuple_tup, tuple_ref, tuple_loc, all_lst, max_ii, min_ii, repr_d, bool_bl, bool_int, bool_lst, bool_ref, wr_ref, wr_loc, wrS_l, wrL_l, bm_append, bm_extend, bm_pop, bm_popAt, bm_join, bm_split, tyS_l, tyL_l, ty_app_ref, ty_ext_ref, ty_pop_ref, ty_popAt_ref, ty_app_loc, ty_ext_loc, ty_pop_loc, ty_popAt_loc, ty_join, ty_split, ss_set, flS_i, fl_ref, fin_o, fin_x, pt_n, pt_2, pt_3, ef_r, ef_n, ef_x, fm_s, fm_i, fm_M, lk_0, lk_1, lk_2, lk_3, sr_lst, sr_tup, sr_klst, srS_l, srL_l, sr_ref, sr_loc, si_fix, si_loc, si_shr, e_var, e_con, e_bin, e_cmp, e_chain, e_and, e_or, e_not, e_neg, e_ite, e_tup, e_lst, e_ix, e_call, e_callk, e_callv, insS_i, e_meth, mkF_o, mkF_x, e_make, e_fld, e_bi, e_bm, e_fstr, s_set, s_par, wfS_i, s_setf, s_seti, s_ex, s_ret, s_retN, s_ife, s_rai, s_pas, s_brk, s_cnt, s_nil, s_cons, t_tst, q_seq, q_str, q_r1, q_r2, at_new, set_new]⟩
  have ha := all_lst (x.map fun c => decide (c ∈ l)) ⟨[], S⟩
  rw [List.map_map] at ha
  by_cases h : (x.length : Int) ≤ m
  · have h' : ¬ m < (x.length : Int) := by omega
    simp only [a_is_made_of, ↓b_T, ↓s_T, ↓q_T, noX_ok, evEs, evIfs, evFs, isTy, putFl, List.getElem?_cons_zero, List.getElem?_cons_succ, List.getElem?_nil, List.set_cons_zero, List.set_cons_succ, List.length_cons, List.length_nil, List.cons_append, List.nil_append, List.append_nil, List.map_cons, List.map_nil, Option.map_some, Option.map_none, Option.bind_some, Bool.not_true, Bool.not_false, Bool.false_eq_true, if_true, if_false, ite_true, ite_false, decide_true, decide_false, List.isEmpty_nil, List.isEmpty_cons, reduceCtorEq, List.length_map, List.length_append, Nat.reduceLeDiff, Nat.reduceAdd, Nat.reduceLT, decide_eq_true_eq, Bool.and_true, Bool.true_and, Bool.and_false, Bool.false_and, beq_self_eq_true, bne_self_eq_false, List.getLast?_concat, List.getLast?_singleton, List.map_append, ne_eq, not_true_eq_false, not_false_eq_true, bT_ok, bT_exc, bT_stk, sT_ok, sT_exc, sT_stk, qT_next, qT_brk, qT_cnt, qT_ret, qT_exc, qT_stk, itS_l, itL_l, okO_s, okO_n, okW_s, it_lst, it_tup, it_klst, it_ref, it_loc, lo_lst, lo_klst, lo_ref, lo_loc, eo_lst, eo_ref, eo_loc, dsOf_map, dsOf_mapf, dsOf_n, dsOf_c, dsOf_app, toD_d, toD_loc, tdL_l, toDs_map, toDs_n, toDs_c, mk_val, mk_loc, mk_shr, tr_non, tr_bl, tr_int, tr_str, tr_lst, tr_tup, tr_ref, tr_loc, bop_ii, bop_ss, bI_add, bI_sub, neg_i, cop_dd, pkL_l, cop_ld, cop_dl, eq_int, ne_int, eq_str, ne_str, eq_rep, ne_rep, lt_int, le_int, gt_int, ge_int, lt_str, le_str, gt_str, ge_str, isN_n, isN_i, isN_s, isN_t, isN_l, isN_b, notN_n, notN_i, notN_s, notN_t, notN_l, in_str, nin_str, sub_str, sub_lst, sub_tup, sub_klst, sub_ref, sub_loc, nth_0, nth_1, nth_2, nth_m1, nth_map, len_str, len_lst, len_tup, len_klst, len_ref, len_loc, isi_d, str_int, int_int, int_bl, int_str, list_str, list_lst, list_tup, list_ref, list_loc, tuple_lst, tuple_tup, tuple_ref, tuple_loc, all_lst, max_ii, min_ii, repr_d, bool_bl, bool_int, bool_lst, bool_ref, wr_ref, wr_loc, wrS_l, wrL_l, bm_append, bm_extend, bm_pop, bm_popAt, bm_join, bm_split, tyS_l, tyL_l, ty_app_ref, ty_ext_ref, ty_pop_ref, ty_popAt_ref, ty_app_loc, ty_ext_loc, ty_pop_loc, ty_popAt_loc, ty_join, ty_split, ss_set, flS_i, fl_ref, fin_o, fin_x, pt_n, pt_2, pt_3, ef_r, ef_n, ef_x, fm_s, fm_i, fm_M, lk_0, lk_1, lk_2, lk_3, sr_lst, sr_tup, sr_klst, srS_l, srL_l, sr_ref, sr_loc, si_fix, si_loc, si_shr, e_var, e_con, e_bin, e_cmp, e_chain, e_and, e_or, e_not, e_neg, e_ite, e_tup, e_lst, e_ix, e_call, e_callk, e_callv, insS_i, e_meth, mkF_o, mkF_x, e_make, e_fld, e_bi, e_bm, e_fstr, s_set, s_par, wfS_i, s_setf, s_seti, s_ex, s_ret, s_retN, s_ife, s_rai, s_pas, s_brk, s_cnt, s_nil, s_cons, t_tst, q_seq, q_str, q_r1, q_r2, at_new, set_new, List.replicate, hx1, h, h', hc]
    erw [ha]
    simp only [↓b_T, ↓s_T, ↓q_T, noX_ok, evEs, evIfs, evFs, isTy, putFl, List.getElem?_cons_zero, List.getElem?_cons_succ, List.getElem?_nil, List.set_cons_zero, List.set_cons_succ, List.length_cons, List.length_nil, List.cons_append, List.nil_append, List.append_nil, List.map_cons, List.map_nil, Option.map_some, Option.map_none, Option.bind_some, Bool.not_true, Bool.not_false, Bool.false_eq_true, if_true, if_false, ite_true, ite_false, decide_true, decide_false, List.isEmpty_nil, List.isEmpty_cons, reduceCtorEq, List.length_map, List.length_append, Nat.reduceLeDiff, Nat.reduceAdd, Nat.reduceLT, decide_eq_true_eq, Bool.and_true, Bool.true_and, Bool.and_false, Bool.false_and, beq_self_eq_true, bne_self_eq_false, List.getLast?_concat, List.getLast?_singleton, List.map_append, ne_eq, not_true_eq_false, not_false_eq_true, bT_ok, bT_exc, bT_stk, sT_ok, sT_exc, sT_stk, qT_next, qT_brk, qT_cnt, qT_ret, qT_exc, qT_stk, itS_l, itL_l, okO_s, okO_n, okW_s, it_lst, it_tup, it_klst, it_ref, it_loc, lo_lst, lo_klst, lo_ref, lo_loc, eo_lst, eo_ref, eo_loc, dsOf_map, dsOf_mapf, dsOf_n, dsOf_c, dsOf_app, toD_d, toD_loc, tdL_l, toDs_map, toDs_n, toDs_c, mk_val, mk_loc, mk_shr, tr_non, tr_bl, tr_int, tr_str, tr_lst, tr_tup, tr_ref, tr_loc, bop_ii, bop_ss, bI_add, bI_sub, neg_i, cop_dd, pkL_l, cop_ld, cop_dl, eq_int, ne_int, eq_str, ne_str, eq_rep, ne_rep, lt_int, le_int, gt_int, ge_int, lt_str, le_str, gt_str, ge_str, isN_n, isN_i, isN_s, isN_t, isN_l, isN_b, notN_n, notN_i, notN_s, notN_t, notN_l, in_str, nin_str, sub_str, sub_lst, sub_tup, sub_klst, sub_ref, sub_loc, nth_0, nth_1, nth_2, nth_m1, nth_map, len_str, len_lst, len_tup, len_klst, len_ref, len_loc, isi_d, str_int, int_int, int_bl, int_str, list_str, list_lst, list_tup, list_ref, list_loc, tuple_lst, tuple_tup, tuple_ref, tuple_loc, all_lst, max_ii, min_ii, repr_d, bool_bl, bool_int, bool_lst, bool_ref, wr_ref, wr_loc, wrS_l, wrL_l, bm_append, bm_extend, bm_pop, bm_popAt, bm_join, bm_split, tyS_l, tyL_l, ty_app_ref, ty_ext_ref, ty_pop_ref, ty_popAt_ref, ty_app_loc, ty_ext_loc, ty_pop_loc, ty_popAt_loc, ty_join, ty_split, ss_set, flS_i, fl_ref, fin_o, fin_x, pt_n, pt_2, pt_3, ef_r, ef_n, ef_x, fm_s, fm_i, fm_M, lk_0, lk_1, lk_2, lk_3, sr_lst, sr_tup, sr_klst, srS_l, srL_l, sr_ref, sr_loc, si_fix, si_loc, si_shr, e_var, e_con, e_bin, e_cmp, e_chain, e_and, e_or, e_not, e_neg, e_ite, e_tup, e_lst, e_ix, e_call, e_callk, e_callv, insS_i, e_meth, mkF_o, mkF_x, e_make, e_fld, e_bi, e_bm, e_fstr, s_set, s_par, wfS_i, s_setf, s_seti, s_ex, s_ret, s_retN, s_ife, s_rai, s_pas, s_brk, s_cnt, s_nil, s_cons, t_tst, q_seq, q_str, q_r1, q_r2, at_new, set_new, h, List.all_map]
    rfl
  · have h' : m < (x.length : Int) := by omega
    simp only [a_is_made_of, ↓b_T, ↓s_T, ↓q_T, noX_ok, evEs, evIfs, evFs, isTy, putFl, List.getElem?_cons_zero, List.getElem?_cons_succ, List.getElem?_nil, List.set_cons_zero, List.set_cons_succ, List.length_cons, List.length_nil, List.cons_append, List.nil_append, List.append_nil, List.map_cons, List.map_nil, Option.map_some, Option.map_none, Option.bind_some, Bool.not_true, Bool.not_false, Bool.false_eq_true, if_true, if_false, ite_true, ite_false, decide_true, decide_false, List.isEmpty_nil, List.isEmpty_cons, reduceCtorEq, List.length_map, List.length_append, Nat.reduceLeDiff, Nat.reduceAdd, Nat.reduceLT, decide_eq_true_eq, Bool.and_true, Bool.true_and, Bool.and_false, Bool.false_and, beq_self_eq_true, bne_self_eq_false, List.getLast?_concat, List.getLast?_singleton, List.map_append, ne_eq, not_true_eq_false, not_false_eq_true, bT_ok, bT_exc, bT_stk, sT_ok, sT_exc, sT_stk, qT_next, qT_brk, qT_cnt, qT_ret, qT_exc, qT_stk, itS_l, itL_l, okO_s, okO_n, okW_s, it_lst, it_tup, it_klst, it_ref, it_loc, lo_lst, lo_klst, lo_ref, lo_loc, eo_lst, eo_ref, eo_loc, dsOf_map, dsOf_mapf, dsOf_n, dsOf_c, dsOf_app, toD_d, toD_loc, tdL_l, toDs_map, toDs_n, toDs_c, mk_val, mk_loc, mk_shr, tr_non, tr_bl, tr_int, tr_str, tr_lst, tr_tup, tr_ref, tr_loc, bop_ii, bop_ss, bI_add, bI_sub, neg_i, cop_dd, pkL_l, cop_ld, cop_dl, eq_int, ne_int, eq_str, ne_str, eq_rep, ne_rep, lt_int, le_int, gt_int, ge_int, lt_str, le_str, gt_str, ge_str, isN_n, isN_i, isN_s, isN_t, isN_l, isN_b, notN_n, notN_i, notN_s, notN_t, notN_l, in_str, nin_str, sub_str, sub_lst, sub_tup, sub_klst, sub_ref, sub_loc, nth_0, nth_1, nth_2, nth_m1, nth_map, len_str, len_lst, len_tup, len_klst, len_ref, len_loc, isi_d, str_int, int_int, int_bl, int_str, list_str, list_lst, list_tup, list_ref, list_loc, tuple_lst, tuple_tup, tuple_ref, tuple_loc, all_lst, max_ii, min_ii, repr_d, bool_bl, bool_int, bool_lst, bool_ref, wr_ref, wr_loc, wrS_l, wrL_l, bm_append, bm_extend, bm_pop, bm_popAt, bm_join, bm_split, tyS_l, tyL_l, ty_app_ref, ty_ext_ref, ty_pop_ref, ty_popAt_ref, ty_app_loc, ty_ext_loc, ty_pop_loc, ty_popAt_loc, ty_join, ty_split, ss_set, flS_i, fl_ref, fin_o, fin_x, pt_n, pt_2, pt_3, ef_r, ef_n, ef_x, fm_s, fm_i, fm_M, lk_0, lk_1, lk_2, lk_3, sr_lst, sr_tup, sr_klst, srS_l, srL_l, sr_ref, sr_loc, si_fix, si_loc, si_shr, e_var, e_con, e_bin, e_cmp, e_chain, e_and, e_or, e_not, e_neg, e_ite, e_tup, e_lst, e_ix, e_call, e_callk, e_callv, insS_i, e_meth, mkF_o, mkF_x, e_make, e_fld, e_bi, e_bm, e_fstr, s_set, s_par, wfS_i, s_setf, s_seti, s_ex, s_ret, s_retN, s_ife, s_rai, s_pas, s_brk, s_cnt, s_nil, s_cons, t_tst, q_seq, q_str, q_r1, q_r2, at_new, set_new, List.replicate, hx1, h, h']
def SEN : Tx := ['.', '?', 'a', 'b', 'c', 'd', 'e', 'f']
theorem is_text_ok (n : Nat) (S : List SC) (x : Tx) (h : x.length ≤ 24) (hm : ∀ c ∈ x, c ∈ SGN) : tower tab (n + 2) 5 [.str x] S = .ok (.bl true) S := by
  have e := made_of n S x SGN 24 (by omega)
  have h24 : (x.length : Int) ≤ 24 := by omega
  have ha : (x.all fun c => decide (c ∈ SGN)) = true := List.all_eq_true.mpr fun c hc => decide_eq_true (hm c hc)
  rw [decide_eq_true h24, ha] at e
  simp only [SGN] at e
  rw [tw_run (fn := a_is_text) rfl rfl]
  simp only [a_is_text, ↓b_T, ↓s_T, ↓q_T, noX_ok, evEs, evIfs, evFs, isTy, putFl, List.getElem?_cons_zero, List.getElem?_cons_succ, List.getElem?_nil, List.set_cons_zero, List.set_cons_succ, List.length_cons, List.length_nil, List.cons_append, List.nil_append, List.append_nil, List.map_cons, List.map_nil, Option.map_some, Option.map_none, Option.bind_some, Bool.not_true, Bool.not_false, Bool.false_eq_true, if_true, if_false, ite_true, ite_false, decide_true, decide_false, List.isEmpty_nil, List.isEmpty_cons, reduceCtorEq, List.length_map, List.length_append, Nat.reduceLeDiff, Nat.reduceAdd, Nat.reduceLT, decide_eq_true_eq, Bool.and_true, Bool.true_and, Bool.and_false, Bool.false_and, beq_self_eq_true, bne_self_eq_false, List.getLast?_concat, List.getLast?_singleton, List.map_append, ne_eq, not_true_eq_false, not_false_eq_true, bT_ok, bT_exc, bT_stk, sT_ok, sT_exc, sT_stk, qT_next, qT_brk, qT_cnt, qT_ret, qT_exc, qT_stk, itS_l, itL_l, okO_s, okO_n, okW_s, it_lst, it_tup, it_klst, it_ref, it_loc, lo_lst, lo_klst, lo_ref, lo_loc, eo_lst, eo_ref, eo_loc, dsOf_map, dsOf_mapf, dsOf_n, dsOf_c, dsOf_app, toD_d, toD_loc, tdL_l, toDs_map, toDs_n, toDs_c, mk_val, mk_loc, mk_shr, tr_non, tr_bl, tr_int, tr_str, tr_lst, tr_tup, tr_ref, tr_loc, bop_ii, bop_ss, bI_add, bI_sub, neg_i, cop_dd, pkL_l, cop_ld, cop_dl, eq_int, ne_int, eq_str, ne_str, eq_rep, ne_rep, lt_int, le_int, gt_int, ge_int, lt_str, le_str, gt_str, ge_str, isN_n, isN_i, isN_s, isN_t, isN_l, isN_b, notN_n, notN_i, notN_s, notN_t, notN_l, in_str, nin_str, sub_str, sub_lst, sub_tup, sub_klst, sub_ref, sub_loc, nth_0, nth_1, nth_2, nth_m1, nth_map, len_str, len_lst, len_tup, len_klst, len_ref, len_loc, isi_d, str_int, int_int, int_bl, int_str, list_str, list_lst, list_tup, list_ref, list_loc, tuple_lst, tuple_tup, tuple_ref, tuple_loc, all_lst, max_ii, min_ii, repr_d, bool_bl, bool_int, bool_lst, bool_ref, wr_ref, wr_loc, wrS_l, wrL_l, bm_append, bm_extend, bm_pop, bm_popAt, bm_join, bm_split, tyS_l, tyL_l, ty_app_ref, ty_ext_ref, ty_pop_ref, ty_popAt_ref, ty_app_loc, ty_ext_loc, ty_pop_loc, ty_popAt_loc, ty_join, ty_split, ss_set, flS_i, fl_ref, fin_o, fin_x, pt_n, pt_2, pt_3, ef_r, ef_n, ef_x, fm_s, fm_i, fm_M, lk_0, lk_1, lk_2, lk_3, sr_lst, sr_tup, sr_klst, srS_l, srL_l, sr_ref, sr_loc, si_fix, si_loc, si_shr, e_var, e_con, e_bin, e_cmp, e_chain, e_and, e_or, e_not, e_neg, e_ite, e_tup, e_lst, e_ix, e_call, e_callk, e_callv, insS_i, e_meth, mkF_o, mkF_x, e_make, e_fld, e_bi, e_bm, e_fstr, s_set, s_par, wfS_i, s_setf, s_seti, s_ex, s_ret, s_retN, s_ife, s_rai, s_pas, s_brk, s_cnt, s_nil, s_cons, t_tst, q_seq, q_str, q_r1, q_r2, at_new, set_new, List.replicate, e]
theorem is_row_ok (n : Nat) (S : List SC) (x : Tx) (h : x.length ≤ 24) (hm : ∀ c ∈ x, c ∈ SEN) : tower tab (n + 2) 6 [.str x] S = .ok (.bl true) S := by
  have e := made_of n S x SEN 24 (by omega)
  have h24 : (x.length : Int) ≤ 24 := by omega
  have ha : (x.all fun c => decide (c ∈ SEN)) = true := List.all_eq_true.mpr fun c hc => decide_eq_true (hm c hc)
  rw [decide_eq_true h24, ha] at e
  simp only [SEN] at e
  rw [tw_run (fn := a_is_row) rfl rfl]
  simp only [a_is_row, ↓b_T, ↓s_T, ↓q_T, noX_ok, evEs, evIfs, evFs, isTy, putFl, List.getElem?_cons_zero, List.getElem?_cons_succ, List.getElem?_nil, List.set_cons_zero, List.set_cons_succ, List.length_cons, List.length_nil, List.cons_append, List.nil_append, List.append_nil, List.map_cons, List.map_nil, Option.map_some, Option.map_none, Option.bind_some, Bool.not_true, Bool.not_false, Bool.false_eq_true, if_true, if_false, ite_true, ite_false, decide_true, decide_false, List.isEmpty_nil, List.isEmpty_cons, reduceCtorEq, List.length_map, List.length_append, Nat.reduceLeDiff, Nat.reduceAdd, Nat.reduceLT, decide_eq_true_eq, Bool.and_true, Bool.true_and, Bool.and_false, Bool.false_and, beq_self_eq_true, bne_self_eq_false, List.getLast?_concat, List.getLast?_singleton, List.map_append, ne_eq, not_true_eq_false, not_false_eq_true, bT_ok, bT_exc, bT_stk, sT_ok, sT_exc, sT_stk, qT_next, qT_brk, qT_cnt, qT_ret, qT_exc, qT_stk, itS_l, itL_l, okO_s, okO_n, okW_s, it_lst, it_tup, it_klst, it_ref, it_loc, lo_lst, lo_klst, lo_ref, lo_loc, eo_lst, eo_ref, eo_loc, dsOf_map, dsOf_mapf, dsOf_n, dsOf_c, dsOf_app, toD_d, toD_loc, tdL_l, toDs_map, toDs_n, toDs_c, mk_val, mk_loc, mk_shr, tr_non, tr_bl, tr_int, tr_str, tr_lst, tr_tup, tr_ref, tr_loc, bop_ii, bop_ss, bI_add, bI_sub, neg_i, cop_dd, pkL_l, cop_ld, cop_dl, eq_int, ne_int, eq_str, ne_str, eq_rep, ne_rep, lt_int, le_int, gt_int, ge_int, lt_str, le_str, gt_str, ge_str, isN_n, isN_i, isN_s, isN_t, isN_l, isN_b, notN_n, notN_i, notN_s, notN_t, notN_l, in_str, nin_str, sub_str, sub_lst, sub_tup, sub_klst, sub_ref, sub_loc, nth_0, nth_1, nth_2, nth_m1, nth_map, len_str, len_lst, len_tup, len_klst, len_ref, len_loc, isi_d, str_int, int_int, int_bl, int_str, list_str, list_lst, list_tup, list_ref, list_loc, tuple_lst, tuple_tup, tuple_ref, tuple_loc, all_lst, max_ii, min_ii, repr_d, bool_bl, bool_int, bool_lst, bool_ref, wr_ref, wr_loc, wrS_l, wrL_l, bm_append, bm_extend, bm_pop, bm_popAt, bm_join, bm_split, tyS_l, tyL_l, ty_app_ref, ty_ext_ref, ty_pop_ref, ty_popAt_ref, ty_app_loc, ty_ext_loc, ty_pop_loc, ty_popAt_loc, ty_join, ty_split, ss_set, flS_i, fl_ref, fin_o, fin_x, pt_n, pt_2, pt_3, ef_r, ef_n, ef_x, fm_s, fm_i, fm_M, lk_0, lk_1, lk_2, lk_3, sr_lst, sr_tup, sr_klst, srS_l, srL_l, sr_ref, sr_loc, si_fix, si_loc, si_shr, e_var, e_con, e_bin, e_cmp, e_chain, e_and, e_or, e_not, e_neg, e_ite, e_tup, e_lst, e_ix, e_call, e_callk, e_callv, insS_i, e_meth, mkF_o, mkF_x, e_make, e_fld, e_bi, e_bm, e_fstr, s_set, s_par, wfS_i, s_setf, s_seti, s_ex, s_ret, s_retN, s_ife, s_rai, s_pas, s_brk, s_cnt, s_nil, s_cons, t_tst, q_seq, q_str, q_r1, q_r2, at_new, set_new, List.replicate, e]
/-- a text without a blank is one word -/
theorem sp_one (c : Char) (x : Tx) (h : c ∉ x) : splitL c [] x = [x] := by
  have := sp_end c x [] h
  simpa using this
theorem rowT_ne (x : Tx) : rowT x ≠ [] := by
  unfold rowT
  split <;> simp_all
theorem read_one_ok (n : Nat) (S : List SC) (x : Tx) (f : Nat) (hf : f ∈ [5, 6]) (hl : x.length ≤ 24) (hb : ' ' ∉ x) (hd : '-' ∉ x) (hj : ∀ S, tower tab (n + 2) f [.str x] S = .ok (.bl true) S) :
    ∃ S', tower tab (n + 3) 26 [.str (rowT x), .fn f] S = .ok (.str x) S' := by
  have hr5 : (rowT x).length ≤ 5000 := by
    unfold rowT
    split
    · decide
    · omega
  have e1 := words_ok (n + 1) S (rowT x) hr5
  have hb' : ' ' ∉ rowT x := by unfold rowT; split <;> simp_all
  rw [sp_one _ _ hb'] at e1
  have e2 := init_ok (n + 1) S [rowT x]
  have hget : ∀ m, (S ++ [wS [rowT x] m])[S.length]? = some (wS [rowT x] m) := fun m => by simp
  have hset : ∀ m m', (S ++ [wS [rowT x] m]).set S.length (wS [rowT x] m') = S ++ [wS [rowT x] m'] := fun m m' => by simp
  have e3 := next_ok (n + 1) (hget 0) (by simp)
  have e4 := step_ok (n + 1) (hget 0)
  rw [hset] at e4
  have e5 := stop_ok (n + 1) (hget 1) (by simp)
  have hi : ∀ m, (S ++ [wS [rowT x] m])[S.length]? = some (.ins 0 [(0, .lst ([rowT x].map D.str)), (1, .int (m : Nat))]) := fun m => wS_ins (hget m)
  simp only [List.getElem_cons_zero] at e3
  refine ⟨S ++ [wS [rowT x] 1], ?_⟩
  rw [tw_run (fn := a_read_one) rfl rfl]
  by_cases hx : x = []
  · subst hx
    have : rowT [] = ['-'] := rfl
    rw [this] at e1 e2 e3 e4 e5 hi ⊢
    simp only [List.map_cons, List.map_nil] at e1 e2
    simp only [a_read_one, ↓b_T, ↓s_T, ↓q_T, noX_ok, evEs, evIfs, evFs, isTy, putFl, List.getElem?_cons_zero, List.getElem?_cons_succ, List.getElem?_nil, List.set_cons_zero, List.set_cons_succ, List.length_cons, List.length_nil, List.cons_append, List.nil_append, List.append_nil, List.map_cons, List.map_nil, Option.map_some, Option.map_none, Option.bind_some, Bool.not_true, Bool.not_false, Bool.false_eq_true, if_true, if_false, ite_true, ite_false, decide_true, decide_false, List.isEmpty_nil, List.isEmpty_cons, reduceCtorEq, List.length_map, List.length_append, Nat.reduceLeDiff, Nat.reduceAdd, Nat.reduceLT, decide_eq_true_eq, Bool.and_true, Bool.true_and, Bool.and_false, Bool.false_and, beq_self_eq_true, bne_self_eq_false, List.getLast?_concat, List.getLast?_singleton, List.map_append, ne_eq, not_true_eq_false, not_false_eq_true, bT_ok, bT_exc, bT_stk, sT_ok, sT_exc, sT_stk, qT_next, qT_brk, qT_cnt, qT_ret, qT_exc, qT_stk, itS_l, itL_l, okO_s, okO_n, okW_s, it_lst, it_tup, it_klst, it_ref, it_loc, lo_lst, lo_klst, lo_ref, lo_loc, eo_lst, eo_ref, eo_loc, dsOf_map, dsOf_mapf, dsOf_n, dsOf_c, dsOf_app, toD_d, toD_loc, tdL_l, toDs_map, toDs_n, toDs_c, mk_val, mk_loc, mk_shr, tr_non, tr_bl, tr_int, tr_str, tr_lst, tr_tup, tr_ref, tr_loc, bop_ii, bop_ss, bI_add, bI_sub, neg_i, cop_dd, pkL_l, cop_ld, cop_dl, eq_int, ne_int, eq_str, ne_str, eq_rep, ne_rep, lt_int, le_int, gt_int, ge_int, lt_str, le_str, gt_str, ge_str, isN_n, isN_i, isN_s, isN_t, isN_l, isN_b, notN_n, notN_i, notN_s, notN_t, notN_l, in_str, nin_str, sub_str, sub_lst, sub_tup, sub_klst, sub_ref, sub_loc, nth_0, nth_1, nth_2, nth_m1, nth_map, len_str, len_lst, len_tup, len_klst, len_ref, len_loc, isi_d, str_int, int_int, int_bl, int_str, list_str, list_lst, list_tup, list_ref, list_loc, tuple_lst, tuple_tup, tuple_ref, tuple_loc, all_lst, max_ii, min_ii, repr_d, bool_bl, bool_int, bool_lst, bool_ref, wr_ref, wr_loc, wrS_l, wrL_l, bm_append, bm_extend, bm_pop, bm_popAt, bm_join, bm_split, tyS_l, tyL_l, ty_app_ref, ty_ext_ref, ty_pop_ref, ty_popAt_ref, ty_app_loc, ty_ext_loc, ty_pop_loc, ty_popAt_loc, ty_join, ty_split, ss_set, flS_i, fl_ref, fin_o, fin_x, pt_n, pt_2, pt_3, ef_r, ef_n, ef_x, fm_s, fm_i, fm_M, lk_0, lk_1, lk_2, lk_3, sr_lst, sr_tup, sr_klst, srS_l, srL_l, sr_ref, sr_loc, si_fix, si_loc, si_shr, e_var, e_con, e_bin, e_cmp, e_chain, e_and, e_or, e_not, e_neg, e_ite, e_tup, e_lst, e_ix, e_call, e_callk, e_callv, insS_i, e_meth, mkF_o, mkF_x, e_make, e_fld, e_bi, e_bm, e_fstr, s_set, s_par, wfS_i, s_setf, s_seti, s_ex, s_ret, s_retN, s_ife, s_rai, s_pas, s_brk, s_cnt, s_nil, s_cons, t_tst, q_seq, q_str, q_r1, q_r2, at_new, set_new, List.replicate, e1, e2, hi, e3, e4, e5]
  · have hr : rowT x = x := by unfold rowT; rw [if_neg hx]
    rw [hr] at e1 e2 e3 e4 e5 hi ⊢
    have hnd : ¬ x = ['-'] := by rintro rfl; simp at hd
    simp only [List.map_cons, List.map_nil] at e1 e2
    have hj' := hj (S ++ [wS [x] 0])
    simp only [a_read_one, ↓b_T, ↓s_T, ↓q_T, noX_ok, evEs, evIfs, evFs, isTy, putFl, List.getElem?_cons_zero, List.getElem?_cons_succ, List.getElem?_nil, List.set_cons_zero, List.set_cons_succ, List.length_cons, List.length_nil, List.cons_append, List.nil_append, List.append_nil, List.map_cons, List.map_nil, Option.map_some, Option.map_none, Option.bind_some, Bool.not_true, Bool.not_false, Bool.false_eq_true, if_true, if_false, ite_true, ite_false, decide_true, decide_false, List.isEmpty_nil, List.isEmpty_cons, reduceCtorEq, List.length_map, List.length_append, Nat.reduceLeDiff, Nat.reduceAdd, Nat.reduceLT, decide_eq_true_eq, Bool.and_true, Bool.true_and, Bool.and_false, Bool.false_and, beq_self_eq_true, bne_self_eq_false, List.getLast?_concat, List.getLast?_singleton, List.map_append, ne_eq, not_true_eq_false, not_false_eq_true, bT_ok, bT_exc, bT_stk, sT_ok, sT_exc, sT_stk, qT_next, qT_brk, qT_cnt, qT_ret, qT_exc, qT_stk, itS_l, itL_l, okO_s, okO_n, okW_s, it_lst, it_tup, it_klst, it_ref, it_loc, lo_lst, lo_klst, lo_ref, lo_loc, eo_lst, eo_ref, eo_loc, dsOf_map, dsOf_mapf, dsOf_n, dsOf_c, dsOf_app, toD_d, toD_loc, tdL_l, toDs_map, toDs_n, toDs_c, mk_val, mk_loc, mk_shr, tr_non, tr_bl, tr_int, tr_str, tr_lst, tr_tup, tr_ref, tr_loc, bop_ii, bop_ss, bI_add, bI_sub, neg_i, cop_dd, pkL_l, cop_ld, cop_dl, eq_int, ne_int, eq_str, ne_str, eq_rep, ne_rep, lt_int, le_int, gt_int, ge_int, lt_str, le_str, gt_str, ge_str, isN_n, isN_i, isN_s, isN_t, isN_l, isN_b, notN_n, notN_i, notN_s, notN_t, notN_l, in_str, nin_str, sub_str, sub_lst, sub_tup, sub_klst, sub_ref, sub_loc, nth_0, nth_1, nth_2, nth_m1, nth_map, len_str, len_lst, len_tup, len_klst, len_ref, len_loc, isi_d, str_int, int_int, int_bl, int_str, list_str, list_lst, list_tup, list_ref, list_loc, tuple_lst, tuple_tup, tuple_ref, tuple_loc, all_lst, max_ii, min_ii, repr_d, bool_bl, bool_int, bool_lst, bool_ref, wr_ref, wr_loc, wrS_l, wrL_l, bm_append, bm_extend, bm_pop, bm_popAt, bm_join, bm_split, tyS_l, tyL_l, ty_app_ref, ty_ext_ref, ty_pop_ref, ty_popAt_ref, ty_app_loc, ty_ext_loc, ty_pop_loc, ty_popAt_loc, ty_join, ty_split, ss_set, flS_i, fl_ref, fin_o, fin_x, pt_n, pt_2, pt_3, ef_r, ef_n, ef_x, fm_s, fm_i, fm_M, lk_0, lk_1, lk_2, lk_3, sr_lst, sr_tup, sr_klst, srS_l, srL_l, sr_ref, sr_loc, si_fix, si_loc, si_shr, e_var, e_con, e_bin, e_cmp, e_chain, e_and, e_or, e_not, e_neg, e_ite, e_tup, e_lst, e_ix, e_call, e_callk, e_callv, insS_i, e_meth, mkF_o, mkF_x, e_make, e_fld, e_bi, e_bm, e_fstr, s_set, s_par, wfS_i, s_setf, s_seti, s_ex, s_ret, s_retN, s_ife, s_rai, s_pas, s_brk, s_cnt, s_nil, s_cons, t_tst, q_seq, q_str, q_r1, q_r2, at_new, set_new, List.replicate, e1, e2, hi, e3, e4, e5, hnd, hx, hf, hj']
theorem read_row_ok (n : Nat) (S : List SC) (x : Tx) (hl : x.length ≤ 24) (hm : ∀ c ∈ x, c ∈ SEN) : ∃ S', tower tab (n + 4) 27 [.str (rowT x)] S = .ok (.str x) S' := by
  obtain ⟨S', e⟩ := read_one_ok n S x 6 (by decide) hl (fun h => absurd (hm _ h) (by decide)) (fun h => absurd (hm _ h) (by decide)) fun S => is_row_ok n S x hl hm
  refine ⟨S', ?_⟩
  rw [tw_run (fn := a_read_row) rfl rfl]
  simp only [a_read_row, ↓b_T, ↓s_T, ↓q_T, noX_ok, evEs, evIfs, evFs, isTy, putFl, List.getElem?_cons_zero, List.getElem?_cons_succ, List.getElem?_nil, List.set_cons_zero, List.set_cons_succ, List.length_cons, List.length_nil, List.cons_append, List.nil_append, List.append_nil, List.map_cons, List.map_nil, Option.map_some, Option.map_none, Option.bind_some, Bool.not_true, Bool.not_false, Bool.false_eq_true, if_true, if_false, ite_true, ite_false, decide_true, decide_false, List.isEmpty_nil, List.isEmpty_cons, reduceCtorEq, List.length_map, List.length_append, Nat.reduceLeDiff, Nat.reduceAdd, Nat.reduceLT, decide_eq_true_eq, Bool.and_true, Bool.true_and, Bool.and_false, Bool.false_and, beq_self_eq_true, bne_self_eq_false, List.getLast?_concat, List.getLast?_singleton, List.map_append, ne_eq, not_true_eq_false, not_false_eq_true, bT_ok, bT_exc, bT_stk, sT_ok, sT_exc, sT_stk, qT_next, qT_brk, qT_cnt, qT_ret, qT_exc, qT_stk, itS_l, itL_l, okO_s, okO_n, okW_s, it_lst, it_tup, it_klst, it_ref, it_loc, lo_lst, lo_klst, lo_ref, lo_loc, eo_lst, eo_ref, eo_loc, dsOf_map, dsOf_mapf, dsOf_n, dsOf_c, dsOf_app, toD_d, toD_loc, tdL_l, toDs_map, toDs_n, toDs_c, mk_val, mk_loc, mk_shr, tr_non, tr_bl, tr_int, tr_str, tr_lst, tr_tup, tr_ref, tr_loc, bop_ii, bop_ss, bI_add, bI_sub, neg_i, cop_dd, pkL_l, cop_ld, cop_dl, eq_int, ne_int, eq_str, ne_str, eq_rep, ne_rep, lt_int, le_int, gt_int, ge_int, lt_str, le_str, gt_str, ge_str, isN_n, isN_i, isN_s, isN_t, isN_l, isN_b, notN_n, notN_i, notN_s, notN_t, notN_l, in_str, nin_str, sub_str, sub_lst, sub_tup, sub_klst, sub_ref, sub_loc, nth_0, nth_1, nth_2, nth_m1, nth_map, len_str, len_lst, len_tup, len_klst, len_ref, len_loc, isi_d, str_int, int_int, int_bl, int_str, list_str, list_lst, list_tup, list_ref, list_loc, tuple_lst, tuple_tup, tuple_ref, tuple_loc, all_lst, max_ii, min_ii, repr_d, bool_bl, bool_int, bool_lst, bool_ref, wr_ref, wr_loc, wrS_l, wrL_l, bm_append, bm_extend, bm_pop, bm_popAt, bm_join, bm_split, tyS_l, tyL_l, ty_app_ref, ty_ext_ref, ty_pop_ref, ty_popAt_ref, ty_app_loc, ty_ext_loc, ty_pop_loc, ty_popAt_loc, ty_join, ty_split, ss_set, flS_i, fl_ref, fin_o, fin_x, pt_n, pt_2, pt_3, ef_r, ef_n, ef_x, fm_s, fm_i, fm_M, lk_0, lk_1, lk_2, lk_3, sr_lst, sr_tup, sr_klst, srS_l, srL_l, sr_ref, sr_loc, si_fix, si_loc, si_shr, e_var, e_con, e_bin, e_cmp, e_chain, e_and, e_or, e_not, e_neg, e_ite, e_tup, e_lst, e_ix, e_call, e_callk, e_callv, insS_i, e_meth, mkF_o, mkF_x, e_make, e_fld, e_bi, e_bm, e_fstr, s_set, s_par, wfS_i, s_setf, s_seti, s_ex, s_ret, s_retN, s_ife, s_rai, s_pas, s_brk, s_cnt, s_nil, s_cons, t_tst, q_seq, q_str, q_r1, q_r2, at_new, set_new, List.replicate, e]
theorem read_text_ok (n : Nat) (S : List SC) (x : Tx) (hl : x.length ≤ 24) (hm : ∀ c ∈ x, c ∈ SGN) : ∃ S', tower tab (n + 4) 28 [.str (rowT x)] S = .ok (.str x) S' := by
  obtain ⟨S', e⟩ := read_one_ok n S x 5 (by decide) hl (fun h => absurd (hm _ h) (by decide)) (fun h => absurd (hm _ h) (by decide)) fun S => is_text_ok n S x hl hm
  refine ⟨S', ?_⟩
  rw [tw_run (fn := a_read_text) rfl rfl]
  simp only [a_read_text, ↓b_T, ↓s_T, ↓q_T, noX_ok, evEs, evIfs, evFs, isTy, putFl, List.getElem?_cons_zero, List.getElem?_cons_succ, List.getElem?_nil, List.set_cons_zero, List.set_cons_succ, List.length_cons, List.length_nil, List.cons_append, List.nil_append, List.append_nil, List.map_cons, List.map_nil, Option.map_some, Option.map_none, Option.bind_some, Bool.not_true, Bool.not_false, Bool.false_eq_true, if_true, if_false, ite_true, ite_false, decide_true, decide_false, List.isEmpty_nil, List.isEmpty_cons, reduceCtorEq, List.length_map, List.length_append, Nat.reduceLeDiff, Nat.reduceAdd, Nat.reduceLT, decide_eq_true_eq, Bool.and_true, Bool.true_and, Bool.and_false, Bool.false_and, beq_self_eq_true, bne_self_eq_false, List.getLast?_concat, List.getLast?_singleton, List.map_append, ne_eq, not_true_eq_false, not_false_eq_true, bT_ok, bT_exc, bT_stk, sT_ok, sT_exc, sT_stk, qT_next, qT_brk, qT_cnt, qT_ret, qT_exc, qT_stk, itS_l, itL_l, okO_s, okO_n, okW_s, it_lst, it_tup, it_klst, it_ref, it_loc, lo_lst, lo_klst, lo_ref, lo_loc, eo_lst, eo_ref, eo_loc, dsOf_map, dsOf_mapf, dsOf_n, dsOf_c, dsOf_app, toD_d, toD_loc, tdL_l, toDs_map, toDs_n, toDs_c, mk_val, mk_loc, mk_shr, tr_non, tr_bl, tr_int, tr_str, tr_lst, tr_tup, tr_ref, tr_loc, bop_ii, bop_ss, bI_add, bI_sub, neg_i, cop_dd, pkL_l, cop_ld, cop_dl, eq_int, ne_int, eq_str, ne_str, eq_rep, ne_rep, lt_int, le_int, gt_int, ge_int, lt_str, le_str, gt_str, ge_str, isN_n, isN_i, isN_s, isN_t, isN_l, isN_b, notN_n, notN_i, notN_s, notN_t, notN_l, in_str, nin_str, sub_str, sub_lst, sub_tup, sub_klst, sub_ref, sub_loc, nth_0, nth_1, nth_2, nth_m1, nth_map, len_str, len_lst, len_tup, len_klst, len_ref, len_loc, isi_d, str_int, int_int, int_bl, int_str, list_str, list_lst, list_tup, list_ref, list_loc, tuple_lst, tuple_tup, tuple_ref, tuple_loc, all_lst, max_ii, min_ii, repr_d, bool_bl, bool_int, bool_lst, bool_ref, wr_ref, wr_loc, wrS_l, wrL_l, bm_append, bm_extend, bm_pop, bm_popAt, bm_join, bm_split, tyS_l, tyL_l, ty_app_ref, ty_ext_ref, ty_pop_ref, ty_popAt_ref, ty_app_loc, ty_ext_loc, ty_pop_loc, ty_popAt_loc, ty_join, ty_split, ss_set, flS_i, fl_ref, fin_o, fin_x, pt_n, pt_2, pt_3, ef_r, ef_n, ef_x, fm_s, fm_i, fm_M, lk_0, lk_1, lk_2, lk_3, sr_lst, sr_tup, sr_klst, srS_l, srL_l, sr_ref, sr_loc, si_fix, si_loc, si_shr, e_var, e_con, e_bin, e_cmp, e_chain, e_and, e_or, e_not, e_neg, e_ite, e_tup, e_lst, e_ix, e_call, e_callk, e_callv, insS_i, e_meth, mkF_o, mkF_x, e_make, e_fld, e_bi, e_bm, e_fstr, s_set, s_par, wfS_i, s_setf, s_seti, s_ex, s_ret, s_retN, s_ife, s_rai, s_pas, s_brk, s_cnt, s_nil, s_cons, t_tst, q_seq, q_str, q_r1, q_r2, at_new, set_new, List.replicate, e]
/-! repr -/
theorem repr_ok {x : D} {t : Stt} (h1 : (D.pd? x).isSome) (h2 : x.wt ≤ 1000000) (h3 : x.dp ≤ 8) (h4 : x.shw = true) : bi .repr [.d x] t = .ok (.d (.rep x)) t := by
  rw [repr_d, if_pos ⟨h1, h2, h3, h4⟩]
theorem repr_str {x : Tx} {t : Stt} (h : x.length ≤ 5000) : bi .repr [.d (.str x)] t = .ok (.d (.rep (.str x))) t :=
  repr_ok (by simp [D.pd?]) (by simp only [D.wt]; omega) (by simp [D.dp]) (by simp [D.shw])
theorem pds_all : ∀ {ds : List D}, (∀ d ∈ ds, (D.pd? d).isSome) → (D.pds? ds).isSome
  | [], _ => rfl
  | d :: r, h => by
    have a := h d (by simp)
    have b := pds_all (ds := r) fun x hx => h x (by simp [hx])
    obtain ⟨p, hp⟩ := Option.isSome_iff_exists.mp a
    obtain ⟨q, hq⟩ := Option.isSome_iff_exists.mp b
    simp [D.pds?, hp, hq]
theorem wts_all {b : Nat} : ∀ {ds : List D}, (∀ d ∈ ds, d.wt ≤ b) → D.wts ds ≤ (b + 2) * ds.length
  | [], _ => by simp [D.wts]
  | d :: r, h => by
    have a := h d (by simp)
    have c := wts_all (b := b) (ds := r) fun x hx => h x (by simp [hx])
    simp only [D.wts, List.length_cons, Nat.mul_add, Nat.mul_one]
    omega
theorem dps_all {b : Nat} : ∀ {ds : List D}, (∀ d ∈ ds, d.dp ≤ b) → D.dps ds ≤ b
  | [], _ => by simp [D.dps]
  | d :: r, h => by
    have a := h d (by simp)
    have c := dps_all (b := b) (ds := r) fun x hx => h x (by simp [hx])
    simp only [D.dps]
    omega
theorem shws_all : ∀ {ds : List D}, (∀ d ∈ ds, d.shw = true) → D.shws ds = true
  | [], _ => rfl
  | d :: r, h => by simp [D.shws, h d (by simp), shws_all (ds := r) fun x hx => h x (by simp [hx])]
/-- data that can be shown: bounds of its items -/
structure Sh (b c : Nat) (d : D) : Prop where
  pd : (D.pd? d).isSome
  wt : d.wt ≤ b
  dp : d.dp ≤ c
  sh : d.shw = true
theorem Sh.tup {b c l : Nat} {ds : List D} (h : ∀ d ∈ ds, Sh b c d) (hl : ds.length ≤ l) : Sh ((b + 2) * l + 3) (c + 1) (.tup ds) := by
  have p := pds_all fun d hd => (h d hd).pd
  obtain ⟨q, hq⟩ := Option.isSome_iff_exists.mp p
  have w := wts_all fun d hd => (h d hd).wt
  have w2 : (b + 2) * ds.length ≤ (b + 2) * l := Nat.mul_le_mul (Nat.le_refl _) hl
  have dd := dps_all fun d hd => (h d hd).dp
  exact ⟨by simp [D.pd?, hq], by simp only [D.wt]; omega, by simp only [D.dp]; omega, by simp only [D.shw]; exact shws_all fun d hd => (h d hd).sh⟩
theorem Sh.mono {b c b' c' : Nat} {d : D} (h : Sh b c d) (hb : b ≤ b') (hc : c ≤ c') : Sh b' c' d := ⟨h.pd, by have := h.wt; omega, by have := h.dp; omega, h.sh⟩
theorem Sh.nat {k : Nat} (h : k < 1000) : Sh 100 0 (.int (k : Nat)) := by
  have e : ((k : Nat) : Int).natAbs = k := rfl
  have : k.log2 < 10 := by
    by_cases z : k = 0
    · subst z; decide
    · exact (Nat.log2_lt z).mpr (by omega)
  exact ⟨by simp [D.pd?], by simp only [D.wt, e]; omega, by simp [D.dp], by simp only [D.shw, e]; exact decide_eq_true (by omega)⟩
theorem Sh.str {x : Tx} {b : Nat} (h : x.length ≤ b) : Sh (10 * b + 2) 0 (.str x) := ⟨by simp [D.pd?], by simp only [D.wt]; omega, by simp [D.dp], by simp [D.shw]⟩
theorem Sh.ok {b c : Nat} {x : D} {t : Stt} (h : Sh b c x) (hb : b ≤ 1000000) (hc : c ≤ 8) : bi .repr [.d x] t = .ok (.d (.rep x)) t := repr_ok h.pd (by have := h.wt; omega) (by have := h.dp; omega) h.sh
theorem Sh_P (j : Nat) : Sh 53 1 (P j) := by
  have := Sh.tup (b := 12) (c := 0) (l := 2) (ds := [.str [(PQ j).1], .str [(PQ j).2]]) (by
    intro d hd
    simp only [List.mem_cons, List.not_mem_nil, or_false] at hd
    rcases hd with rfl | rfl <;> exact Sh.str (b := 1) (by simp)) (by simp)
  exact this.mono (by decide) (by decide)
theorem Sh_wear {js : List Nat} (h : js.length ≤ 20) : Sh 2000 2 (.tup (js.map P)) :=
  (Sh.tup (b := 53) (c := 1) (l := 20) (fun d hd => by obtain ⟨j, _, rfl⟩ := List.mem_map.mp hd; exact Sh_P j) (by simpa using h)).mono (by decide) (by decide)
theorem Sh_DD {q : Nat × Nat} (h1 : q.1 < 72) (h2 : q.2 < 12) : Sh 400 1 (DD q) := by
  have := Sh.tup (b := 100) (c := 0) (l := 3) (ds := [.int (q.1 / 6 : Nat), .str [SGN.getD (q.1 % 6) 'a'], .int q.2]) (by
    intro d hd
    simp only [List.mem_cons, List.not_mem_nil, or_false] at hd
    rcases hd with rfl | rfl | rfl
    · exact Sh.nat (by omega)
    · exact (Sh.str (b := 1) (by simp)).mono (by decide) (by decide)
    · exact Sh.nat (by omega)) (by simp)
  exact this.mono (by decide) (by decide)
theorem Sh_BK {rooms : Nat} {qs : List (Nat × Nat)} {es : List Nat} (hr : rooms ≤ 12) (h : Dok qs) (he : ∀ e ∈ es, e < 12) (hl : es.length ≤ 12) : Sh 100000 3 (BK rooms qs es) := by
  have a : Sh 30000 2 (.tup (qs.map DD)) := (Sh.tup (b := 400) (c := 1) (l := 72) (fun d hd => by obtain ⟨q, hq, rfl⟩ := List.mem_map.mp hd; exact Sh_DD (h.2 q hq).1 (h.2 q hq).2) (by simpa using h.1)).mono (by decide) (by decide)
  have b : Sh 30000 2 (.tup (es.map iD)) := (Sh.tup (b := 100) (c := 0) (l := 12) (fun d hd => by obtain ⟨q, hq, rfl⟩ := List.mem_map.mp hd; exact Sh.nat (by have := he q hq; omega)) (by simpa using hl)).mono (by decide) (by decide)
  have := Sh.tup (b := 30000) (c := 2) (l := 3) (ds := [.int rooms, .tup (qs.map DD), .tup (es.map iD)]) (by
    intro d hd
    simp only [List.mem_cons, List.not_mem_nil, or_false] at hd
    rcases hd with rfl | rfl | rfl
    · exact (Sh.nat (by omega)).mono (by decide) (by decide)
    · exact a
    · exact b) (by simp)
  exact this.mono (by decide) (by decide)
end MP
end

/-! text K82AJ -/
section
set_option Elab.async false
set_option linter.all false
set_option maxRecDepth 100000
set_option maxHeartbeats 1000000
namespace MP
theorem purse_ok (n : Nat) (S : List SC) (ns : List Int) (k : Nat) (hk : k < 100) : ∃ S', tower tab (n + 1) 29 [.klst (ns.map D.int), .int (k : Nat)] S = .ok (.ref S.length) S' ∧ Pu S' S.length 0 := by
  have p18 : bopI .pow 10 18 = some (10 ^ 18) := bI_pow (by decide) (by decide) (by decide) (by decide)
  have p38 : bopI .pow 10 38 = some (10 ^ 38) := bI_pow (by decide) (by decide) (by decide) (by decide)
  have pmod : ∀ c : Int, bopI .mod c (10 ^ 38 + 177) = some (c % (10 ^ 38 + 177)) := fun c => bI_mod (by decide)
  have pmul : bopI .mul 1009 ((k : Nat) : Int) = some (1009 * (k : Int)) := bI_mul (by decide) (by decide) (by omega) (Int.lt_of_le_of_lt (show ((k : Nat) : Int) ≤ 100 by omega) (by decide))
  have main : ∀ c : Int, ∃ a : Int, endF (evSs (tower tab n) [.ret (.lst .shr (.cons (.bi .max2 (.cons (.con (.int 0)) (.cons (.bin .sub (.var 2) (.bin .pow (.con (.int 10)) (.con (.int 18)))) .nil))) (.cons (.bin .add (.bin .add (.bin .mod (.bi .int (.cons (.var 2) .nil)) (.bin .add (.bin .pow (.con (.int 10)) (.con (.int 38))) (.con (.int 177)))) (.bin .mul (.con (.int 1009)) (.var 1))) (.con (.int 5))) (.cons (.con (.int 0)) .nil))))] [some (.d (.klst (ns.map D.int))), some (.d (.int (k : Nat))), some (.d (.int c))] ⟨[], S⟩) = .ok (.ref S.length) (S ++ [.lst [.int a, .int (c % (10 ^ 38 + 177) + 1009 * k + 5), .int 0]]) := fun c => by
    refine ⟨if c - 10 ^ 18 > 0 then c - 10 ^ 18 else 0, ?_⟩
    simp only [↓b_T, ↓s_T, ↓q_T, noX_ok, evEs, evIfs, evFs, isTy, putFl, List.getElem?_cons_zero, List.getElem?_cons_succ, List.getElem?_nil, List.set_cons_zero, List.set_cons_succ, List.length_cons, List.length_nil, List.cons_append, List.nil_append, List.append_nil, List.map_cons, List.map_nil, Option.map_some, Option.map_none, Option.bind_some, Bool.not_true, Bool.not_false, Bool.false_eq_true, if_true, if_false, ite_true, ite_false, decide_true, decide_false, List.isEmpty_nil, List.isEmpty_cons, reduceCtorEq, List.length_map, List.length_append, Nat.reduceLeDiff, Nat.reduceAdd, Nat.reduceLT, decide_eq_true_eq, Bool.and_true, Bool.true_and, Bool.and_false, Bool.false_and, beq_self_eq_true, bne_self_eq_false, List.getLast?_concat, List.getLast?_singleton, List.map_append, ne_eq, not_true_eq_false, not_false_eq_true, bT_ok, bT_exc, bT_stk, sT_ok, sT_exc, sT_stk, qT_next, qT_brk, qT_cnt, qT_ret, qT_exc, qT_stk, itS_l, itL_l, okO_s, okO_n, okW_s, it_lst, it_tup, it_klst, it_ref, it_loc, lo_lst, lo_klst, lo_ref, lo_loc, eo_lst, eo_ref, eo_loc, dsOf_map, dsOf_mapf, dsOf_n, dsOf_c, dsOf_app, toD_d, toD_loc, tdL_l, toDs_map, toDs_n, toDs_c, mk_val, mk_loc, mk_shr, tr_non, tr_bl, tr_int, tr_str, tr_lst, tr_tup, tr_ref, tr_loc, bop_ii, bop_ss, bI_add, bI_sub, neg_i, cop_dd, pkL_l, cop_ld, cop_dl, eq_int, ne_int, eq_str, ne_str, eq_rep, ne_rep, lt_int, le_int, gt_int, ge_int, lt_str, le_str, gt_str, ge_str, isN_n, isN_i, isN_s, isN_t, isN_l, isN_b, notN_n, notN_i, notN_s, notN_t, notN_l, in_str, nin_str, sub_str, sub_lst, sub_tup, sub_klst, sub_ref, sub_loc, nth_0, nth_1, nth_2, nth_m1, nth_map, len_str, len_lst, len_tup, len_klst, len_ref, len_loc, isi_d, str_int, int_int, int_bl, int_str, list_str, list_lst, list_tup, list_ref, list_loc, tuple_lst, tuple_tup, tuple_ref, tuple_loc, all_lst, max_ii, min_ii, repr_d, bool_bl, bool_int, bool_lst, bool_ref, wr_ref, wr_loc, wrS_l, wrL_l, bm_append, bm_extend, bm_pop, bm_popAt, bm_join, bm_split, tyS_l, tyL_l, ty_app_ref, ty_ext_ref, ty_pop_ref, ty_popAt_ref, ty_app_loc, ty_ext_loc, ty_pop_loc, ty_popAt_loc, ty_join, ty_split, ss_set, flS_i, fl_ref, fin_o, fin_x, pt_n, pt_2, pt_3, ef_r, ef_n, ef_x, fm_s, fm_i, fm_M, lk_0, lk_1, lk_2, lk_3, sr_lst, sr_tup, sr_klst, srS_l, srL_l, sr_ref, sr_loc, si_fix, si_loc, si_shr, e_var, e_con, e_bin, e_cmp, e_chain, e_and, e_or, e_not, e_neg, e_ite, e_tup, e_lst, e_ix, e_call, e_callk, e_callv, insS_i, e_meth, mkF_o, mkF_x, e_make, e_fld, e_bi, e_bm, e_fstr, s_set, s_par, wfS_i, s_setf, s_seti, s_ex, s_ret, s_retN, s_ife, s_rai, s_pas, s_brk, s_cnt, s_nil, s_cons, t_tst, q_seq, q_str, q_r1, q_r2, at_new, set_new, p18, p38, pmod, pmul]
  have hP : ∀ (a c : Int), Pu (S ++ [.lst [.int a, .int (c % (10 ^ 38 + 177) + 1009 * k + 5), .int 0]]) S.length 0 := fun a c => by
    have h1 := Int.emod_nonneg c (b := 10 ^ 38 + 177) (by decide)
    have h2 := Int.emod_lt_of_pos c (b := 10 ^ 38 + 177) (by decide)
    refine ⟨a, _, 0, at_new _ _, by omega, ?_, by omega, by omega⟩
    have : (10 : Int) ^ 38 + 177 + 1009 * 100 + 5 < 10 ^ 40 := by decide
    have hk' : ((k : Nat) : Int) ≤ 100 := by omega
    omega
  rw [tw_run (fn := a_law_purse) rfl rfl]
  by_cases h : k < ns.length
  · have hlt : ((k : Nat) : Int) < ns.length := by omega
    obtain ⟨a, e⟩ := main ns[k]
    refine ⟨_, ?_, hP a ns[k]⟩
    have hg : ((ns.map D.int).map W.d)[k]? = some (.d (.int ns[k])) := by simp [h]
    rw [← e]
    simp only [a_law_purse, List.replicate, s_cons, s_set, s_ife, e_con, R.stm_ok, pt_n, RS.seq_next, t_tst, e_cmp, e_var, e_bi, evEs, R.bind_ok, List.getElem?_cons_zero, List.getElem?_cons_succ, List.set_cons_zero, List.set_cons_succ, List.cons_append, List.nil_append, List.map_cons, List.map_nil, len_klst, List.length_map, cop_dd, lt_int, okO_s, hlt, decide_true, tr_bl, if_true, s_nil, e_ix, sub_klst, nth_nat, hg]
  · have hlt : ¬ ((k : Nat) : Int) < ns.length := by omega
    obtain ⟨a, e⟩ := main 0
    refine ⟨_, ?_, hP a 0⟩
    rw [← e]
    simp only [a_law_purse, List.replicate, s_cons, s_set, s_ife, e_con, R.stm_ok, pt_n, RS.seq_next, t_tst, e_cmp, e_var, e_bi, evEs, R.bind_ok, List.getElem?_cons_zero, List.getElem?_cons_succ, List.set_cons_zero, List.set_cons_succ, List.cons_append, List.nil_append, List.map_cons, List.map_nil, len_klst, List.length_map, cop_dd, lt_int, okO_s, hlt, decide_false, tr_bl, Bool.false_eq_true, if_false, s_nil]
end MP
end

/-! text K82AJ2 -/
section
set_option Elab.async false
set_option linter.all false
set_option maxRecDepth 100000
set_option maxHeartbeats 1000000
namespace MP
theorem right_ok (n : Nat) {S : List SC} {p : Nat} (h : Pu S p 0) : ∃ S', tower tab (n + 6) 37 [.ref p] S = .ok (.bl true) S' := by
  obtain ⟨js, S1, e1, j1, j2, j3, h1⟩ := rub_ok (n + 3) h (by omega)
  obtain ⟨rooms, qs, es, S2, e2, r1, r2, hc, he, h2⟩ := shelf_ok (n + 3) h1 (by omega)
  obtain ⟨x, S3, e3, x1, x2, h3⟩ := signs_ok (n + 2) (pool := SEN) h2 (by omega) (by decide) (by decide)
  obtain ⟨y, S4, e4, y1, y2, h4⟩ := signs_ok (n + 2) (pool := SGN) h3 (by omega) (by decide) (by decide)
  have hq : ∀ q ∈ qs, q.1 < 72 ∧ q.2 < 12 := fun q hq => by have a := (hc.2 q hq).1; have b := (hc.2 q hq).2; omega
  have hql := hc.len
  have hD : Dok qs := ⟨by omega, hq⟩
  have he12 : ∀ e ∈ es, e < 12 := fun e h => by have := he.2 e h; omega
  have hel := he.len
  have a1 := fun S => show_wear_ok (n + 4) S js j3
  have a2 := fun S => pairs_text_ok (n + 4) S js j3
  obtain ⟨f1, b1⟩ := Classical.skolem.mp fun S => read_wear_ok n S js j1 j2 j3
  have a3 := fun S => show_book_ok (n + 4) S rooms qs es r2 hD he12 (by omega)
  have a4 := fun S => shelf_text_ok (n + 4) S rooms qs es r2 hD he12 (by omega)
  obtain ⟨f2, b2⟩ := Classical.skolem.mp fun S => (show ∃ S', tower tab (n + 5) 25 [.str (bookT rooms qs es)] S = .ok (BK rooms qs es) S' from let ⟨C, e⟩ := read_book_ok n S r1 r2 hc he; ⟨_, e⟩)
  have wl := wear_len j3
  have bl := book_len (rooms := rooms) (es := es) r2 hD he12 (by omega)
  have q1 := fun t => repr_str (t := t) wl
  have q2 := fun t => (Sh_wear j3).ok (t := t) (by decide) (by decide)
  have q3 := fun t => repr_str (t := t) bl
  have q4 := fun t => (Sh_BK (rooms := rooms) r2 hD he12 (by omega)).ok (t := t) (by decide) (by decide)
  have hB : BK rooms qs es = .tup [.int rooms, .tup (qs.map DD), .tup (es.map iD)] := rfl
  rw [← hB] at e2
  have ysen : ∀ c ∈ y, c ∈ SEN := fun c hc => by
    have := y2 c hc
    have ss : ∀ c ∈ SGN, c ∈ SEN := by decide
    exact ss c this
  -- one kept row
  have row : ∀ (z : Tx), z.length ≤ 24 → (∀ c ∈ z, c ∈ SEN) → ∀ (s0 s1 s2 s3 s4 s5 s6 : Option W) (S : List SC), ∃ S', evSs (tower tab (n + 5)) [.set (.name 2) (.ite (.cmp .ne (.var 1) (.con (.str []))) (.var 1) (.con (.str ['-']))),
      .ife (.or (.cmp .ne (.bi .repr (.cons (.call 10 (.cons (.var 1) .nil) []) .nil)) (.bi .repr (.cons (.var 2) .nil))) (.cmp .ne (.bi .repr (.cons (.call 27 (.cons (.var 2) .nil) []) .nil)) (.bi .repr (.cons (.var 1) .nil)))) [.ret (.con (.bl false))] [],
      .ife (.or (.cmp .ne (.callk 10 .nil (.cons (.var 1) .nil)) (.var 2)) (.cmp .ne (.callk 27 .nil (.cons (.var 2) .nil)) (.var 1))) [.ret (.con (.bl false))] []]
      [s0, some (.d (.str z)), s2, s3, s4, s5, s6] ⟨[], S⟩ = .next [s0, some (.d (.str z)), some (.d (.str (rowT z))), s3, s4, s5, s6] ⟨[], S'⟩ := by
    intro z z1 z2 s0 s1 s2 s3 s4 s5 s6 S
    have c1 := fun S => show_row_ok (n + 4) S z z1
    obtain ⟨f3, c2⟩ := Classical.skolem.mp fun S => read_row_ok (n + 1) S z z1 z2
    have rl : (rowT z).length ≤ 5000 := by
      unfold rowT
      split
      · decide
      · omega
    have q5 := fun t => repr_str (t := t) rl
    have q6 := fun t => repr_str (x := z) (t := t) (by omega)
    refine ⟨f3 (f3 S), ?_⟩
    by_cases hz : z = []
    · subst hz
      have rr : rowT [] = ['-'] := rfl
      rw [rr] at c1 c2 q5 ⊢
      simp only [↓b_T, ↓s_T, ↓q_T, noX_ok, evEs, evIfs, evFs, isTy, putFl, List.getElem?_cons_zero, List.getElem?_cons_succ, List.getElem?_nil, List.set_cons_zero, List.set_cons_succ, List.length_cons, List.length_nil, List.cons_append, List.nil_append, List.append_nil, List.map_cons, List.map_nil, Option.map_some, Option.map_none, Option.bind_some, Bool.not_true, Bool.not_false, Bool.false_eq_true, if_true, if_false, ite_true, ite_false, decide_true, decide_false, List.isEmpty_nil, List.isEmpty_cons, reduceCtorEq, List.length_map, List.length_append, Nat.reduceLeDiff, Nat.reduceAdd, Nat.reduceLT, decide_eq_true_eq, Bool.and_true, Bool.true_and, Bool.and_false, Bool.false_and, beq_self_eq_true, bne_self_eq_false, List.getLast?_concat, List.getLast?_singleton, List.map_append, ne_eq, not_true_eq_false, not_false_eq_true, bT_ok, bT_exc, bT_stk, sT_ok, sT_exc, sT_stk, qT_next, qT_brk, qT_cnt, qT_ret, qT_exc, qT_stk, itS_l, itL_l, okO_s, okO_n, okW_s, it_lst, it_tup, it_klst, it_ref, it_loc, lo_lst, lo_klst, lo_ref, lo_loc, eo_lst, eo_ref, eo_loc, dsOf_map, dsOf_mapf, dsOf_n, dsOf_c, dsOf_app, toD_d, toD_loc, tdL_l, toDs_map, toDs_n, toDs_c, mk_val, mk_loc, mk_shr, tr_non, tr_bl, tr_int, tr_str, tr_lst, tr_tup, tr_ref, tr_loc, bop_ii, bop_ss, bI_add, bI_sub, neg_i, cop_dd, pkL_l, cop_ld, cop_dl, eq_int, ne_int, eq_str, ne_str, eq_rep, ne_rep, lt_int, le_int, gt_int, ge_int, lt_str, le_str, gt_str, ge_str, isN_n, isN_i, isN_s, isN_t, isN_l, isN_b, notN_n, notN_i, notN_s, notN_t, notN_l, in_str, nin_str, sub_str, sub_lst, sub_tup, sub_klst, sub_ref, sub_loc, nth_0, nth_1, nth_2, nth_m1, nth_map, len_str, len_lst, len_tup, len_klst, len_ref, len_loc, isi_d, str_int, int_int, int_bl, int_str, list_str, list_lst, list_tup, list_ref, list_loc, tuple_lst, tuple_tup, tuple_ref, tuple_loc, all_lst, max_ii, min_ii, repr_d, bool_bl, bool_int, bool_lst, bool_ref, wr_ref, wr_loc, wrS_l, wrL_l, bm_append, bm_extend, bm_pop, bm_popAt, bm_join, bm_split, tyS_l, tyL_l, ty_app_ref, ty_ext_ref, ty_pop_ref, ty_popAt_ref, ty_app_loc, ty_ext_loc, ty_pop_loc, ty_popAt_loc, ty_join, ty_split, ss_set, flS_i, fl_ref, fin_o, fin_x, pt_n, pt_2, pt_3, ef_r, ef_n, ef_x, fm_s, fm_i, fm_M, lk_0, lk_1, lk_2, lk_3, sr_lst, sr_tup, sr_klst, srS_l, srL_l, sr_ref, sr_loc, si_fix, si_loc, si_shr, e_var, e_con, e_bin, e_cmp, e_chain, e_and, e_or, e_not, e_neg, e_ite, e_tup, e_lst, e_ix, e_call, e_callk, e_callv, insS_i, e_meth, mkF_o, mkF_x, e_make, e_fld, e_bi, e_bm, e_fstr, s_set, s_par, wfS_i, s_setf, s_seti, s_ex, s_ret, s_retN, s_ife, s_rai, s_pas, s_brk, s_cnt, s_nil, s_cons, t_tst, q_seq, q_str, q_r1, q_r2, at_new, set_new, c1, c2, q5, q6]
    · have rr : rowT z = z := by unfold rowT; rw [if_neg hz]
      rw [rr] at c1 c2 q5 ⊢
      simp only [↓b_T, ↓s_T, ↓q_T, noX_ok, evEs, evIfs, evFs, isTy, putFl, List.getElem?_cons_zero, List.getElem?_cons_succ, List.getElem?_nil, List.set_cons_zero, List.set_cons_succ, List.length_cons, List.length_nil, List.cons_append, List.nil_append, List.append_nil, List.map_cons, List.map_nil, Option.map_some, Option.map_none, Option.bind_some, Bool.not_true, Bool.not_false, Bool.false_eq_true, if_true, if_false, ite_true, ite_false, decide_true, decide_false, List.isEmpty_nil, List.isEmpty_cons, reduceCtorEq, List.length_map, List.length_append, Nat.reduceLeDiff, Nat.reduceAdd, Nat.reduceLT, decide_eq_true_eq, Bool.and_true, Bool.true_and, Bool.and_false, Bool.false_and, beq_self_eq_true, bne_self_eq_false, List.getLast?_concat, List.getLast?_singleton, List.map_append, ne_eq, not_true_eq_false, not_false_eq_true, bT_ok, bT_exc, bT_stk, sT_ok, sT_exc, sT_stk, qT_next, qT_brk, qT_cnt, qT_ret, qT_exc, qT_stk, itS_l, itL_l, okO_s, okO_n, okW_s, it_lst, it_tup, it_klst, it_ref, it_loc, lo_lst, lo_klst, lo_ref, lo_loc, eo_lst, eo_ref, eo_loc, dsOf_map, dsOf_mapf, dsOf_n, dsOf_c, dsOf_app, toD_d, toD_loc, tdL_l, toDs_map, toDs_n, toDs_c, mk_val, mk_loc, mk_shr, tr_non, tr_bl, tr_int, tr_str, tr_lst, tr_tup, tr_ref, tr_loc, bop_ii, bop_ss, bI_add, bI_sub, neg_i, cop_dd, pkL_l, cop_ld, cop_dl, eq_int, ne_int, eq_str, ne_str, eq_rep, ne_rep, lt_int, le_int, gt_int, ge_int, lt_str, le_str, gt_str, ge_str, isN_n, isN_i, isN_s, isN_t, isN_l, isN_b, notN_n, notN_i, notN_s, notN_t, notN_l, in_str, nin_str, sub_str, sub_lst, sub_tup, sub_klst, sub_ref, sub_loc, nth_0, nth_1, nth_2, nth_m1, nth_map, len_str, len_lst, len_tup, len_klst, len_ref, len_loc, isi_d, str_int, int_int, int_bl, int_str, list_str, list_lst, list_tup, list_ref, list_loc, tuple_lst, tuple_tup, tuple_ref, tuple_loc, all_lst, max_ii, min_ii, repr_d, bool_bl, bool_int, bool_lst, bool_ref, wr_ref, wr_loc, wrS_l, wrL_l, bm_append, bm_extend, bm_pop, bm_popAt, bm_join, bm_split, tyS_l, tyL_l, ty_app_ref, ty_ext_ref, ty_pop_ref, ty_popAt_ref, ty_app_loc, ty_ext_loc, ty_pop_loc, ty_popAt_loc, ty_join, ty_split, ss_set, flS_i, fl_ref, fin_o, fin_x, pt_n, pt_2, pt_3, ef_r, ef_n, ef_x, fm_s, fm_i, fm_M, lk_0, lk_1, lk_2, lk_3, sr_lst, sr_tup, sr_klst, srS_l, srL_l, sr_ref, sr_loc, si_fix, si_loc, si_shr, e_var, e_con, e_bin, e_cmp, e_chain, e_and, e_or, e_not, e_neg, e_ite, e_tup, e_lst, e_ix, e_call, e_callk, e_callv, insS_i, e_meth, mkF_o, mkF_x, e_make, e_fld, e_bi, e_bm, e_fstr, s_set, s_par, wfS_i, s_setf, s_seti, s_ex, s_ret, s_retN, s_ife, s_rai, s_pas, s_brk, s_cnt, s_nil, s_cons, t_tst, q_seq, q_str, q_r1, q_r2, at_new, set_new, c1, c2, q5, hz]
  have c3 := fun S => show_row_ok (n + 4) S y y1
  obtain ⟨f4, c4⟩ := Classical.skolem.mp fun S => read_text_ok (n + 1) S y y1 y2
  have rl : (rowT y).length ≤ 5000 := by
    unfold rowT
    split
    · decide
    · omega
  have q7 := fun t => repr_str (x := y) (t := t) (by omega)
  obtain ⟨S6, loop⟩ : ∃ S6, ∃ s1 s2 : Option W, evS (tower tab (n + 5)) (.fr (.name 1) (.seq (.lst .val (.cons (.var 5) (.cons (.var 6) .nil)))) [.set (.name 2) (.ite (.cmp .ne (.var 1) (.con (.str []))) (.var 1) (.con (.str ['-']))),
      .ife (.or (.cmp .ne (.bi .repr (.cons (.call 10 (.cons (.var 1) .nil) []) .nil)) (.bi .repr (.cons (.var 2) .nil))) (.cmp .ne (.bi .repr (.cons (.call 27 (.cons (.var 2) .nil) []) .nil)) (.bi .repr (.cons (.var 1) .nil)))) [.ret (.con (.bl false))] [],
      .ife (.or (.cmp .ne (.callk 10 .nil (.cons (.var 1) .nil)) (.var 2)) (.cmp .ne (.callk 27 .nil (.cons (.var 2) .nil)) (.var 1))) [.ret (.con (.bl false))] []]) [some (.d (.ref p)), none, none, some (.d (.tup (js.map P))), some (.d (BK rooms qs es)), some (.d (.str x)), some (.d (.str y))] ⟨[], f2 (f2 (f1 (f1 S4)))⟩ = .next [some (.d (.ref p)), s1, s2, some (.d (.tup (js.map P))), some (.d (BK rooms qs es)), some (.d (.str x)), some (.d (.str y))] ⟨[], S6⟩ := by
    obtain ⟨Sa, ea⟩ := row x x1 x2 (some (.d (.ref p))) none none (some (.d (.tup (js.map P)))) (some (.d (BK rooms qs es))) (some (.d (.str x))) (some (.d (.str y))) (f2 (f2 (f1 (f1 S4))))
    obtain ⟨Sb, eb⟩ := row y y1 ysen (some (.d (.ref p))) none (some (.d (.str (rowT x)))) (some (.d (.tup (js.map P)))) (some (.d (BK rooms qs es))) (some (.d (.str x))) (some (.d (.str y))) Sa
    refine ⟨Sb, some (.d (.str y)), some (.d (.str (rowT y))), ?_⟩
    rw [s_fr]
    have hit : evIt (tower tab (n + 5)) (.seq (.lst .val (.cons (.var 5) (.cons (.var 6) .nil)))) [some (.d (.ref p)), none, none, some (.d (.tup (js.map P))), some (.d (BK rooms qs es)), some (.d (.str x)), some (.d (.str y))] ⟨[], f2 (f2 (f1 (f1 S4)))⟩ = .ok (.fix [.d (.str x), .d (.str y)]) ⟨[], f2 (f2 (f1 (f1 S4)))⟩ := by
      simp only [↓b_T, ↓s_T, ↓q_T, noX_ok, evEs, evIfs, evFs, isTy, putFl, List.getElem?_cons_zero, List.getElem?_cons_succ, List.getElem?_nil, List.set_cons_zero, List.set_cons_succ, List.length_cons, List.length_nil, List.cons_append, List.nil_append, List.append_nil, List.map_cons, List.map_nil, Option.map_some, Option.map_none, Option.bind_some, Bool.not_true, Bool.not_false, Bool.false_eq_true, if_true, if_false, ite_true, ite_false, decide_true, decide_false, List.isEmpty_nil, List.isEmpty_cons, reduceCtorEq, List.length_map, List.length_append, Nat.reduceLeDiff, Nat.reduceAdd, Nat.reduceLT, decide_eq_true_eq, Bool.and_true, Bool.true_and, Bool.and_false, Bool.false_and, beq_self_eq_true, bne_self_eq_false, List.getLast?_concat, List.getLast?_singleton, List.map_append, ne_eq, not_true_eq_false, not_false_eq_true, bT_ok, bT_exc, bT_stk, sT_ok, sT_exc, sT_stk, qT_next, qT_brk, qT_cnt, qT_ret, qT_exc, qT_stk, itS_l, itL_l, okO_s, okO_n, okW_s, it_lst, it_tup, it_klst, it_ref, it_loc, lo_lst, lo_klst, lo_ref, lo_loc, eo_lst, eo_ref, eo_loc, dsOf_map, dsOf_mapf, dsOf_n, dsOf_c, dsOf_app, toD_d, toD_loc, tdL_l, toDs_map, toDs_n, toDs_c, mk_val, mk_loc, mk_shr, tr_non, tr_bl, tr_int, tr_str, tr_lst, tr_tup, tr_ref, tr_loc, bop_ii, bop_ss, bI_add, bI_sub, neg_i, cop_dd, pkL_l, cop_ld, cop_dl, eq_int, ne_int, eq_str, ne_str, eq_rep, ne_rep, lt_int, le_int, gt_int, ge_int, lt_str, le_str, gt_str, ge_str, isN_n, isN_i, isN_s, isN_t, isN_l, isN_b, notN_n, notN_i, notN_s, notN_t, notN_l, in_str, nin_str, sub_str, sub_lst, sub_tup, sub_klst, sub_ref, sub_loc, nth_0, nth_1, nth_2, nth_m1, nth_map, len_str, len_lst, len_tup, len_klst, len_ref, len_loc, isi_d, str_int, int_int, int_bl, int_str, list_str, list_lst, list_tup, list_ref, list_loc, tuple_lst, tuple_tup, tuple_ref, tuple_loc, all_lst, max_ii, min_ii, repr_d, bool_bl, bool_int, bool_lst, bool_ref, wr_ref, wr_loc, wrS_l, wrL_l, bm_append, bm_extend, bm_pop, bm_popAt, bm_join, bm_split, tyS_l, tyL_l, ty_app_ref, ty_ext_ref, ty_pop_ref, ty_popAt_ref, ty_app_loc, ty_ext_loc, ty_pop_loc, ty_popAt_loc, ty_join, ty_split, ss_set, flS_i, fl_ref, fin_o, fin_x, pt_n, pt_2, pt_3, ef_r, ef_n, ef_x, fm_s, fm_i, fm_M, lk_0, lk_1, lk_2, lk_3, sr_lst, sr_tup, sr_klst, srS_l, srL_l, sr_ref, sr_loc, si_fix, si_loc, si_shr, e_var, e_con, e_bin, e_cmp, e_chain, e_and, e_or, e_not, e_neg, e_ite, e_tup, e_lst, e_ix, e_call, e_callk, e_callv, insS_i, e_meth, mkF_o, mkF_x, e_make, e_fld, e_bi, e_bm, e_fstr, s_set, s_par, wfS_i, s_setf, s_seti, s_ex, s_ret, s_retN, s_ife, s_rai, s_pas, s_brk, s_cnt, s_nil, s_cons, t_tst, q_seq, q_str, q_r1, q_r2, at_new, set_new, q_seq]
    rw [hit, R.stm_ok]
    simp only [Src.items, forL, still_fix, if_true, pt_n, R.stm_ok, List.set_cons_zero, List.set_cons_succ]
    rw [ea]
    simp only [Src.items, forL, still_fix, if_true, pt_n, R.stm_ok, List.set_cons_zero, List.set_cons_succ]
    rw [eb]
  obtain ⟨s1, s2, loop⟩ := loop
  refine ⟨f4 (f4 S6), ?_⟩
  rw [tw_run (fn := a_law_right) rfl rfl]
  simp only [SEN, SGN] at e3 e4
  by_cases hz : y = []
  · subst hz
    have rr : rowT [] = ['-'] := rfl
    rw [rr] at c3 c4
    simp only [a_law_right, ↓b_T, ↓s_T, ↓q_T, noX_ok, evEs, evIfs, evFs, isTy, putFl, List.getElem?_cons_zero, List.getElem?_cons_succ, List.getElem?_nil, List.set_cons_zero, List.set_cons_succ, List.length_cons, List.length_nil, List.cons_append, List.nil_append, List.append_nil, List.map_cons, List.map_nil, Option.map_some, Option.map_none, Option.bind_some, Bool.not_true, Bool.not_false, Bool.false_eq_true, if_true, if_false, ite_true, ite_false, decide_true, decide_false, List.isEmpty_nil, List.isEmpty_cons, reduceCtorEq, List.length_map, List.length_append, Nat.reduceLeDiff, Nat.reduceAdd, Nat.reduceLT, decide_eq_true_eq, Bool.and_true, Bool.true_and, Bool.and_false, Bool.false_and, beq_self_eq_true, bne_self_eq_false, List.getLast?_concat, List.getLast?_singleton, List.map_append, ne_eq, not_true_eq_false, not_false_eq_true, bT_ok, bT_exc, bT_stk, sT_ok, sT_exc, sT_stk, qT_next, qT_brk, qT_cnt, qT_ret, qT_exc, qT_stk, itS_l, itL_l, okO_s, okO_n, okW_s, it_lst, it_tup, it_klst, it_ref, it_loc, lo_lst, lo_klst, lo_ref, lo_loc, eo_lst, eo_ref, eo_loc, dsOf_map, dsOf_mapf, dsOf_n, dsOf_c, dsOf_app, toD_d, toD_loc, tdL_l, toDs_map, toDs_n, toDs_c, mk_val, mk_loc, mk_shr, tr_non, tr_bl, tr_int, tr_str, tr_lst, tr_tup, tr_ref, tr_loc, bop_ii, bop_ss, bI_add, bI_sub, neg_i, cop_dd, pkL_l, cop_ld, cop_dl, eq_int, ne_int, eq_str, ne_str, eq_rep, ne_rep, lt_int, le_int, gt_int, ge_int, lt_str, le_str, gt_str, ge_str, isN_n, isN_i, isN_s, isN_t, isN_l, isN_b, notN_n, notN_i, notN_s, notN_t, notN_l, in_str, nin_str, sub_str, sub_lst, sub_tup, sub_klst, sub_ref, sub_loc, nth_0, nth_1, nth_2, nth_m1, nth_map, len_str, len_lst, len_tup, len_klst, len_ref, len_loc, isi_d, str_int, int_int, int_bl, int_str, list_str, list_lst, list_tup, list_ref, list_loc, tuple_lst, tuple_tup, tuple_ref, tuple_loc, all_lst, max_ii, min_ii, repr_d, bool_bl, bool_int, bool_lst, bool_ref, wr_ref, wr_loc, wrS_l, wrL_l, bm_append, bm_extend, bm_pop, bm_popAt, bm_join, bm_split, tyS_l, tyL_l, ty_app_ref, ty_ext_ref, ty_pop_ref, ty_popAt_ref, ty_app_loc, ty_ext_loc, ty_pop_loc, ty_popAt_loc, ty_join, ty_split, ss_set, flS_i, fl_ref, fin_o, fin_x, pt_n, pt_2, pt_3, ef_r, ef_n, ef_x, fm_s, fm_i, fm_M, lk_0, lk_1, lk_2, lk_3, sr_lst, sr_tup, sr_klst, srS_l, srL_l, sr_ref, sr_loc, si_fix, si_loc, si_shr, e_var, e_con, e_bin, e_cmp, e_chain, e_and, e_or, e_not, e_neg, e_ite, e_tup, e_lst, e_ix, e_call, e_callk, e_callv, insS_i, e_meth, mkF_o, mkF_x, e_make, e_fld, e_bi, e_bm, e_fstr, s_set, s_par, wfS_i, s_setf, s_seti, s_ex, s_ret, s_retN, s_ife, s_rai, s_pas, s_brk, s_cnt, s_nil, s_cons, t_tst, q_seq, q_str, q_r1, q_r2, at_new, set_new, List.replicate, e1, e2, e3, e4, a1, a2, a3, a4, b1, b2, q1, q2, q3, q4, loop, c3, c4, q7]
  · have rr : rowT y = y := by unfold rowT; rw [if_neg hz]
    rw [rr] at c3 c4
    simp only [a_law_right, ↓b_T, ↓s_T, ↓q_T, noX_ok, evEs, evIfs, evFs, isTy, putFl, List.getElem?_cons_zero, List.getElem?_cons_succ, List.getElem?_nil, List.set_cons_zero, List.set_cons_succ, List.length_cons, List.length_nil, List.cons_append, List.nil_append, List.append_nil, List.map_cons, List.map_nil, Option.map_some, Option.map_none, Option.bind_some, Bool.not_true, Bool.not_false, Bool.false_eq_true, if_true, if_false, ite_true, ite_false, decide_true, decide_false, List.isEmpty_nil, List.isEmpty_cons, reduceCtorEq, List.length_map, List.length_append, Nat.reduceLeDiff, Nat.reduceAdd, Nat.reduceLT, decide_eq_true_eq, Bool.and_true, Bool.true_and, Bool.and_false, Bool.false_and, beq_self_eq_true, bne_self_eq_false, List.getLast?_concat, List.getLast?_singleton, List.map_append, ne_eq, not_true_eq_false, not_false_eq_true, bT_ok, bT_exc, bT_stk, sT_ok, sT_exc, sT_stk, qT_next, qT_brk, qT_cnt, qT_ret, qT_exc, qT_stk, itS_l, itL_l, okO_s, okO_n, okW_s, it_lst, it_tup, it_klst, it_ref, it_loc, lo_lst, lo_klst, lo_ref, lo_loc, eo_lst, eo_ref, eo_loc, dsOf_map, dsOf_mapf, dsOf_n, dsOf_c, dsOf_app, toD_d, toD_loc, tdL_l, toDs_map, toDs_n, toDs_c, mk_val, mk_loc, mk_shr, tr_non, tr_bl, tr_int, tr_str, tr_lst, tr_tup, tr_ref, tr_loc, bop_ii, bop_ss, bI_add, bI_sub, neg_i, cop_dd, pkL_l, cop_ld, cop_dl, eq_int, ne_int, eq_str, ne_str, eq_rep, ne_rep, lt_int, le_int, gt_int, ge_int, lt_str, le_str, gt_str, ge_str, isN_n, isN_i, isN_s, isN_t, isN_l, isN_b, notN_n, notN_i, notN_s, notN_t, notN_l, in_str, nin_str, sub_str, sub_lst, sub_tup, sub_klst, sub_ref, sub_loc, nth_0, nth_1, nth_2, nth_m1, nth_map, len_str, len_lst, len_tup, len_klst, len_ref, len_loc, isi_d, str_int, int_int, int_bl, int_str, list_str, list_lst, list_tup, list_ref, list_loc, tuple_lst, tuple_tup, tuple_ref, tuple_loc, all_lst, max_ii, min_ii, repr_d, bool_bl, bool_int, bool_lst, bool_ref, wr_ref, wr_loc, wrS_l, wrL_l, bm_append, bm_extend, bm_pop, bm_popAt, bm_join, bm_split, tyS_l, tyL_l, ty_app_ref, ty_ext_ref, ty_pop_ref, ty_popAt_ref, ty_app_loc, ty_ext_loc, ty_pop_loc, ty_popAt_loc, ty_join, ty_split, ss_set, flS_i, fl_ref, fin_o, fin_x, pt_n, pt_2, pt_3, ef_r, ef_n, ef_x, fm_s, fm_i, fm_M, lk_0, lk_1, lk_2, lk_3, sr_lst, sr_tup, sr_klst, srS_l, srL_l, sr_ref, sr_loc, si_fix, si_loc, si_shr, e_var, e_con, e_bin, e_cmp, e_chain, e_and, e_or, e_not, e_neg, e_ite, e_tup, e_lst, e_ix, e_call, e_callk, e_callv, insS_i, e_meth, mkF_o, mkF_x, e_make, e_fld, e_bi, e_bm, e_fstr, s_set, s_par, wfS_i, s_setf, s_seti, s_ex, s_ret, s_retN, s_ife, s_rai, s_pas, s_brk, s_cnt, s_nil, s_cons, t_tst, q_seq, q_str, q_r1, q_r2, at_new, set_new, List.replicate, e1, e2, e3, e4, a1, a2, a3, a4, b1, b2, q1, q2, q3, q4, loop, c3, c4, q7, hz]
end MP
end

/-! text K82AK -/
section
set_option Elab.async false
set_option linter.all false
set_option maxRecDepth 100000
set_option maxHeartbeats 1000000
namespace MP
theorem law_ok (n : Nat) (ns : List Int) (hl : ns.length ≤ 63) : ∃ S, tower tab (n + 7) 38 [.klst (ns.map D.int)] [] = .ok (.bl true) S := by
  rw [tw_run (fn := a_law) rfl rfl]
  have hit : ∃ m : Nat, m ≤ 3 ∧ evIt (tower tab (n + 6)) (.range1 (.bi .max2 (.cons (.con (.int 1)) (.cons (.bi .min2 (.cons (.con (.int 3)) (.cons (.bi .len (.cons (.var 0) .nil)) .nil))) .nil)))) [some (.d (.klst (ns.map D.int))), none] ⟨[], []⟩ = .ok (.fix (rngItems 0 m)) ⟨[], []⟩ := by
    refine ⟨max 1 (min 3 ns.length), by omega, ?_⟩
    have : (if (if (ns.length : Int) < 3 then (ns.length : Int) else 3) > 1 then (if (ns.length : Int) < 3 then (ns.length : Int) else 3) else 1) = ((max 1 (min 3 ns.length) : Nat) : Int) := by
      split <;> split <;> omega
    have e : evE (tower tab (n + 6)) (.bi .max2 (.cons (.con (.int 1)) (.cons (.bi .min2 (.cons (.con (.int 3)) (.cons (.bi .len (.cons (.var 0) .nil)) .nil))) .nil))) [some (.d (.klst (ns.map D.int))), none] ⟨[], []⟩ = .ok (.d (.int ((max 1 (min 3 ns.length) : Nat) : Int))) ⟨[], []⟩ := by
      simp only [↓b_T, ↓s_T, ↓q_T, noX_ok, evEs, evIfs, evFs, isTy, putFl, List.getElem?_cons_zero, List.getElem?_cons_succ, List.getElem?_nil, List.set_cons_zero, List.set_cons_succ, List.length_cons, List.length_nil, List.cons_append, List.nil_append, List.append_nil, List.map_cons, List.map_nil, Option.map_some, Option.map_none, Option.bind_some, Bool.not_true, Bool.not_false, Bool.false_eq_true, if_true, if_false, ite_true, ite_false, decide_true, decide_false, List.isEmpty_nil, List.isEmpty_cons, reduceCtorEq, List.length_map, List.length_append, Nat.reduceLeDiff, Nat.reduceAdd, Nat.reduceLT, decide_eq_true_eq, Bool.and_true, Bool.true_and, Bool.and_false, Bool.false_and, beq_self_eq_true, bne_self_eq_false, List.getLast?_concat, List.getLast?_singleton, List.map_append, ne_eq, not_true_eq_false, not_false_eq_true, bT_ok, bT_exc, bT_stk, sT_ok, sT_exc, sT_stk, qT_next, qT_brk, qT_cnt, qT_ret, qT_exc, qT_stk, itS_l, itL_l, okO_s, okO_n, okW_s, it_lst, it_tup, it_klst, it_ref, it_loc, lo_lst, lo_klst, lo_ref, lo_loc, eo_lst, eo_ref, eo_loc, dsOf_map, dsOf_mapf, dsOf_n, dsOf_c, dsOf_app, toD_d, toD_loc, tdL_l, toDs_map, toDs_n, toDs_c, mk_val, mk_loc, mk_shr, tr_non, tr_bl, tr_int, tr_str, tr_lst, tr_tup, tr_ref, tr_loc, bop_ii, bop_ss, bI_add, bI_sub, neg_i, cop_dd, pkL_l, cop_ld, cop_dl, eq_int, ne_int, eq_str, ne_str, eq_rep, ne_rep, lt_int, le_int, gt_int, ge_int, lt_str, le_str, gt_str, ge_str, isN_n, isN_i, isN_s, isN_t, isN_l, isN_b, notN_n, notN_i, notN_s, notN_t, notN_l, in_str, nin_str, sub_str, sub_lst, sub_tup, sub_klst, sub_ref, sub_loc, nth_0, nth_1, nth_2, nth_m1, nth_map, len_str, len_lst, len_tup, len_klst, len_ref, len_loc, isi_d, str_int, int_int, int_bl, int_str, list_str, list_lst, list_tup, list_ref, list_loc, tuple_lst, tuple_tup, tuple_ref, tuple_loc, all_lst, max_ii, min_ii, repr_d, bool_bl, bool_int, bool_lst, bool_ref, wr_ref, wr_loc, wrS_l, wrL_l, bm_append, bm_extend, bm_pop, bm_popAt, bm_join, bm_split, tyS_l, tyL_l, ty_app_ref, ty_ext_ref, ty_pop_ref, ty_popAt_ref, ty_app_loc, ty_ext_loc, ty_pop_loc, ty_popAt_loc, ty_join, ty_split, ss_set, flS_i, fl_ref, fin_o, fin_x, pt_n, pt_2, pt_3, ef_r, ef_n, ef_x, fm_s, fm_i, fm_M, lk_0, lk_1, lk_2, lk_3, sr_lst, sr_tup, sr_klst, srS_l, srL_l, sr_ref, sr_loc, si_fix, si_loc, si_shr, e_var, e_con, e_bin, e_cmp, e_chain, e_and, e_or, e_not, e_neg, e_ite, e_tup, e_lst, e_ix, e_call, e_callk, e_callv, insS_i, e_meth, mkF_o, mkF_x, e_make, e_fld, e_bi, e_bm, e_fstr, s_set, s_par, wfS_i, s_setf, s_seti, s_ex, s_ret, s_retN, s_ife, s_rai, s_pas, s_brk, s_cnt, s_nil, s_cons, t_tst, q_seq, q_str, q_r1, q_r2, at_new, set_new, this]
    rw [q_r1, e, R.bind_ok]
    obtain ⟨m, hm⟩ : ∃ m : Nat, m = max 1 (min 3 ns.length) := ⟨_, rfl⟩
    rw [← hm]
    have hm3 : (m : Int) ≤ 3 := by omega
    have h1 : (m : Int) < 1000000000 := Int.lt_of_le_of_lt hm3 (by decide)
    have h2 : (-1000000000 : Int) < (m : Int) := Int.lt_of_lt_of_le (by decide) (Int.natCast_nonneg m)
    simp only [h1, h2, and_self, if_true, Int.toNat_natCast]
  obtain ⟨m, hm, hit⟩ := hit
  obtain ⟨σ', t', loop, σ1, S', h1, h2⟩ := S_for (Φ := tower tab (n + 6)) (p := .name 1) (b := [.ife (.not (.call 37 (.cons (.call 29 (.cons (.var 0) (.cons (.var 1) .nil)) []) .nil) [])) [.ret (.con (.bl false))] []]) (fun _ σ t => ∃ s1 S, σ = [some (.d (.klst (ns.map D.int))), s1] ∧ t = ⟨[], S⟩) hit ⟨none, [], rfl, rfl⟩ (fun _ _ _ _ => rfl) (by
    rintro i w σ t hw ⟨s1, S, rfl, rfl⟩
    obtain ⟨hi, rfl⟩ := rng_at hw
    obtain ⟨S1, e1, h1⟩ := purse_ok (n + 5) S ns i (by omega)
    obtain ⟨S2, e2⟩ := right_ok n h1
    refine ⟨_, _, _, pt_n _ _ _ _, ?_, some (.d (.int (i : Nat))), S2, rfl, rfl⟩
    simp only [Int.zero_add]
    simp only [↓b_T, ↓s_T, ↓q_T, noX_ok, evEs, evIfs, evFs, isTy, putFl, List.getElem?_cons_zero, List.getElem?_cons_succ, List.getElem?_nil, List.set_cons_zero, List.set_cons_succ, List.length_cons, List.length_nil, List.cons_append, List.nil_append, List.append_nil, List.map_cons, List.map_nil, Option.map_some, Option.map_none, Option.bind_some, Bool.not_true, Bool.not_false, Bool.false_eq_true, if_true, if_false, ite_true, ite_false, decide_true, decide_false, List.isEmpty_nil, List.isEmpty_cons, reduceCtorEq, List.length_map, List.length_append, Nat.reduceLeDiff, Nat.reduceAdd, Nat.reduceLT, decide_eq_true_eq, Bool.and_true, Bool.true_and, Bool.and_false, Bool.false_and, beq_self_eq_true, bne_self_eq_false, List.getLast?_concat, List.getLast?_singleton, List.map_append, ne_eq, not_true_eq_false, not_false_eq_true, bT_ok, bT_exc, bT_stk, sT_ok, sT_exc, sT_stk, qT_next, qT_brk, qT_cnt, qT_ret, qT_exc, qT_stk, itS_l, itL_l, okO_s, okO_n, okW_s, it_lst, it_tup, it_klst, it_ref, it_loc, lo_lst, lo_klst, lo_ref, lo_loc, eo_lst, eo_ref, eo_loc, dsOf_map, dsOf_mapf, dsOf_n, dsOf_c, dsOf_app, toD_d, toD_loc, tdL_l, toDs_map, toDs_n, toDs_c, mk_val, mk_loc, mk_shr, tr_non, tr_bl, tr_int, tr_str, tr_lst, tr_tup, tr_ref, tr_loc, bop_ii, bop_ss, bI_add, bI_sub, neg_i, cop_dd, pkL_l, cop_ld, cop_dl, eq_int, ne_int, eq_str, ne_str, eq_rep, ne_rep, lt_int, le_int, gt_int, ge_int, lt_str, le_str, gt_str, ge_str, isN_n, isN_i, isN_s, isN_t, isN_l, isN_b, notN_n, notN_i, notN_s, notN_t, notN_l, in_str, nin_str, sub_str, sub_lst, sub_tup, sub_klst, sub_ref, sub_loc, nth_0, nth_1, nth_2, nth_m1, nth_map, len_str, len_lst, len_tup, len_klst, len_ref, len_loc, isi_d, str_int, int_int, int_bl, int_str, list_str, list_lst, list_tup, list_ref, list_loc, tuple_lst, tuple_tup, tuple_ref, tuple_loc, all_lst, max_ii, min_ii, repr_d, bool_bl, bool_int, bool_lst, bool_ref, wr_ref, wr_loc, wrS_l, wrL_l, bm_append, bm_extend, bm_pop, bm_popAt, bm_join, bm_split, tyS_l, tyL_l, ty_app_ref, ty_ext_ref, ty_pop_ref, ty_popAt_ref, ty_app_loc, ty_ext_loc, ty_pop_loc, ty_popAt_loc, ty_join, ty_split, ss_set, flS_i, fl_ref, fin_o, fin_x, pt_n, pt_2, pt_3, ef_r, ef_n, ef_x, fm_s, fm_i, fm_M, lk_0, lk_1, lk_2, lk_3, sr_lst, sr_tup, sr_klst, srS_l, srL_l, sr_ref, sr_loc, si_fix, si_loc, si_shr, e_var, e_con, e_bin, e_cmp, e_chain, e_and, e_or, e_not, e_neg, e_ite, e_tup, e_lst, e_ix, e_call, e_callk, e_callv, insS_i, e_meth, mkF_o, mkF_x, e_make, e_fld, e_bi, e_bm, e_fstr, s_set, s_par, wfS_i, s_setf, s_seti, s_ex, s_ret, s_retN, s_ife, s_rai, s_pas, s_brk, s_cnt, s_nil, s_cons, t_tst, q_seq, q_str, q_r1, q_r2, at_new, set_new, e1, e2])
  subst h1 h2
  refine ⟨S', ?_⟩
  simp only [a_law, ↓b_T, ↓s_T, ↓q_T, noX_ok, evEs, evIfs, evFs, isTy, putFl, List.getElem?_cons_zero, List.getElem?_cons_succ, List.getElem?_nil, List.set_cons_zero, List.set_cons_succ, List.length_cons, List.length_nil, List.cons_append, List.nil_append, List.append_nil, List.map_cons, List.map_nil, Option.map_some, Option.map_none, Option.bind_some, Bool.not_true, Bool.not_false, Bool.false_eq_true, if_true, if_false, ite_true, ite_false, decide_true, decide_false, List.isEmpty_nil, List.isEmpty_cons, reduceCtorEq, List.length_map, List.length_append, Nat.reduceLeDiff, Nat.reduceAdd, Nat.reduceLT, decide_eq_true_eq, Bool.and_true, Bool.true_and, Bool.and_false, Bool.false_and, beq_self_eq_true, bne_self_eq_false, List.getLast?_concat, List.getLast?_singleton, List.map_append, ne_eq, not_true_eq_false, not_false_eq_true, bT_ok, bT_exc, bT_stk, sT_ok, sT_exc, sT_stk, qT_next, qT_brk, qT_cnt, qT_ret, qT_exc, qT_stk, itS_l, itL_l, okO_s, okO_n, okW_s, it_lst, it_tup, it_klst, it_ref, it_loc, lo_lst, lo_klst, lo_ref, lo_loc, eo_lst, eo_ref, eo_loc, dsOf_map, dsOf_mapf, dsOf_n, dsOf_c, dsOf_app, toD_d, toD_loc, tdL_l, toDs_map, toDs_n, toDs_c, mk_val, mk_loc, mk_shr, tr_non, tr_bl, tr_int, tr_str, tr_lst, tr_tup, tr_ref, tr_loc, bop_ii, bop_ss, bI_add, bI_sub, neg_i, cop_dd, pkL_l, cop_ld, cop_dl, eq_int, ne_int, eq_str, ne_str, eq_rep, ne_rep, lt_int, le_int, gt_int, ge_int, lt_str, le_str, gt_str, ge_str, isN_n, isN_i, isN_s, isN_t, isN_l, isN_b, notN_n, notN_i, notN_s, notN_t, notN_l, in_str, nin_str, sub_str, sub_lst, sub_tup, sub_klst, sub_ref, sub_loc, nth_0, nth_1, nth_2, nth_m1, nth_map, len_str, len_lst, len_tup, len_klst, len_ref, len_loc, isi_d, str_int, int_int, int_bl, int_str, list_str, list_lst, list_tup, list_ref, list_loc, tuple_lst, tuple_tup, tuple_ref, tuple_loc, all_lst, max_ii, min_ii, repr_d, bool_bl, bool_int, bool_lst, bool_ref, wr_ref, wr_loc, wrS_l, wrL_l, bm_append, bm_extend, bm_pop, bm_popAt, bm_join, bm_split, tyS_l, tyL_l, ty_app_ref, ty_ext_ref, ty_pop_ref, ty_popAt_ref, ty_app_loc, ty_ext_loc, ty_pop_loc, ty_popAt_loc, ty_join, ty_split, ss_set, flS_i, fl_ref, fin_o, fin_x, pt_n, pt_2, pt_3, ef_r, ef_n, ef_x, fm_s, fm_i, fm_M, lk_0, lk_1, lk_2, lk_3, sr_lst, sr_tup, sr_klst, srS_l, srL_l, sr_ref, sr_loc, si_fix, si_loc, si_shr, e_var, e_con, e_bin, e_cmp, e_chain, e_and, e_or, e_not, e_neg, e_ite, e_tup, e_lst, e_ix, e_call, e_callk, e_callv, insS_i, e_meth, mkF_o, mkF_x, e_make, e_fld, e_bi, e_bm, e_fstr, s_set, s_par, wfS_i, s_setf, s_seti, s_ex, s_ret, s_retN, s_ife, s_rai, s_pas, s_brk, s_cnt, s_nil, s_cons, t_tst, q_seq, q_str, q_r1, q_r2, at_new, set_new, List.replicate, loop]
end MP
end

set_option Elab.async false
set_option maxRecDepth 100000 in
set_option maxHeartbeats 0 in
theorem PySem.Challenge.cw_wornstones_k82_wears_rows_and_books_writ_holds : PySem.Challenge.rw_wornstones_k82_wears_rows_and_books_writ.Holds := by
  exact MP.law_holds 7 ⟨rfl, by decide, by decide⟩ fun ns hl => MP.law_ok 0 ns hl
