import PyProof.Rows.All
import Wide.All
import OpenK.AllK
import Wide.FinOn
import PySem.Str
import HandS.ForMost
import HandS.Exc
import HandS.ExcOwn
import HandS.Defaults
import HandS.Flow
import HandS.Style
import HandS.TupAny
import HandS.TupMul
import HandS.SortInts
import HandS.Deep
import HandS.Wide
import HandS.WideBits
import PyProof.P3Eq
import PyProof.P3In
import PyProof.NeData
import HandS.SetFor
import HandS.SortOrd
import HandS.Conv
import HandS.IsInst
import HandS.Zip
import KE.GoesZip
import KE.GoesEnum
import HandS.Strs
import HandS.ExcInit
import KE.KExcSuper
import KE.KSuper
import HandS.ExcValue
import HandS.ExcField
import HandS.ExcIs
import KE.KExcIs
import HandS.HeadHook4
import HandS.HeadEnd
import PyProof.InstStoreFacts
import HandS.Head2
import PySem.Challenge.RW_leftwithout_k71_whole_one_stays_away
set_option Elab.async false
set_option linter.all false
section
set_option maxRecDepth 100000
namespace Lt
open PySem

/-! values: tuples, lists, dicts as trees -/
inductive D where
  | non
  | bl (b : Bool)
  | int (i : Int)
  | str (s : Str)
  | tup (l : List D)
  | lst (l : List D)
  | dic (l : List (D × D))
  | fn (f : Nat)
  | exc (c : Nat) (l : List D)

/-- what an expression gives: a value, a new list (or dict) that nobody else has, the list of a slot -/
inductive R where
  | v (d : D)
  | f (d : D)
  | s (i : Nat)
/-- slots: nothing; a value that stays; a container that may be changed (own: made in this frame; lock: being walked) -/
inductive Sl where
  | no
  | pu (d : D)
  | mu (own lock : Bool) (d : D)
abbrev Env := List Sl
structure Ex where
  c : Nat
  l : List D
inductive Out (α : Type) where
  | ok (a : α) (e : Env)
  | ex (x : Ex) (e : Env)
  | st
def Out.bind {α β : Type} : Out α → (α → Env → Out β) → Out β
  | .ok a e, k => k a e
  | .ex x e, _ => .ex x e
  | .st, _ => .st
inductive CR where
  | rt (fresh : Bool) (d : D) (outs : List D)
  | ex (x : Ex)
  | st
abbrev Calls := Nat → List D → CR

/-! targets, expressions, statements -/
inductive T where
  | nm (i : Nat)
  | tp (t : T)
  | nil
  | cons (t u : T)
inductive Bl where
  | len | all | any | tuple | list | int | abs | min1 | min2 | max1 | max2 | sum | sorted | lenset | sortset | rlist1 | str | sets
  deriving DecidableEq
inductive Op where
  | add | sub | mul | fdiv | mod | pow | band | bor | shl | shr
  deriving DecidableEq
inductive Cm where
  | eq | ne | lt | le | gt | ge | isin | notin | isn | notn
  deriving DecidableEq
inductive It where
  | pl | en | zp | zp3 | rg1 | rg2 | rg3 | items | vals | keys
  deriving DecidableEq
inductive Ty where
  | int | bool | str | list | tuple | dict
  deriving DecidableEq
inductive E where
  | bad
  | var (i : Nat)
  | cst (d : D)
  | tup (es : E)
  | lst (es : E)
  | nil
  | cons (e es : E)
  | call (f : Nat) (io : List Bool) (es : E)
  | calv (ok : List Nat) (n : Nat) (e es : E)
  | callk (f : Nat) (ps : List Nat) (es : E)
  | blt (b : Bl) (es : E)
  | isi (e : E) (ts : List Ty)
  | bin (o : Op) (a b : E)
  | neg (a : E)
  | cmp (o : Cm) (a b : E)
  | chain (a : E) (o : Cm) (b : E) (p : Cm) (c : E)
  | and (a b : E)
  | or (a b : E)
  | not (a : E)
  | ite (c a b : E)
  | ix (a b : E)
  | sl (a lo hi : E)
  | nop
  | comp (elt : E) (t : T) (w : List Nat) (k : It) (it : E) (cond : E)
  | cnt (a b : E)
  | idx (a b : E)
  | app (i : Nat) (a : E)
  | ext (i : Nat) (a : E)
  | pop (i : Nat)
  | popa (i : Nat) (a : E)
  | rem (i : Nat) (a : E)
  | fld (a : E)
  | rev (a : E)
/-- what an except clause's suite may say: constants, isinstance of the exception, its field -/
inductive He where
  | cst (d : D)
  | isv (b : Bool)
  | fld
inductive Hb where
  | ret (d : D)
  | retl (l : List He)
  | set (i : Nat) (d : D)
inductive S where
  | bad
  | nil
  | cons (s r : S)
  | set (i : Nat) (ann : Bool) (e : E)
  | par (ts : List (Nat × Bool)) (es : E)
  | tset (t : T) (e : E)
  | six (i : Nat) (a e : E)
  | aug (i : Nat) (o : Op) (e : E)
  | aix (i : Nat) (a : E) (o : Op) (e : E)
  | ex (e : E)
  | ret (e : E)
  | ite (c : E) (a b : S)
  | for (t : T) (k : It) (it : E) (b : S)
  | wh (c : E) (b : S)
  | rais (c : Nat) (es : E)
  | try (b : S) (h : S)
  | hnil
  | hcons (c : Nat) (i : Option Nat) (b : Hb) (h : S)
  | pass
  | brk
  | cont

/-! plain operations on values -/
def picks {α : Type} (l : List α) : List Nat → Option (List α)
  | [] => some []
  | i :: r => (l[i]?).bind fun x => (picks l r).map (x :: ·)
def lim : Nat := 16777216
mutual
def D.eqv : D → D → Bool
  | .non, .non => true
  | .bl a, .bl b => a == b
  | .bl a, .int j => (if a then 1 else 0) == j
  | .int i, .bl b => i == (if b then 1 else 0)
  | .int i, .int j => i == j
  | .str x, .str y => x == y
  | .lst x, .lst y => D.eqvs x y
  | .tup x, .tup y => D.eqvs x y
  | _, _ => false
def D.eqvs : List D → List D → Bool
  | [], [] => true
  | x :: xs, y :: ys => D.eqv x y && D.eqvs xs ys
  | _, _ => false
end
mutual
/-- none, bools, intz, texts, tuples, lists -/
def D.plain : D → Bool
  | .non | .bl _ | .int _ | .str _ => true
  | .tup l | .lst l => D.plains l
  | _ => false
def D.plains : List D → Bool
  | [] => true
  | x :: xs => D.plain x && D.plains xs
end
mutual
/-- no list, no dict within -/
def D.fixed : D → Bool
  | .non | .bl _ | .int _ | .str _ | .fn _ => true
  | .tup l => D.fixeds l
  | _ => false
def D.fixeds : List D → Bool
  | [] => true
  | x :: xs => D.fixed x && D.fixeds xs
end
mutual
def D.depth : D → Nat
  | .tup l | .lst l => D.depths l + 1
  | _ => 0
def D.depths : List D → Nat
  | [] => 0
  | x :: xs => max (D.depth x) (D.depths xs)
end
def eqOk (a b : D) : Bool := a.plain && b.plain && (decide (a.depth ≤ 60) || decide (b.depth ≤ 60))
def eqD (a b : D) : Option Bool := if eqOk a b then some (a.eqv b) else none
def items : D → Option (List D)
  | .tup l => some l
  | .lst l => some l
  | _ => none
def truth : D → Option Bool
  | .non => some false
  | .bl b => some b
  | .int i => some (i != 0)
  | .str s => if s.length ≤ lim then some (decide (0 < s.length)) else none
  | .tup l => some (!l.isEmpty)
  | .lst l => some (!l.isEmpty)
  | .dic l => some (!l.isEmpty)
  | _ => none
def allIn (x : D) : List D → Option Bool
  | [] => some true
  | y :: r => if eqOk y x then allIn x r else none
def inD (x c : D) : Option Bool := match items c with
  | some l => if x.plain && l.all (fun y => eqOk y x) then some (l.any fun y => y.eqv x) else none
  | none => none
def intz : List D → Option (List Int)
  | [] => some []
  | .int i :: r => (intz r).map (i :: ·)
  | _ => none
def bools : List D → Option (List Bool)
  | [] => some []
  | .bl b :: r => (bools r).map (b :: ·)
  | _ => none
def small64 (i : Int) : Bool := decide (-18446744073709551616 < i) && decide (i < 18446744073709551616)
def rep {α : Type} (l : List α) (k : Int) : List α := (List.replicate k.toNat l).flatten
def binD : Op → D → D → Option R
  | .add, .int i, .int j => some (.v (.int (i + j)))
  | .add, .str x, .str y => if x.length + y.length ≤ lim then some (.v (.str (x ++ y))) else none
  | .add, .tup x, .tup y => if x.length + y.length ≤ lim then some (.v (.tup (x ++ y))) else none
  | .add, .lst x, .lst y => if x.length + y.length ≤ lim then some (.f (.lst (x ++ y))) else none
  | .sub, .int i, .int j => some (.v (.int (i - j)))
  | .mul, .int i, .int j => if small64 i || small64 j then some (.v (.int (i * j))) else none
  | .mul, .tup x, .int k => if x.length ≤ 1000 ∧ 1 ≤ k ∧ k ≤ 1000 then some (.v (.tup (rep x k))) else none
  | .mul, .lst x, .int k => if x.length * k.toNat ≤ lim ∧ k < 16777216 ∧ -16777216 < k then some (.f (.lst (rep x k))) else none
  | .fdiv, .int i, .int j => if 0 < j ∧ j < 1073741824 then some (.v (.int (i / j))) else none
  | .mod, .int i, .int j => if 0 < j then some (.v (.int (i % j))) else none
  | .pow, .int i, .int j => if 0 ≤ j ∧ j ≤ 1000 ∧ i.natAbs < 18446744073709551616 then some (.v (.int (i ^ j.toNat))) else none
  | _, _, _ => none
def cmpD : Cm → D → D → Option Bool
  | .eq, a, b => eqD a b
  | .ne, a, b => (eqD a b).map (!·)
  | .lt, .int i, .int j => some (decide (i < j))
  | .le, .int i, .int j => some (decide (i ≤ j))
  | .gt, .int i, .int j => some (decide (j < i))
  | .ge, .int i, .int j => some (decide (j ≤ i))
  | .isin, a, b => inD a b
  | .notin, a, b => (inD a b).map (!·)
  | .isn, a, .non => match a with
    | .non => some true
    | .exc _ _ => none
    | _ => some false
  | .notn, a, .non => match a with
    | .non => some false
    | .exc _ _ => none
    | _ => some true
  | _, _, _ => none
/-- a place in a list, from the end too -/
def place (n : Nat) (i : Int) : Option Nat := if 0 ≤ i then (if i < n then some i.toNat else none) else if -(n : Int) ≤ i then some (i + n).toNat else none
def ixD : D → D → Option D
  | .tup l, .int i => (place l.length i).bind fun j => l[j]?
  | .lst l, .int i => (place l.length i).bind fun j => l[j]?
  | _, _ => none
def cutAt (n d : Nat) : Option Int → Nat
  | none => d
  | some v => if v < 0 then (v + n).toNat else min v.toNat n
def cut {α : Type} (l : List α) (lo hi : Option Int) : List α := (l.drop (cutAt l.length 0 lo)).take (cutAt l.length l.length hi - cutAt l.length 0 lo)
def partD : D → Option (Option Int)
  | .non => some none
  | .int i => some (some i)
  | _ => none
def slD (a : D) (lo hi : Option Int) : Option R := match a with
  | .tup l => some (.v (.tup (cut l lo hi)))
  | .lst l => some (.f (.lst (cut l lo hi)))
  | _ => none
def revD : D → Option R
  | .tup l => some (.v (.tup l.reverse))
  | .lst l => some (.f (.lst l.reverse))
  | _ => none
def tyD : D → Option Ty
  | .bl _ => some .bool
  | .int _ => some .int
  | .str _ => some .str
  | .lst _ => some .list
  | .tup _ => some .tuple
  | .dic _ => some .dict
  | _ => none
def isTy (d : D) (ts : List Ty) : Option Bool := match d with
  | .fn _ => none
  | .exc _ _ => none
  | .dic _ => none
  | d => some (ts.any fun t => tyD d == some t || (t == .int && tyD d == some .bool))
def leI (a b : Int) : Bool := decide (a ≤ b)
def ins (x : Int) : List Int → List Int
  | [] => [x]
  | y :: r => if x ≤ y then x :: y :: r else y :: ins x r
def isort : List Int → List Int
  | [] => []
  | x :: r => ins x (isort r)
def distinct : List Int → List Int
  | [] => []
  | x :: r => if r.contains x then distinct r else x :: distinct r
def least : Int → List Int → Int
  | m, [] => m
  | m, x :: r => least (if x < m then x else m) r
def greatest : Int → List Int → Int
  | m, [] => m
  | m, x :: r => greatest (if x > m then x else m) r
def bltD : Bl → List D → Option R
  | .len, [.tup l] => some (.v (.int l.length))
  | .len, [.lst l] => some (.v (.int l.length))
  | .len, [.dic l] => some (.v (.int l.length))
  | .all, [.lst l] => (bools l).map fun bs => .v (.bl (bs.all id))
  | .any, [.lst l] => (bools l).map fun bs => .v (.bl (bs.any id))
  | .tuple, [.lst l] => some (.v (.tup l))
  | .tuple, [.tup l] => some (.v (.tup l))
  | .list, [.lst l] => some (.f (.lst l))
  | .list, [.tup l] => some (.f (.lst l))
  | .int, [.int i] => some (.v (.int i))
  | .int, [.bl b] => some (.v (.int (if b then 1 else 0)))
  | .abs, [.int i] => some (.v (.int (if i < 0 then -i else i)))
  | .min2, [.int i, .int j] => some (.v (.int (if j < i then j else i)))
  | .max2, [.int i, .int j] => some (.v (.int (if j > i then j else i)))
  | .min1, [.lst l] => match intz l with
    | some (x :: r) => some (.v (.int (least x r)))
    | _ => none
  | .max1, [.lst l] => match intz l with
    | some (x :: r) => some (.v (.int (greatest x r)))
    | _ => none
  | .sum, [.lst l] => (intz l).map fun is => .v (.int is.sum)
  | .sorted, [d] => match items d with
    | some l => (intz l).map fun is => .f (.lst ((isort is).map .int))
    | none => none
  | .lenset, [d] => match items d with
    | some l => (intz l).bind fun is => if is.length ≤ 1000 then some (.v (.int (distinct is).length)) else none
    | none => none
  | .sortset, [d] => match items d with
    | some l => (intz l).bind fun is => if is.length ≤ 1000 then some (.f (.lst ((isort (distinct is)).map .int))) else none
    | none => none
  | .rlist1, [.int n] => if n ≤ 16777216 ∧ -16777216 ≤ n then some (.f (.lst ((List.range n.toNat).map fun (k : Nat) => .int k))) else none
  | _, _ => none
/-- the items that a loop walks, as they come -/
def pairs : Nat → List D → List D
  | _, [] => []
  | k, x :: r => .tup [.int k, x] :: pairs (k + 1) r
def zipD : List D → List D → List D
  | x :: xs, y :: ys => .tup [x, y] :: zipD xs ys
  | _, _ => []
def itD : It → List D → Option (List D)
  | .pl, [d] => items d
  | .en, [d] => (items d).map (pairs 0)
  | .zp, [a, b] => match items a, items b with
    | some x, some y => some (zipD x y)
    | _, _ => none
  | .rg1, [.int n] => if n ≤ 16777216 ∧ -16777216 ≤ n then some ((List.range n.toNat).map fun (k : Nat) => .int k) else none
  | .rg2, [.int a, .int b] => if b - a ≤ 16777216 ∧ b.natAbs ≤ 4611686018427387903 ∧ a.natAbs ≤ 4611686018427387903 then some ((List.range (b - a).toNat).map fun (k : Nat) => .int (a + k)) else none
  | _, _ => none
def countD (a b : D) : Option R := match items a with
  | some l => if b.plain && l.all (fun y => eqOk y b) then some (.v (.int (l.countP fun y => y.eqv b))) else none
  | none => none
def indexD (a b : D) : Option R := match items a with
  | some l => if b.plain && l.all (fun y => eqOk y b) then (match l.findIdx? fun y => y.eqv b with
    | some j => some (.v (.int j))
    | none => none) else none
  | none => none

/-! slots -/
def slot (e : Env) (i : Nat) : Sl := e.getD i .no
/-- the value that is read now -/
def look (e : Env) : R → Option D
  | .v d => some d
  | .f d => some d
  | .s i => match slot e i with
    | .mu _ _ d => some d
    | _ => none
/-- the value to be kept somewhere else: a slot's own list is no more changed from then on -/
def keep (e : Env) : R → Option (D × Env)
  | .v d => some (d, e)
  | .f d => some (d, e)
  | .s i => match slot e i with
    | .mu true false d => some (d, e.set i (.pu d))
    | _ => none
def keeps (e : Env) : List R → Option (List D × Env)
  | [] => some ([], e)
  | r :: rs => match keep e r with
    | some (d, e1) => (match keeps e1 rs with
      | some (ds, e2) => some (d :: ds, e2)
      | none => none)
    | none => none
def looks (e : Env) : List R → Option (List D)
  | [] => some []
  | r :: rs => match look e r, looks e rs with
    | some d, some ds => some (d :: ds)
    | _, _ => none
def partR (e : Env) (r : R) : Option (Option Int) := match look e r with
  | some d => partD d
  | none => none
def boxed : D → Bool
  | .lst _ => true
  | .dic _ => true
  | _ => false
/-- name = r -/
def putR (e : Env) (i : Nat) (ann : Bool) (r : R) : Option Env := if ann then (match r with
    | .f d => if boxed d then some (e.set i (.mu true false d)) else some (e.set i (.pu d))
    | .v d => some (e.set i (.pu d))
    | .s j => match slot e j with
      | .mu true false d => some ((e.set j .no).set i (.mu true false d))
      | _ => none)
  else (match keep e r with
    | some (d, e1) => some (e1.set i (.pu d))
    | none => none)
def lift (o : Option R) (e : Env) : Out R := match o with
  | some r => .ok r e
  | none => .st
def liftB (o : Option Bool) (e : Env) : Out R := match o with
  | some b => .ok (.v (.bl b)) e
  | none => .st
mutual
/-- what a loop's names get -/
def asg : T → D → Env → Option Env
  | .nm i, d, e => some (e.set i (.pu d))
  | .tp t, .tup l, e => asgs t l e
  | _, _, _ => none
def asgs : T → List D → Env → Option Env
  | .nil, [], e => some e
  | .cons t u, d :: l, e => match asg t d e with
    | some e1 => asgs u l e1
    | none => none
  | _, _, _ => none
end
/-- slots being walked, and which are to be set free again -/
def lockAll (e : Env) : List R → Env × List Nat
  | [] => (e, [])
  | .s i :: rs => match slot e i with
    | .mu o false d => ((lockAll (e.set i (.mu o true d)) rs).1, i :: (lockAll (e.set i (.mu o true d)) rs).2)
    | _ => lockAll e rs
  | .v _ :: rs => lockAll e rs
  | .f _ :: rs => lockAll e rs
def unlock1 (e : Env) (i : Nat) : Env := match slot e i with
  | .mu o true d => e.set i (.mu o false d)
  | _ => e
def unlock (e : Env) : List Nat → Env
  | [] => e
  | i :: is => unlock1 (unlock e is) i
def wiped (e : Env) : List Nat → Env
  | [] => e
  | i :: is => (wiped e is).set i .no
/-! a comprehension: the block's own names are forgotten ahead of each turn and behind -/
def restore (e0 e : Env) : List Nat → Env
  | [] => e
  | i :: is => restore e0 (e.set i (slot (wiped e0 is) i)) is
def noEx {α : Type} : Out α → Out α
  | .ex _ _ => .st
  | o => o
def compGo (turn : D → Env → Out (Option D)) : List D → List D → Env → Out (List D)
  | [], acc, e => .ok acc.reverse e
  | x :: xs, acc, e => (turn x e).bind fun o e1 => match o with
    | some d => compGo turn xs (d :: acc) e1
    | none => compGo turn xs acc e1

/-! calls: which arguments are changed, their slots -/
inductive Ar where
  | val (d : D)
  | bor (i : Nat) (d : D)
  | chg (i : Nat) (d : D)
  | tmp (d : D)
def arg (e : Env) (io : Bool) (r : R) : Option Ar := match io, r with
  | false, .v d => some (.val d)
  | false, .f d => some (.val d)
  | false, .s i => match slot e i with
    | .mu _ _ d => some (.bor i d)
    | _ => none
  | true, .f d => if boxed d then some (.tmp d) else none
  | true, .s i => match slot e i with
    | .mu _ false d => some (.chg i d)
    | _ => none
  | true, .v _ => none
def args (e : Env) : List Bool → List R → Option (List Ar)
  | [], [] => some []
  | b :: bs, r :: rs => match arg e b r with
    | some a => (match args e bs rs with
      | some as => some (a :: as)
      | none => none)
    | none => none
  | _, _ => none
def Ar.d : Ar → D
  | .val d => d
  | .bor _ d => d
  | .chg _ d => d
  | .tmp d => d
def chgs : List Ar → List Nat
  | [] => []
  | .chg i _ :: r => i :: chgs r
  | _ :: r => chgs r
def bors : List Ar → List Nat
  | [] => []
  | .bor i _ :: r => i :: bors r
  | _ :: r => bors r
def anyTmp : List Ar → Bool
  | [] => false
  | .tmp _ :: _ => true
  | _ :: r => anyTmp r
def flat1 : D → Bool
  | .lst l => D.fixeds l
  | d => d.fixed
def allFixed : List Ar → Bool
  | [] => true
  | .val d :: r => d.fixed && allFixed r
  | _ :: _ => false
/-- one new list is lent to be changed, all that stands beside it is fixed -/
def tmpOk : List Ar → Bool
  | [] => false
  | .val d :: r => d.fixed && tmpOk r
  | .tmp d :: r => flat1 d && allFixed r
  | _ :: _ => false
def putBack (e : Env) : List Ar → List D → Option Env
  | [], [] => some e
  | .chg i _ :: r, d :: ds => match slot e i with
    | .mu o false _ => putBack (e.set i (.mu o false d)) r ds
    | _ => none
  | .val _ :: r, ds => putBack e r ds
  | .bor _ _ :: r, ds => putBack e r ds
  | _, _ => none
def loose (e : Env) : List Ar → Env
  | [] => e
  | .chg i _ :: r => loose (e.set i .no) r
  | _ :: r => loose e r
def okBack (as : List Ar) (fresh : Bool) (d : D) (outs : List D) : Bool :=
  (bors as).isEmpty || ((if fresh then flat1 d else d.fixed) && outs.all flat1)
def nodup : List Nat → Bool
  | [] => true
  | x :: r => !r.contains x && nodup r
def apartB (as : List Ar) : Bool := nodup (chgs as) && (bors as).all fun i => !(chgs as).contains i
def callR (C : Calls) (f : Nat) (io : List Bool) (rs : List R) (e : Env) : Out R := match args e io rs with
  | some as => if anyTmp as then (if tmpOk as then (match C f (as.map Ar.d) with
      | .rt fresh d outs => if (if fresh then flat1 d else d.fixed) && decide (outs.length = 1) then .ok (if fresh then .f d else .v d) e else .st
      | .ex x => .ex x e
      | .st => .st) else .st)
    else if apartB as then (match C f (as.map Ar.d) with
      | .rt fresh d outs => if okBack as fresh d outs then (match putBack e as outs with
        | some e1 => .ok (if fresh then .f d else .v d) e1
        | none => .st) else .st
      | .ex x => .ex x (loose e as)
      | .st => .st) else .st
  | none => .st

def isBox (e : Env) (i : Nat) : Bool := match slot e i with
  | .mu _ _ (.lst _) => true
  | _ => false
def guardB (b : Bool) (o : Out R) : Out R := if b then o else .st

/-! expressions -/
mutual
def ev (C : Calls) : E → Env → Out R
  | .var i, e => match slot e i with
    | .pu d => .ok (.v d) e
    | .mu _ _ _ => .ok (.s i) e
    | .no => .st
  | .cst d, e => .ok (.v d) e
  | .tup es, e => (evl C es e).bind fun rs e1 => match keeps e1 rs with
    | some (ds, e2) => if ds.length ≤ lim then .ok (.v (.tup ds)) e2 else .st
    | none => .st
  | .lst es, e => (evl C es e).bind fun rs e1 => match keeps e1 rs with
    | some (ds, e2) => if ds.length ≤ lim then .ok (.f (.lst ds)) e2 else .st
    | none => .st
  | .call f io es, e => (evl C es e).bind fun rs e1 => callR C f io rs e1
  | .calv ok n a es, e => (ev C a e).bind fun r e1 => match r with
    | .v (.fn f) => if ok.contains f then (evl C es e1).bind fun rs e2 => callR C f (List.replicate n false) rs e2 else .st
    | _ => .st
  | .callk f ps es, e => (evl C es e).bind fun rs e1 => match picks rs ps with
    | some rs' => callR C f (List.replicate rs'.length false) rs' e1
    | none => .st
  | .blt b es, e => (evl C es e).bind fun rs e1 => match looks e1 rs with
    | some ds => lift (bltD b ds) e1
    | none => .st
  | .isi a ts, e => (ev C a e).bind fun r e1 => match look e1 r with
    | some d => liftB (isTy d ts) e1
    | none => .st
  | .bin o a b, e => (ev C a e).bind fun r e1 => (ev C b e1).bind fun q e2 => match look e2 r, look e2 q with
    | some x, some y => lift (binD o x y) e2
    | _, _ => .st
  | .neg a, e => (ev C a e).bind fun r e1 => match look e1 r with
    | some (.int i) => .ok (.v (.int (-i))) e1
    | _ => .st
  | .cmp o a b, e => (ev C a e).bind fun r e1 => (ev C b e1).bind fun q e2 => match look e2 r, look e2 q with
    | some x, some y => liftB (cmpD o x y) e2
    | _, _ => .st
  | .chain a o b p c, e => (ev C a e).bind fun r e1 => (ev C b e1).bind fun q e2 => match look e2 r, look e2 q with
    | some x, some y => (match cmpD o x y with
      | some true => (ev C c e2).bind fun t e3 => match look e3 q, look e3 t with
        | some y, some z => liftB (cmpD p y z) e3
        | _, _ => .st
      | some false => .ok (.v (.bl false)) e2
      | none => .st)
    | _, _ => .st
  | .and a b, e => (ev C a e).bind fun r e1 => match look e1 r with
    | some x => (match truth x with
      | some true => ev C b e1
      | some false => .ok r e1
      | none => .st)
    | none => .st
  | .or a b, e => (ev C a e).bind fun r e1 => match look e1 r with
    | some x => (match truth x with
      | some true => .ok r e1
      | some false => ev C b e1
      | none => .st)
    | none => .st
  | .not a, e => (ev C a e).bind fun r e1 => match look e1 r with
    | some x => liftB ((truth x).map (!·)) e1
    | none => .st
  | .ite c a b, e => (ev C c e).bind fun r e1 => match look e1 r with
    | some x => (match truth x with
      | some true => ev C a e1
      | some false => ev C b e1
      | none => .st)
    | none => .st
  | .ix a b, e => (ev C a e).bind fun r e1 => (ev C b e1).bind fun q e2 => match look e2 r, look e2 q with
    | some x, some y => lift ((ixD x y).map .v) e2
    | _, _ => .st
  | .sl a lo hi, e => (ev C a e).bind fun r e1 => (ev C lo e1).bind fun p e2 => match partR e2 p with
    | some x => (ev C hi e2).bind fun q e3 => match partR e3 q with
      | some y => (match look e3 r with
        | some d => lift (slD d x y) e3
        | none => .st)
      | none => .st
    | none => .st
  | .rev a, e => (ev C a e).bind fun r e1 => match look e1 r with
    | some x => lift (revD x) e1
    | none => .st
  | .nop, e => .ok (.v .non) e
  | .comp elt t w k it cond, e => (evl C it e).bind fun rs e1 => match looks e1 rs with
    | some ds => (match itD k ds with
      | some xs => (compGo (fun x e2 => noEx <| match asg t x e2 with
          | some e3 => (ev C cond e3).bind fun r e4 => match look e4 r with
            | some x => (match truth x with
              | some true => (ev C elt e4).bind fun r e5 => match keep e5 r with
                | some (d, e6) => .ok (some d) (wiped e6 w)
                | none => .st
              | some false => .ok none (wiped e4 w)
              | none => .st)
            | none => .st
          | none => .st) xs [] (wiped (lockAll e1 rs).1 w)).bind fun ds e7 => .ok (.f (.lst ds)) (unlock (restore (lockAll e1 rs).1 e7 w) (lockAll e1 rs).2)
      | none => .st)
    | none => .st
  | .cnt a b, e => (ev C a e).bind fun r e1 => match look e1 r with
    | some c => if (items c).isSome then (ev C b e1).bind fun q e2 => (match look e2 r, look e2 q with
      | some x, some y => lift (countD x y) e2
      | _, _ => .st) else .st
    | none => .st
  | .idx a b, e => (ev C a e).bind fun r e1 => match look e1 r with
    | some c => if (items c).isSome then (ev C b e1).bind fun q e2 => (match look e2 r, look e2 q with
      | some x, some y => lift (indexD x y) e2
      | _, _ => .st) else .st
    | none => .st
  | .app i a, e => guardB (isBox e i) <| (ev C a e).bind fun r e1 => match keep e1 r with
    | some (d, e2) => (match slot e2 i with
      | .mu o false (.lst l) => if l.length < lim then .ok (.v .non) (e2.set i (.mu o false (.lst (l ++ [d])))) else .st
      | _ => .st)
    | none => .st
  | .ext i a, e => guardB (isBox e i) <| (ev C a e).bind fun r e1 => match look e1 r with
    | some d => (match slot e1 i, d with
      | .mu o false (.lst l), .lst m => if l.length + m.length ≤ lim then .ok (.v .non) (e1.set i (.mu o false (.lst (l ++ m)))) else .st
      | _, _ => .st)
    | none => .st
  | .pop i, e => match slot e i with
    | .mu o false (.lst l) => (match l.getLast? with
      | some d => .ok (.v d) (e.set i (.mu o false (.lst l.dropLast)))
      | none => .st)
    | _ => .st
  | .popa i a, e => guardB (isBox e i) <| (ev C a e).bind fun r e1 => match look e1 r with
    | some (.int k) => (match slot e1 i with
      | .mu o false (.lst l) => (match place l.length k with
        | some j => (match l[j]? with
          | some d => .ok (.v d) (e1.set i (.mu o false (.lst (l.eraseIdx j))))
          | none => .st)
        | none => .st)
      | _ => .st)
    | _ => .st
  | .rem i a, e => guardB (isBox e i) <| (ev C a e).bind fun r e1 => match look e1 r with
    | some d => (match slot e1 i with
      | .mu o false (.lst l) => if l.all (fun y => eqOk y d) then (match l.findIdx? fun y => y.eqv d with
        | some j => .ok (.v .non) (e1.set i (.mu o false (.lst (l.eraseIdx j))))
        | none => .st) else .st
      | _ => .st)
    | none => .st
  | _, _ => .st
def evl (C : Calls) : E → Env → Out (List R)
  | .nil, e => .ok [] e
  | .cons a b, e => (ev C a e).bind fun r e1 => (evl C b e1).bind fun rs e2 => .ok (r :: rs) e2
  | _, _ => .st
end
end Lt
end
section
set_option maxRecDepth 100000
namespace Lt
open PySem

/-! statements -/
inductive Fl where
  | nx (e : Env)
  | rt (fresh : Bool) (d : D) (e : Env)
  | bk (e : Env)
  | ct (e : Env)
  | ex (x : Ex) (e : Env)
  | st
def Fl.seq : Fl → (Env → Fl) → Fl
  | .nx e, k => k e
  | o, _ => o
def Out.fl {α : Type} : Out α → (α → Env → Fl) → Fl
  | .ok a e, k => k a e
  | .ex x e, _ => .ex x e
  | .st, _ => .st
def nxO : Option Env → Fl
  | some e => .nx e
  | none => .st
def forGo (turn : D → Env → Fl) : List D → Env → Fl
  | [], e => .nx e
  | x :: xs, e => match turn x e with
    | .nx e1 => forGo turn xs e1
    | .ct e1 => forGo turn xs e1
    | .bk e1 => .nx e1
    | o => o
def Fl.unl (is : List Nat) : Fl → Fl
  | .nx e => .nx (unlock e is)
  | .bk e => .bk (unlock e is)
  | .ct e => .ct (unlock e is)
  | .rt f d e => .rt f d (unlock e is)
  | .ex x e => .ex x (unlock e is)
  | .st => .st
def whGo (test : Env → Out Bool) (turn : Env → Fl) : Nat → Env → Fl
  | 0, _ => .st
  | n + 1, e => (test e).fl fun b e1 => match b with
    | false => .nx e1
    | true => match turn e1 with
      | .nx e2 => whGo test turn n e2
      | .ct e2 => whGo test turn n e2
      | .bk e2 => .nx e2
      | o => o
def testR (o : Out R) : Out Bool := o.bind fun r e1 => match look e1 r with
  | some x => (match truth x with
    | some b => .ok b e1
    | none => .st)
  | none => .st
def putRs (e : Env) : List (Nat × Bool) → List R → Option Env
  | [], [] => some e
  | (i, a) :: ts, r :: rs => match putR e i a r with
    | some e1 => putRs e1 ts rs
    | none => none
  | _, _ => none
/-- the values of a, b = x, y are taken ahead of all stores: no name among them is a slot that is moved twice -/
def calmRs : List R → Bool
  | [] => true
  | .s _ :: _ => false
  | _ :: r => calmRs r
def augI : Op → Int → Int → Option Int
  | .add, p, q => some (p + q)
  | .sub, p, q => some (p - q)
  | _, _, _ => none
/-- the whole number at a place of a slot's list -/
def intAt (e : Env) (i : Nat) (k : Int) : Option Int := match slot e i with
  | .mu _ _ (.lst l) => (match place l.length k with
    | some j => (match l[j]? with
      | some (.int y) => some y
      | _ => none)
    | none => none)
  | _ => none
def mostTurns : Nat := 1000000
/-- an exception's fields: none, or a whole number -/
def excOk : List D → Bool
  | [] => true
  | [.int _] => true
  | _ => false
def heD (x : Ex) : He → Option D
  | .cst d => some d
  | .isv b => some (.bl b)
  | .fld => match x.l with
    | [.int n] => some (.int n)
    | _ => none
def hesD (x : Ex) : List He → Option (List D)
  | [] => some []
  | h :: r => (heD x h).bind fun d => (hesD x r).map (d :: ·)
def offN (e : Env) : Option Nat → Env
  | none => e
  | some i => e.set i .no
def okN (e : Env) : Option Nat → Bool
  | none => true
  | some i => decide (i < e.length)
/-- the except clauses -/
def eh : S → Ex → Env → Fl
  | .hnil, x, e => .ex x e
  | .hcons c i b h, x, e => if x.c == c then (if okN e i then (match b with
      | .ret d => .rt false d (offN e i)
      | .retl l => (match hesD x l with
        | some ds => if ds.length ≤ lim then .rt true (.lst ds) (offN e i) else .st
        | none => .st)
      | .set j d => .nx (offN ((offN e i).set j (.pu d)) i)) else .st) else eh h x e
  | _, _, _ => .st
def es (C : Calls) : S → Env → Fl
  | .nil, e => .nx e
  | .cons s r, e => (es C s e).seq fun e1 => es C r e1
  | .set i a x, e => (ev C x e).fl fun r e1 => nxO (putR e1 i a r)
  | .par ts xs, e => (evl C xs e).fl fun rs e1 => if calmRs rs then nxO (putRs e1 ts rs) else .st
  | .tset t x, e => (ev C x e).fl fun r e1 => match r with
    | .v d => nxO (asg t d e1)
    | _ => .st
  | .six i a x, e => (ev C x e).fl fun r e1 => match keep e1 r with
    | some (d, e2) => if isBox e2 i then (ev C a e2).fl fun q e3 => (match look e3 q with
      | some (.int k) => (match slot e3 i with
        | .mu o false (.lst l) => (match place l.length k with
          | some j => .nx (e3.set i (.mu o false (.lst (l.set j d))))
          | none => .st)
        | _ => .st)
      | _ => .st) else .st
    | none => .st
  | .aug i o x, e => match slot e i with
    | .pu (.int p) => (ev C x e).fl fun r e1 => match look e1 r with
      | some (.int q) => (match augI o p q with
        | some z => .nx (e1.set i (.pu (.int z)))
        | none => .st)
      | _ => .st
    | _ => .st
  | .aix i a o x, e => if isBox e i then (ev C a e).fl fun q e1 => (match look e1 q with
    | some (.int k) => (match intAt e1 i k with
      | some y => (ev C x e1).fl fun r e2 => match look e2 r with
        | some (.int z) => (match augI o y z with
          | some z' => (match slot e2 i with
            | .mu o2 false (.lst l2) => (match place l2.length k with
              | some j2 => .nx (e2.set i (.mu o2 false (.lst (l2.set j2 (.int z')))))
              | none => .st)
            | _ => .st)
          | none => .st)
        | _ => .st
      | none => .st)
    | _ => .st) else .st
  | .ex x, e => (ev C x e).fl fun _ e1 => .nx e1
  | .ret x, e => (ev C x e).fl fun r e1 => match r with
    | .v d => .rt false d e1
    | .f d => .rt true d e1
    | .s i => match slot e1 i with
      | .mu true false d => .rt true d (e1.set i .no)
      | _ => .st
  | .ite c a b, e => (testR (ev C c e)).fl fun t e1 => match t with
    | true => es C a e1
    | false => es C b e1
  | .for t k it b, e => (evl C it e).fl fun rs e1 => match looks e1 rs with
    | some ds => (match itD k ds with
      | some xs => (forGo (fun x e2 => match asg t x e2 with
          | some e3 => es C b e3
          | none => .st) xs (lockAll e1 rs).1).unl (lockAll e1 rs).2
      | none => .st)
    | none => .st
  | .wh c b, e => whGo (fun e1 => testR (ev C c e1)) (fun e1 => es C b e1) mostTurns e
  | .rais c xs, e => (evl C xs e).fl fun rs e1 => match keeps e1 rs with
    | some (ds, e2) => if excOk ds then .ex ⟨c, ds⟩ e2 else .st
    | none => .st
  | .try b h, e => match es C b e with
    | .ex x e1 => eh h x e1
    | o => o
  | .pass, e => .nx e
  | .brk, e => .bk e
  | .cont, e => .ct e
  | _, _ => .st

/-! defs -/
structure Df where
  n : Nat
  io : List Bool
  slots : Nat
  body : S
def start0 : List Bool → List D → Option Env
  | [], [] => some []
  | b :: bs, d :: ds => (start0 bs ds).map fun e => (if b then .mu false false d else .pu d) :: e
  | _, _ => none
def outsOf : List Bool → Env → Option (List D)
  | [], _ => some []
  | false :: bs, _ :: e => outsOf bs e
  | true :: bs, .mu false false d :: e => (outsOf bs e).map (d :: ·)
  | _, _ => none
def backs (io : List Bool) : Fl → CR
  | .nx e => match outsOf io e with
    | some ds => .rt false .non ds
    | none => .st
  | .rt fresh d e => match outsOf io e with
    | some ds => .rt fresh d ds
    | none => .st
  | .ex x _ => .ex x
  | _ => .st
def runDf (C : Calls) (df : Df) (ds : List D) : CR := match start0 df.io ds with
  | some e => backs df.io (es C df.body (e ++ List.replicate (df.slots - df.n) .no))
  | none => .st
def run (tab : List Df) : Nat → Calls
  | 0, _, _ => .st
  | n + 1, f, ds => match tab[f]? with
    | some df => runDf (run tab n) df ds
    | none => .st
end Lt
end
section
set_option maxRecDepth 100000
namespace Lt
open PySem PySem.Spec PyProof.Rows L2

/-- a tuple: the object as it was laid, with no dict of its own -/
def Tu (H : Hp) (a : Addr) (xs : List V) : Prop := ∃ o : Obj, H a = some (.frz o (.tup xs)) ∧ o.dict = none
theorem Tu.eq {H H' : Hp} {a : Addr} {xs : List V} (h : Tu H a xs) (e : H' a = H a) : Tu H' a xs := let ⟨o, q, d⟩ := h; ⟨o, e.trans q, d⟩
theorem Tu.ne {H : Hp} {a : Addr} {xs ys : List V} (h : Tu H a xs) (e : H a = some (.lst ys)) : False := by
  obtain ⟨o, q, _⟩ := h
  rw [e] at q
  cases q
theorem Tu.rd {H : Hp} {a : Addr} {xs : List V} (h : Tu H a xs) : Rd H a (.tup xs) := let ⟨o, e, _⟩ := h; .inr ⟨o, e⟩
/-! a value of the evaluator and a value of the layer. G: where the defs stand; Z: addresses that may still be changed -/
abbrev Set1 := Addr → Prop
mutual
inductive Rp (G : Nat → Option Addr) (Z : Set1) (H : Hp) : D → V → Prop
  | non : Rp G Z H .non .non
  | bl (b : Bool) : Rp G Z H (.bl b) (.bl b)
  | int (i : Int) : Rp G Z H (.int i) (.int i)
  | str (x : Str) (ok : PyData.strOk x = true) : Rp G Z H (.str x) (.str x)
  | tup {a : Addr} {ds : List D} {xs : List V} : Tu H a xs → Rps G Z H ds xs → Rp G Z H (.tup ds) (.ref a)
  | lst {a : Addr} {ds : List D} {xs : List V} : Rd H a (.lst xs) → ¬ Z a → Rps G Z H ds xs → Rp G Z H (.lst ds) (.ref a)
  | fn {f : Nat} {a : Addr} : G f = some a → Rp G Z H (.fn f) (.ref a)
inductive Rps (G : Nat → Option Addr) (Z : Set1) (H : Hp) : List D → List V → Prop
  | nil : Rps G Z H [] []
  | cons {d : D} {ds : List D} {v : V} {vs : List V} : Rp G Z H d v → Rps G Z H ds vs → Rps G Z H (d :: ds) (v :: vs)
end
/-- what stays of a heap: all but what may be changed -/
structure Keeps (Z Z' : Set1) (H H' : Hp) : Prop where
  keep : ∀ b o, H b = some o → ¬ Z b → H' b = some o ∧ ¬ Z' b
  tup : ∀ b xs, Tu H b xs → Tu H' b xs
theorem Keeps.refl (Z : Set1) (H : Hp) : Keeps Z Z H H := ⟨fun _ _ h n => ⟨h, n⟩, fun _ _ h => h⟩
theorem Keeps.trans {Z Z1 Z2 : Set1} {H H1 H2 : Hp} (p : Keeps Z Z1 H H1) (q : Keeps Z1 Z2 H1 H2) : Keeps Z Z2 H H2 :=
  ⟨fun b o h n => let ⟨h1, n1⟩ := p.keep b o h n; q.keep b o h1 n1, fun b xs h => q.tup b xs (p.tup b xs h)⟩
section
variable {G : Nat → Option Addr} {Z Z' : Set1} {H H' : Hp}
mutual
theorem Rp.step (k : Keeps Z Z' H H') : ∀ {d : D} {v : V}, Rp G Z H d v → Rp G Z' H' d v
  | _, _, .non => .non
  | _, _, .bl b => .bl b
  | _, _, .int i => .int i
  | _, _, .str x ok => .str x ok
  | _, _, .tup h r => .tup (k.tup _ _ h) (Rps.step k r)
  | _, _, .lst h n r => .lst (by
      rcases h with h | ⟨o, h⟩
      · exact .inl (k.keep _ _ h n).1
      · exact .inr ⟨o, (k.keep _ _ h n).1⟩) (by
      rcases h with h | ⟨o, h⟩
      · exact (k.keep _ _ h n).2
      · exact (k.keep _ _ h n).2) (Rps.step k r)
  | _, _, .fn e => .fn e
theorem Rps.step (k : Keeps Z Z' H H') : ∀ {ds : List D} {vs : List V}, Rps G Z H ds vs → Rps G Z' H' ds vs
  | _, _, .nil => .nil
  | _, _, .cons a r => .cons (Rp.step k a) (Rps.step k r)
end
mutual
/-- a value without lists within does not hang on Z -/
theorem Rp.fixed : ∀ {d : D} {v : V}, Rp G Z H d v → d.fixed = true → Rp G Z' H d v
  | _, _, .non, _ => .non
  | _, _, .bl b, _ => .bl b
  | _, _, .int i, _ => .int i
  | _, _, .str x ok, _ => .str x ok
  | _, _, .tup h r, f => .tup h (Rps.fixed r (by simpa [D.fixed] using f))
  | _, _, .lst _ _ _, f => by simp [D.fixed] at f
  | _, _, .fn e, _ => .fn e
theorem Rps.fixed : ∀ {ds : List D} {vs : List V}, Rps G Z H ds vs → D.fixeds ds = true → Rps G Z' H ds vs
  | _, _, .nil, _ => .nil
  | _, _, .cons a r, f => by
    rw [D.fixeds, Bool.and_eq_true] at f
    exact .cons (Rp.fixed a f.1) (Rps.fixed r f.2)
end
mutual
theorem Rp.anti (s : ∀ b, Z' b → Z b) : ∀ {d : D} {v : V}, Rp G Z H d v → Rp G Z' H d v
  | _, _, .non => .non
  | _, _, .bl b => .bl b
  | _, _, .int i => .int i
  | _, _, .str x ok => .str x ok
  | _, _, .tup h r => .tup h (Rps.anti s r)
  | _, _, .lst h n r => .lst h (fun z => n (s _ z)) (Rps.anti s r)
  | _, _, .fn e => .fn e
theorem Rps.anti (s : ∀ b, Z' b → Z b) : ∀ {ds : List D} {vs : List V}, Rps G Z H ds vs → Rps G Z' H ds vs
  | _, _, .nil => .nil
  | _, _, .cons a r => .cons (Rp.anti s a) (Rps.anti s r)
end
theorem Rps.length : ∀ {ds : List D} {vs : List V}, Rps G Z H ds vs → ds.length = vs.length
  | _, _, .nil => rfl
  | _, _, .cons _ r => congrArg (· + 1) (Rps.length r)
theorem Rps.get : ∀ {ds : List D} {vs : List V} {i : Nat} {d : D}, Rps G Z H ds vs → ds[i]? = some d → ∃ v, vs[i]? = some v ∧ Rp G Z H d v
  | _, _, i, _, .nil, h => by simp at h
  | _, _, 0, _, .cons a r, h => by simp at h; subst h; exact ⟨_, rfl, a⟩
  | _, _, i + 1, _, .cons a r, h => by
    obtain ⟨v, e, q⟩ := Rps.get (i := i) r (by simpa using h)
    exact ⟨v, by simpa using e, q⟩
theorem Rps.append : ∀ {ds es : List D} {vs ws : List V}, Rps G Z H ds vs → Rps G Z H es ws → Rps G Z H (ds ++ es) (vs ++ ws)
  | _, _, _, _, .nil, q => q
  | _, _, _, _, .cons a r, q => .cons a (Rps.append r q)
theorem Rps.take : ∀ {ds : List D} {vs : List V} (n : Nat), Rps G Z H ds vs → Rps G Z H (ds.take n) (vs.take n)
  | _, _, 0, _ => .nil
  | _, _, _ + 1, .nil => .nil
  | _, _, n + 1, .cons a r => .cons a (Rps.take n r)
theorem Rps.drop : ∀ {ds : List D} {vs : List V} (n : Nat), Rps G Z H ds vs → Rps G Z H (ds.drop n) (vs.drop n)
  | _, _, 0, r => r
  | _, _, _ + 1, .nil => .nil
  | _, _, n + 1, .cons _ r => Rps.drop n r
theorem Rps.set {d : D} {v : V} (q : Rp G Z H d v) : ∀ {ds : List D} {vs : List V} (i : Nat), Rps G Z H ds vs → Rps G Z H (ds.set i d) (vs.set i v)
  | _, _, _, .nil => .nil
  | _, _, 0, .cons _ r => .cons q r
  | _, _, i + 1, .cons a r => .cons a (Rps.set q i r)
theorem Rps.erase : ∀ {ds : List D} {vs : List V} (i : Nat), Rps G Z H ds vs → Rps G Z H (ds.eraseIdx i) (vs.eraseIdx i)
  | _, _, _, .nil => .nil
  | _, _, 0, .cons _ r => r
  | _, _, i + 1, .cons a r => .cons a (Rps.erase i r)
theorem Rps.dropLast {ds : List D} {vs : List V} (r : Rps G Z H ds vs) : Rps G Z H ds.dropLast vs.dropLast := by
  rw [List.dropLast_eq_take, List.dropLast_eq_take, r.length]
  exact r.take _
theorem Rps.rep {ds : List D} {vs : List V} (r : Rps G Z H ds vs) : ∀ k : Nat, Rps G Z H (List.replicate k ds).flatten (List.replicate k vs).flatten
  | 0 => .nil
  | k + 1 => by
    rw [List.replicate_succ, List.replicate_succ, List.flatten_cons, List.flatten_cons]
    exact r.append (Rps.rep r k)
end

/-- a container at an address: what may be changed, or may be read without more -/
def Bx (G : Nat → Option Addr) (Z : Set1) (H : Hp) (a : Addr) : D → Prop
  | .lst ds => ∃ xs, H a = some (.lst xs) ∧ Rps G Z H ds xs
  | _ => False
theorem Bx.there {G : Nat → Option Addr} {Z : Set1} {H : Hp} {a : Addr} {d : D} (b : Bx G Z H a d) : ∃ o, H a = some o ∧ ∀ ob u, o ≠ .frz ob u := by
  cases d with
  | lst ds => obtain ⟨xs, h, _⟩ := b; exact ⟨_, h, fun _ _ z => nomatch z⟩
  | _ => exact b.elim
theorem Bx.rp {G : Nat → Option Addr} {Z : Set1} {H : Hp} {a : Addr} {d : D} (b : Bx G Z H a d) (n : ¬ Z a) : Rp G Z H d (.ref a) := by
  cases d with
  | lst ds => obtain ⟨xs, h, r⟩ := b; exact .lst (.inl h) n r
  | _ => exact b.elim
theorem Bx.step {G : Nat → Option Addr} {Z Z' : Set1} {H H' : Hp} {a : Addr} {d : D} (b : Bx G Z H a d) (k : Keeps Z Z' H H') (s : ∀ o, H a = some o → H' a = some o) : Bx G Z' H' a d := by
  cases d with
  | lst ds => obtain ⟨xs, h, r⟩ := b; exact ⟨xs, s _ h, r.step k⟩
  | _ => exact b.elim
theorem Bx.anti {G : Nat → Option Addr} {Z Z' : Set1} {H : Hp} {a : Addr} {d : D} (b : Bx G Z H a d) (s : ∀ b, Z' b → Z b) : Bx G Z' H a d := by
  cases d with
  | lst ds => obtain ⟨xs, h, r⟩ := b; exact ⟨xs, h, r.anti s⟩
  | _ => exact b.elim
/-- what may be read now -/
inductive Rt (G : Nat → Option Addr) (Z : Set1) (H : Hp) (d : D) (v : V) : Prop
  | rp : Rp G Z H d v → Rt G Z H d v
  | bx {a : Addr} : v = .ref a → Bx G Z H a d → Rt G Z H d v

/-! ### the state -/
def own (e : Env) (σ : L2.St) : Set1 := fun a => ∃ i o d, slot e i = .mu o false d ∧ σ[i]? = some (some (.ref a))
def also (Z M : Set1) : Set1 := fun a => Z a ∨ M a
structure Rel (G : Nat → Option Addr) (Z : Set1) (e : Env) (σ : L2.St) (H : Hp) : Prop where
  len : e.length = σ.length
  pu : ∀ i d, slot e i = .pu d → ∃ v, σ[i]? = some (some v) ∧ Rp G (also Z (own e σ)) H d v
  mu : ∀ i o d, slot e i = .mu o false d → ∃ a, σ[i]? = some (some (.ref a)) ∧ Bx G (also Z (own e σ)) H a d ∧ ¬ Z a
  lk : ∀ i o d, slot e i = .mu o true d → ∃ a, σ[i]? = some (some (.ref a)) ∧ Bx G (also Z (own e σ)) H a d ∧ Z a
  inj : ∀ i j o d o' d' a, slot e i = .mu o false d → slot e j = .mu o' false d' → σ[i]? = some (some (.ref a)) → σ[j]? = some (some (.ref a)) → i = j
  dom : ∀ b, Z b → H b ≠ none
theorem Rel.odom {G : Nat → Option Addr} {Z : Set1} {e : Env} {σ : L2.St} {H : Hp} (r : Rel G Z e σ H) : ∀ b, own e σ b → H b ≠ none := by
  rintro b ⟨i, o, d, h, q⟩ z
  obtain ⟨a, q2, bx, _⟩ := r.mu i o d h
  rw [q] at q2
  cases q2
  obtain ⟨ob, h2, _⟩ := bx.there
  rw [z] at h2
  cases h2
theorem Rel.zdom {G : Nat → Option Addr} {Z : Set1} {e : Env} {σ : L2.St} {H : Hp} (r : Rel G Z e σ H) : ∀ b, also Z (own e σ) b → H b ≠ none := fun b h => h.elim (r.dom b) (r.odom b)
/-- what stands in a slot that is a container's -/
theorem Rel.box {G : Nat → Option Addr} {Z : Set1} {e : Env} {σ : L2.St} {H : Hp} (r : Rel G Z e σ H) {i : Nat} {o l : Bool} {d : D} (h : slot e i = .mu o l d) : ∃ a, σ[i]? = some (some (.ref a)) ∧ Bx G (also Z (own e σ)) H a d := by
  cases l with
  | false => obtain ⟨a, h1, h2, _⟩ := r.mu i o d h; exact ⟨a, h1, h2⟩
  | true => obtain ⟨a, h1, h2, _⟩ := r.lk i o d h; exact ⟨a, h1, h2⟩
/-- from one state to a later one -/
structure Stp (e : Env) (σ : L2.St) (H : Hp) (e' : Env) (σ' : L2.St) (H' : Hp) : Prop where
  keep : Keeps (own e σ) (own e' σ') H H'
  dom : ∀ b, H b ≠ none → H' b ≠ none
  io : ∀ i d, slot e' i = .mu false false d → (∃ d, slot e i = .mu false false d) ∧ σ'[i]? = σ[i]?
  lk : ∀ i o d, slot e' i = .mu o true d → slot e i = .mu o true d ∧ σ'[i]? = σ[i]?
theorem Stp.refl (e : Env) (σ : L2.St) (H : Hp) : Stp e σ H e σ H := ⟨.refl _ _, fun _ h => h, fun _ d h => ⟨⟨d, h⟩, rfl⟩, fun _ _ _ h => ⟨h, rfl⟩⟩
theorem Stp.trans {e : Env} {σ : L2.St} {H : Hp} {e1 : Env} {σ1 : L2.St} {H1 : Hp} {e2 : Env} {σ2 : L2.St} {H2 : Hp} (p : Stp e σ H e1 σ1 H1) (q : Stp e1 σ1 H1 e2 σ2 H2) : Stp e σ H e2 σ2 H2 :=
  ⟨p.keep.trans q.keep, fun b h => q.dom b (p.dom b h), fun i d h => by
    obtain ⟨⟨d1, h1⟩, s1⟩ := q.io i d h
    obtain ⟨h2, s2⟩ := p.io i d1 h1
    exact ⟨h2, s1.trans s2⟩, fun i o d h => by
    obtain ⟨h1, s1⟩ := q.lk i o d h
    obtain ⟨h2, s2⟩ := p.lk i o d h1
    exact ⟨h2, s1.trans s2⟩⟩
theorem Stp.also {e : Env} {σ : L2.St} {H : Hp} {e' : Env} {σ' : L2.St} {H' : Hp} (p : Stp e σ H e' σ' H') (Z : Set1) : Keeps (also Z (own e σ)) (also Z (own e' σ')) H H' :=
  ⟨fun b o h n => by
    obtain ⟨h1, n1⟩ := p.keep.keep b o h fun z => n (.inr z)
    exact ⟨h1, fun z => z.elim (fun z => n (.inl z)) n1⟩, p.keep.tup⟩
def plus (Z : Set1) (a : Addr) : Set1 := fun b => Z b ∨ b = a
/-- a result and its value; H the heap at the expression's start. Of a new list: nothing else leads to it -/
def RR (G : Nat → Option Addr) (Z : Set1) (e : Env) (σ : L2.St) (H H' : Hp) : R → V → Prop
  | .v d, v => Rp G (also Z (own e σ)) H' d v
  | .f d, v => ∃ a, v = .ref a ∧ H a = none ∧ ¬ Z a ∧ Bx G (also (plus Z a) (own e σ)) H' a d ∧ Rel G (plus Z a) e σ H'
  | .s i, v => σ[i]? = some (some v)
/-- .. later on -/
def RW (G : Nat → Option Addr) (Z : Set1) (e : Env) (σ : L2.St) (H H' : Hp) : R → V → Prop
  | .v d, v => Rp G (also Z (own e σ)) H' d v
  | .f d, v => ∃ a, v = .ref a ∧ H a = none ∧ Bx G (also Z (own e σ)) H' a d ∧ ¬ also Z (own e σ) a
  | .s i, v => σ[i]? = some (some v)
section
variable {G : Nat → Option Addr} {Z : Set1} {e e1 e2 : Env} {σ : L2.St} {H H1 H2 : Hp} {r : R} {v : V} {a : Addr}
theorem plus_sub (Z : Set1) (a : Addr) (M : Set1) : ∀ b, also Z M b → also (plus Z a) M b := fun b h => h.elim (fun z => .inl (.inl z)) .inr
/-- nothing of the frame leads to an address that is set apart -/
theorem Rel.apart (rel : Rel G (plus Z a) e σ H) : ¬ own e σ a := by
  rintro ⟨i, o, d, h, q⟩
  obtain ⟨b, h1, _, h3⟩ := rel.mu i o d h
  rw [q] at h1
  cases h1
  exact h3 (.inr rfl)
theorem RR.weak (q : RR G Z e σ H H1 r v) : RW G Z e σ H H1 r v := by
  cases r with
  | v d => exact q
  | f d =>
    obtain ⟨a, h1, h2, h3, h4, h5⟩ := q
    exact ⟨a, h1, h2, Bx.anti h4 (plus_sub Z a _), fun z => z.elim h3 h5.apart⟩
  | s i => exact q
theorem RR.back (q : RR G Z e2 σ H1 H2 r v) (dm : ∀ b, H b ≠ none → H1 b ≠ none) : RR G Z e2 σ H H2 r v := by
  cases r with
  | v d => exact q
  | f d =>
    obtain ⟨a, h1, h2, h3⟩ := q
    exact ⟨a, h1, Classical.byContradiction fun z => dm a z h2, h3⟩
  | s i => exact q
theorem RW.back (q : RW G Z e2 σ H1 H2 r v) (dm : ∀ b, H b ≠ none → H1 b ≠ none) : RW G Z e2 σ H H2 r v := by
  cases r with
  | v d => exact q
  | f d =>
    obtain ⟨a, h1, h2, h3⟩ := q
    exact ⟨a, h1, Classical.byContradiction fun z => dm a z h2, h3⟩
  | s i => exact q
theorem RW.later (q : RW G Z e1 σ H H1 r v) (p : Stp e1 σ H1 e2 σ H2) : RW G Z e2 σ H H2 r v := by
  cases r with
  | v d => exact Rp.step (p.also Z) q
  | f d =>
    obtain ⟨a, h1, h2, h3, h4⟩ := q
    obtain ⟨o, ho, _⟩ := Bx.there h3
    refine ⟨a, h1, h2, Bx.step h3 (p.also Z) fun o h => ?_, ((p.also Z).keep a o ho h4).2⟩
    exact ((p.also Z).keep a o h h4).1
  | s i => exact q
theorem RR.later (q : RR G Z e1 σ H H1 r v) (p : Stp e1 σ H1 e2 σ H2) : RW G Z e2 σ H H2 r v := RW.later q.weak p
/-- .. read now -/
theorem RW.look {d : D} (q : RW G Z e σ H H1 r v) (rel : Rel G Z e σ H1) (h : look e r = some d) : Rt G (also Z (own e σ)) H1 d v := by
  cases r with
  | v d' => cases h; exact .rp q
  | f d' =>
    cases h
    obtain ⟨a, h1, _, h3, h4⟩ := q
    subst h1
    exact .rp (Bx.rp h3 h4)
  | s i =>
    cases hs : slot e i with
    | mu o l d' =>
      have h' : some d' = some d := by rw [← h]; show _ = (match slot e i with | .mu _ _ d => some d | _ => none); rw [hs]
      cases h'
      obtain ⟨a, h1, h2⟩ := rel.box hs
      have : some (some v) = some (some (.ref a)) := q.symm.trans h1
      cases this
      exact .bx rfl h2
    | _ =>
      have h' : none = some d := by rw [← h]; show _ = (match slot e i with | .mu _ _ d => some d | _ => none); rw [hs]
      cases h'
theorem RR.look {d : D} (q : RR G Z e σ H H1 r v) (rel : Rel G Z e σ H1) (h : look e r = some d) : Rt G (also Z (own e σ)) H1 d v := q.weak.look rel h
/-- fewer addresses set apart (those of what is being walked stay) -/
theorem Rel.less {Z' : Set1} (rel : Rel G Z' e σ H) (s : ∀ b, Z b → Z' b) (l : ∀ i o d b, slot e i = .mu o true d → σ[i]? = some (some (.ref b)) → Z b) : Rel G Z e σ H where
  len := rel.len
  pu := fun i d h => let ⟨v, h1, h2⟩ := rel.pu i d h; ⟨v, h1, h2.anti fun b z => z.elim (fun z => .inl (s b z)) .inr⟩
  mu := fun i o d h => let ⟨a, h1, h2, h3⟩ := rel.mu i o d h; ⟨a, h1, h2.anti fun b z => z.elim (fun z => .inl (s b z)) .inr, fun z => h3 (s a z)⟩
  lk := fun i o d h => let ⟨a, h1, h2, h3⟩ := rel.lk i o d h; ⟨a, h1, h2.anti fun b z => z.elim (fun z => .inl (s b z)) .inr, l i o d a h h1⟩
  inj := rel.inj
  dom := fun b z => rel.dom b (s b z)
theorem Rel.lkZ (rel : Rel G Z e1 σ H1) (p : Stp e1 σ H1 e2 σ H2) : ∀ i o d b, slot e2 i = .mu o true d → σ[i]? = some (some (.ref b)) → Z b := fun i o d b h q => by
  obtain ⟨h1, _⟩ := p.lk i o d h
  obtain ⟨a, h2, _, h3⟩ := rel.lk i o d h1
  rw [q] at h2
  cases h2
  exact h3
end

/-! ### exceptions: the class's number, its fields -/
abbrev XRel := Ex → Value → Option Addr → Hp → Prop

/-! ### readings -/
section
variable (G : Nat → Option Addr) (Z : Set1) (XR : XRel) (W : WX)
/-- what must hold so that an outcome ends in Q -/
def Fin (e : Env) (σ : L2.St) (H : Hp) (o : Out R) (Q : VK) : Prop := match o with
  | .ok r e' => ∀ v H', Rel G Z e' σ H' → Stp e σ H e' σ H' → RR G Z e' σ H H' r v → Q v H'
  | .ex x e' => ∀ cls dx H', Rel G Z e' σ H' → Stp e σ H e' σ H' → XR x cls dx H' → W cls dx σ H'
  | .st => False
def tE (f : Env → Out R) : TE := fun σ H Q => ∃ e, Rel G Z e σ H ∧ Fin G Z XR W e σ H (f e) Q
/-- the same of a list of results: each new list is set apart for those behind it; Zf: all that is set apart in the end -/
def RRs (e : Env) (σ : L2.St) (H H' : Hp) (Zf : Set1) : Set1 → List R → List V → Prop
  | Z, [], [] => Rel G Zf e σ H' ∧ ∀ b, Z b → Zf b
  | Z, .f d :: rs, v :: vs => ∃ a, v = .ref a ∧ H a = none ∧ ¬ Z a ∧ Zf a ∧ Bx G (also Zf (own e σ)) H' a d ∧ RRs e σ H H' Zf (plus Z a) rs vs
  | Z, .v d :: rs, v :: vs => Rp G (also Zf (own e σ)) H' d v ∧ RRs e σ H H' Zf Z rs vs
  | Z, .s i :: rs, v :: vs => σ[i]? = some (some v) ∧ RRs e σ H H' Zf Z rs vs
  | _, _, _ => False
def FinL (e : Env) (σ : L2.St) (H : Hp) (o : Out (List R)) (Q : List V → Hp → Prop) : Prop := match o with
  | .ok rs e' => ∀ vs H', Rel G Z e' σ H' → Stp e σ H e' σ H' → (∃ Zf, (∀ b, Zf b → Z b ∨ H b = none) ∧ RRs G e' σ H H' Zf Z rs vs) → Q vs H'
  | .ex x e' => ∀ cls dx H', Rel G Z e' σ H' → Stp e σ H e' σ H' → XR x cls dx H' → W cls dx σ H'
  | .st => False
def tL (f : Env → Out (List R)) : TA := fun σ H Q => ∃ e, Rel G Z e σ H ∧ FinL G Z XR W e σ H (f e) Q
/-- a truth -/
def FinB (e : Env) (σ : L2.St) (H : Hp) (o : Out Bool) (Q : Bool → Hp → Prop) : Prop := match o with
  | .ok b e' => ∀ H', Rel G Z e' σ H' → Stp e σ H e' σ H' → Q b H'
  | .ex x e' => ∀ cls dx H', Rel G Z e' σ H' → Stp e σ H e' σ H' → XR x cls dx H' → W cls dx σ H'
  | .st => False
def tB2 (f : Env → Out Bool) : TT := fun σ H Q => ∃ e, Rel G Z e σ H ∧ FinB G Z XR W e σ H (f e) Q
/-- what a def hands back -/
def RT (e : Env) (σ : L2.St) (H : Hp) (e' : Env) (σ' : L2.St) (H' : Hp) : Bool → D → V → Prop
  | false, d, v => Rp G (also Z (own e' σ')) H' d v
  | true, d, v => ∃ a, v = .ref a ∧ (H a = none ∨ own e σ a) ∧ ¬ Z a ∧ Bx G (also (plus Z a) (own e' σ')) H' a d ∧ Rel G (plus Z a) e' σ' H'
/-- a statement -/
def FinS (e : Env) (σ : L2.St) (H : Hp) (o : Fl) (D : Ends) : Prop := match o with
  | .nx e' => ∀ σ' H', Rel G Z e' σ' H' → Stp e σ H e' σ' H' → D.nx σ' H'
  | .bk e' => ∀ σ' H', Rel G Z e' σ' H' → Stp e σ H e' σ' H' → D.bk σ' H'
  | .ct e' => ∀ σ' H', Rel G Z e' σ' H' → Stp e σ H e' σ' H' → D.ct σ' H'
  | .rt fr d e' => ∀ v σ' H', Rel G Z e' σ' H' → Stp e σ H e' σ' H' → RT G Z e σ H e' σ' H' fr d v → D.rt v H'
  | .ex x e' => ∀ cls dx σ' H', Rel G Z e' σ' H' → Stp e σ H e' σ' H' → XR x cls dx H' → W cls dx σ' H'
  | .st => False
def tS (f : Env → Fl) : TS := fun D σ H => ∃ e, Rel G Z e σ H ∧ FinS G Z XR W e σ H (f e) D
end
section
variable {G : Nat → Option Addr} {Z : Set1} {XR : XRel} {W : WX} {e e1 : Env} {σ σ1 : L2.St} {H H1 : Hp}
theorem Fin.imp {o : Out R} {Q Q' : VK} (h : Fin G Z XR W e σ H o Q) (i : ∀ v H', Q v H' → Q' v H') : Fin G Z XR W e σ H o Q' := by
  cases o with
  | ok r e' => exact fun v H' a b c => i v H' (h v H' a b c)
  | ex x e' => exact h
  | st => exact h
theorem FinL.imp {o : Out (List R)} {Q Q' : List V → Hp → Prop} (h : FinL G Z XR W e σ H o Q) (i : ∀ v H', Q v H' → Q' v H') : FinL G Z XR W e σ H o Q' := by
  cases o with
  | ok r e' => exact fun v H' a b c => i v H' (h v H' a b c)
  | ex x e' => exact h
  | st => exact h
theorem FinB.imp {o : Out Bool} {Q Q' : Bool → Hp → Prop} (h : FinB G Z XR W e σ H o Q) (i : ∀ v H', Q v H' → Q' v H') : FinB G Z XR W e σ H o Q' := by
  cases o with
  | ok r e' => exact fun H' a b => i _ H' (h H' a b)
  | ex x e' => exact h
  | st => exact h
/-- a later start -/
theorem Fin.from {o : Out R} {Q : VK} (h : Fin G Z XR W e σ H o Q) (p : Stp e σ H e1 σ H1) : Fin G Z XR W e1 σ H1 o Q := by
  cases o with
  | ok r e' => exact fun v H' a b c => h v H' a (p.trans b) (c.back p.dom)
  | ex x e' => exact fun cls dx H' a b c => h cls dx H' a (p.trans b) c
  | st => exact h
theorem RRs.back {e2 : Env} {H2 : Hp} {Zf : Set1} (dm : ∀ b, H b ≠ none → H1 b ≠ none) : ∀ {rs : List R} {vs : List V} {Z : Set1}, RRs G e2 σ H1 H2 Zf Z rs vs → RRs G e2 σ H H2 Zf Z rs vs
  | [], [], _, q => q
  | .f _ :: _, _ :: _, _, ⟨a, h1, h2, h3, h4, h5, h6⟩ => ⟨a, h1, Classical.byContradiction fun z => dm a z h2, h3, h4, h5, RRs.back dm h6⟩
  | .v _ :: _, _ :: _, _, q => ⟨q.1, RRs.back dm q.2⟩
  | .s _ :: _, _ :: _, _, q => ⟨q.1, RRs.back dm q.2⟩
  | [], _ :: _, _, q => q
  | .f _ :: _, [], _, q => q
  | .v _ :: _, [], _, q => q
  | .s _ :: _, [], _, q => q
theorem FinL.from {o : Out (List R)} {Q : List V → Hp → Prop} (h : FinL G Z XR W e σ H o Q) (p : Stp e σ H e1 σ H1) : FinL G Z XR W e1 σ H1 o Q := by
  cases o with
  | ok r e' => exact fun v H' a b ⟨Zf, z, c⟩ => h v H' a (p.trans b) ⟨Zf, fun x k => (z x k).imp id fun n => Classical.byContradiction fun m => p.dom x m n, c.back p.dom⟩
  | ex x e' => exact fun cls dx H' a b c => h cls dx H' a (p.trans b) c
  | st => exact h
theorem FinB.from {o : Out Bool} {Q : Bool → Hp → Prop} (h : FinB G Z XR W e σ H o Q) (p : Stp e σ H e1 σ H1) : FinB G Z XR W e1 σ H1 o Q := by
  cases o with
  | ok r e' => exact fun H' a b => h H' a (p.trans b)
  | ex x e' => exact fun cls dx H' a b c => h cls dx H' a (p.trans b) c
  | st => exact h
theorem RT.back {e2 : Env} {σ2 : L2.St} {H2 : Hp} {fr : Bool} {d : D} {v : V} (q : RT G Z e1 σ1 H1 e2 σ2 H2 fr d v) (p : Stp e σ H e1 σ1 H1) : RT G Z e σ H e2 σ2 H2 fr d v := by
  cases fr with
  | false => exact q
  | true =>
    obtain ⟨a, h1, h2, h3⟩ := q
    refine ⟨a, h1, ?_, h3⟩
    cases hu : H a with
    | none => exact .inl rfl
    | some u =>
      refine .inr (Classical.byContradiction fun n => ?_)
      obtain ⟨k1, k2⟩ := p.keep.keep a u hu n
      rcases h2 with h2 | h2
      · rw [k1] at h2; cases h2
      · exact k2 h2
theorem RR.back2 {e2 : Env} {H2 : Hp} {r : R} {v : V} (q : RR G Z e2 σ H1 H2 r v) (dm : ∀ b, H b ≠ none → H1 b ≠ none) : RR G Z e2 σ H H2 r v := RR.back q dm
theorem FinS.from {o : Fl} {D : Ends} (h : FinS G Z XR W e σ H o D) (p : Stp e σ H e1 σ1 H1) : FinS G Z XR W e1 σ1 H1 o D := by
  cases o with
  | nx e' => exact fun σ' H' a b => h σ' H' a (p.trans b)
  | bk e' => exact fun σ' H' a b => h σ' H' a (p.trans b)
  | ct e' => exact fun σ' H' a b => h σ' H' a (p.trans b)
  | rt fr d e' => exact fun v σ' H' a b c => h v σ' H' a (p.trans b) (c.back p)
  | ex x e' => exact fun cls dx σ' H' a b c => h cls dx σ' H' a (p.trans b) c
  | st => exact h
/-- two outcomes, one after the other -/
theorem Fin.bind {o : Out R} {k : R → Env → Out R} {Q : VK} (h : Fin G Z XR W e σ H (o.bind k) Q) :
    Fin G Z XR W e σ H o fun v H' => ∃ r e', o = .ok r e' ∧ Rel G Z e' σ H' ∧ Stp e σ H e' σ H' ∧ RR G Z e' σ H H' r v ∧ Fin G Z XR W e σ H (k r e') Q := by
  cases o with
  | ok r e' => exact fun v H' a b c => ⟨r, e', rfl, a, b, c, h⟩
  | ex x e' => exact h
  | st => exact h
theorem Fin.bindL {o : Out R} {k : R → Env → Out (List R)} {Q : List V → Hp → Prop} (h : FinL G Z XR W e σ H (o.bind k) Q) :
    Fin G Z XR W e σ H o fun v H' => ∃ r e', o = .ok r e' ∧ Rel G Z e' σ H' ∧ Stp e σ H e' σ H' ∧ RR G Z e' σ H H' r v ∧ FinL G Z XR W e σ H (k r e') Q := by
  cases o with
  | ok r e' => exact fun v H' a b c => ⟨r, e', rfl, a, b, c, h⟩
  | ex x e' => exact h
  | st => exact h
theorem FinL.bindR {o : Out (List R)} {k : List R → Env → Out R} {Q : VK} (h : Fin G Z XR W e σ H (o.bind k) Q) :
    FinL G Z XR W e σ H o fun v H' => ∃ r e', o = .ok r e' ∧ Rel G Z e' σ H' ∧ Stp e σ H e' σ H' ∧ (∃ Zf, (∀ b, Zf b → Z b ∨ H b = none) ∧ RRs G e' σ H H' Zf Z r v) ∧ Fin G Z XR W e σ H (k r e') Q := by
  cases o with
  | ok r e' => exact fun v H' a b c => ⟨r, e', rfl, a, b, c, h⟩
  | ex x e' => exact h
  | st => exact h
theorem FinL.bind {o : Out (List R)} {k : List R → Env → Out (List R)} {Q : List V → Hp → Prop} (h : FinL G Z XR W e σ H (o.bind k) Q) :
    FinL G Z XR W e σ H o fun v H' => ∃ r e', o = .ok r e' ∧ Rel G Z e' σ H' ∧ Stp e σ H e' σ H' ∧ (∃ Zf, (∀ b, Zf b → Z b ∨ H b = none) ∧ RRs G e' σ H H' Zf Z r v) ∧ FinL G Z XR W e σ H (k r e') Q := by
  cases o with
  | ok r e' => exact fun v H' a b c => ⟨r, e', rfl, a, b, c, h⟩
  | ex x e' => exact h
  | st => exact h
theorem Fin.bindB {o : Out R} {k : R → Env → Out Bool} {Q : Bool → Hp → Prop} (h : FinB G Z XR W e σ H (o.bind k) Q) :
    Fin G Z XR W e σ H o fun v H' => ∃ r e', o = .ok r e' ∧ Rel G Z e' σ H' ∧ Stp e σ H e' σ H' ∧ RR G Z e' σ H H' r v ∧ FinB G Z XR W e σ H (k r e') Q := by
  cases o with
  | ok r e' => exact fun v H' a b c => ⟨r, e', rfl, a, b, c, h⟩
  | ex x e' => exact h
  | st => exact h
theorem Fin.fl {o : Out R} {k : R → Env → Fl} {D : Ends} (h : FinS G Z XR W e σ H (o.fl k) D) :
    Fin G Z XR W e σ H o fun v H' => ∃ r e', o = .ok r e' ∧ Rel G Z e' σ H' ∧ Stp e σ H e' σ H' ∧ RR G Z e' σ H H' r v ∧ FinS G Z XR W e σ H (k r e') D := by
  cases o with
  | ok r e' => exact fun v H' a b c => ⟨r, e', rfl, a, b, c, h⟩
  | ex x e' => exact fun cls dx H' a b c => h cls dx σ H' a b c
  | st => exact h
theorem FinL.fl {o : Out (List R)} {k : List R → Env → Fl} {D : Ends} (h : FinS G Z XR W e σ H (o.fl k) D) :
    FinL G Z XR W e σ H o fun v H' => ∃ r e', o = .ok r e' ∧ Rel G Z e' σ H' ∧ Stp e σ H e' σ H' ∧ (∃ Zf, (∀ b, Zf b → Z b ∨ H b = none) ∧ RRs G e' σ H H' Zf Z r v) ∧ FinS G Z XR W e σ H (k r e') D := by
  cases o with
  | ok r e' => exact fun v H' a b c => ⟨r, e', rfl, a, b, c, h⟩
  | ex x e' => exact fun cls dx H' a b c => h cls dx σ H' a b c
  | st => exact h
theorem FinB.fl {o : Out Bool} {k : Bool → Env → Fl} {D : Ends} (h : FinS G Z XR W e σ H (o.fl k) D) :
    FinB G Z XR W e σ H o fun b H' => ∃ e', o = .ok b e' ∧ Rel G Z e' σ H' ∧ Stp e σ H e' σ H' ∧ FinS G Z XR W e σ H (k b e') D := by
  cases o with
  | ok r e' => exact fun H' a b => ⟨e', rfl, a, b, h⟩
  | ex x e' => exact fun cls dx H' a b c => h cls dx σ H' a b c
  | st => exact h
end
/-- another reading of the same expression -/
theorem pe_imp {X : Cx} {x : Expr} {t t' : TE} (h : PE X x t) (i : ∀ σ H Q, t' σ H Q → t σ H Q) : PE X x t' := ⟨fun pins s σ H Q I q => h.run pins s σ H Q I (i σ H Q q)⟩
theorem pt_imp {X : Cx} {x : Expr} {t t' : TT} (h : PT X x t) (i : ∀ σ H Q, t' σ H Q → t σ H Q) : PT X x t' := ⟨fun pins s σ H Q I q => h.run pins s σ H Q I (i σ H Q q)⟩
theorem pa_imp {X : Cx} {x : List Expr} {t t' : TA} (h : PA X x t) (i : ∀ σ H Q, t' σ H Q → t σ H Q) : PA X x t' := ⟨fun pos pins s σ H Q I q => h.run pos pins s σ H Q I (i σ H Q q)⟩
theorem ps_imp {X : Cx} {x : Stmt} {t t' : TS} (h : PS X x t) (i : ∀ D σ H, t' D σ H → t D σ H) : PS X x t' := ⟨fun pins s σ H D I q => h.run pins s σ H D I (i D σ H q)⟩
theorem pss_imp {X : Cx} {x : List Stmt} {t t' : TS} (h : PSs X x t) (i : ∀ D σ H, t' D σ H → t D σ H) : PSs X x t' := ⟨fun pins s σ H D I q => h.run pins s σ H D I (i D σ H q)⟩
end Lt
end
section
set_option maxRecDepth 100000
namespace Lt
open PySem PySem.Spec PyProof.Rows L2

/-! what only makes new objects -/
def New (H H' : Hp) : Prop := ∀ b o, H b = some o → H' b = some o
theorem New.refl (H : Hp) : New H H := fun _ _ h => h
theorem New.upd {H : Hp} {a : Addr} {o : HO} (h : H a = none) : New H (upd H a o) := fun b u q => by
  rw [upd_ne]
  · exact q
  · intro z
    rw [z, h] at q
    cases q
theorem New.keeps {H H' : Hp} (n : New H H') (Z : Set1) : Keeps Z Z H H' := ⟨fun b o h k => ⟨n b o h, k⟩, fun b xs ⟨o, h, d⟩ => ⟨o, n b _ h, d⟩⟩
theorem New.dom {H H' : Hp} (n : New H H') (b : Addr) (h : H b ≠ none) : H' b ≠ none := by
  cases q : H b with
  | none => exact absurd q h
  | some o => rw [n b o q]; exact fun z => nomatch z
/-- a result of such a step -/
def RN (G : Nat → Option Addr) (Z : Set1) (H H' : Hp) : R → V → Prop
  | .v d, v => Rp G Z H' d v
  | .f d, v => ∃ a, v = .ref a ∧ H a = none ∧ Bx G (fun b => Z b ∨ b = a) H' a d ∧ True
  | .s _, _ => False
section
variable {G : Nat → Option Addr} {Z : Set1} {e : Env} {σ : L2.St} {H H' : Hp} {XR : XRel} {W : WX}
theorem Rel.new (rel : Rel G Z e σ H) (n : New H H') : Rel G Z e σ H' :=
  ⟨rel.len, fun i d h => let ⟨v, h1, h2⟩ := rel.pu i d h; ⟨v, h1, h2.step (n.keeps _)⟩, fun i o d h => let ⟨a, h1, h2, h3⟩ := rel.mu i o d h; ⟨a, h1, h2.step (n.keeps _) (n a), h3⟩,
    fun i o d h => let ⟨a, h1, h2, h3⟩ := rel.lk i o d h; ⟨a, h1, h2.step (n.keeps _) (n a), h3⟩, rel.inj, fun b h => n.dom b (rel.dom b h)⟩
theorem Stp.new (n : New H H') : Stp e σ H e σ H' := ⟨n.keeps _, n.dom, fun i d h => ⟨⟨d, h⟩, rfl⟩, fun _ _ _ h => ⟨h, rfl⟩⟩
mutual
theorem Rp.away {Z : Set1} {a : Addr} (h0 : H a = none) : ∀ {d : D} {v : V}, Rp G Z H d v → Rp G (fun b => Z b ∨ b = a) H d v
  | _, _, .non => .non
  | _, _, .bl b => .bl b
  | _, _, .int i => .int i
  | _, _, .str x ok => .str x ok
  | _, _, .tup h r => .tup h (Rps.away h0 r)
  | _, _, .lst h n r => .lst h (fun z => z.elim n fun e => by
      subst e
      rcases h with h | ⟨o, h⟩
      · rw [h0] at h; cases h
      · rw [h0] at h; cases h) (Rps.away h0 r)
  | _, _, .fn e => .fn e
theorem Rps.away {Z : Set1} {a : Addr} (h0 : H a = none) : ∀ {ds : List D} {vs : List V}, Rps G Z H ds vs → Rps G (fun b => Z b ∨ b = a) H ds vs
  | _, _, .nil => .nil
  | _, _, .cons p r => .cons (Rp.away h0 p) (Rps.away h0 r)
end
theorem Bx.away {Z : Set1} {a b : Addr} {d : D} (h0 : H a = none) (x : Bx G Z H b d) : Bx G (fun b => Z b ∨ b = a) H b d := by
  cases d with
  | lst ds => obtain ⟨xs, h, r⟩ := x; exact ⟨xs, h, r.away h0⟩
  | _ => exact x.elim
theorem also_plus {Z : Set1} {a : Addr} {M : Set1} : ∀ b, also (plus Z a) M b → (also Z M b ∨ b = a) := fun b h => h.elim (fun z => z.elim (fun z => .inl (.inl z)) .inr) fun z => .inl (.inr z)
/-- a new address is set apart from all -/
theorem Rel.away {a : Addr} (rel : Rel G Z e σ H) (h0 : H a = none) (n : New H H') (h1 : H' a ≠ none) : Rel G (plus Z a) e σ H' where
  len := rel.len
  pu := fun i d h => let ⟨v, h1, h2⟩ := rel.pu i d h; ⟨v, h1, ((h2.away h0).anti also_plus).step (n.keeps _)⟩
  mu := fun i o d h => by
    obtain ⟨b, h1, h2, h3⟩ := rel.mu i o d h
    refine ⟨b, h1, ((h2.away h0).anti also_plus).step (n.keeps _) (n b), fun z => z.elim h3 fun q => ?_⟩
    obtain ⟨ob, hb, _⟩ := h2.there
    rw [q, h0] at hb
    cases hb
  lk := fun i o d h => let ⟨b, h1, h2, h3⟩ := rel.lk i o d h; ⟨b, h1, ((h2.away h0).anti also_plus).step (n.keeps _) (n b), .inl h3⟩
  inj := rel.inj
  dom := fun b z => z.elim (fun z => n.dom b (rel.dom b z)) fun q => q ▸ h1
theorem RN.rr {r : R} {v : V} (rel : Rel G Z e σ H) (n : New H H') (q : RN G (also Z (own e σ)) H H' r v) : RR G Z e σ H H' r v := by
  cases r with
  | v d => exact q
  | f d =>
    obtain ⟨a, h1, h2, h3, h4⟩ := q
    refine ⟨a, h1, h2, fun z => rel.dom a z h2, h3.anti also_plus, rel.away h2 n ?_⟩
    obtain ⟨o, ho, _⟩ := h3.there
    rw [ho]
    exact fun z => nomatch z
  | s i => exact q.elim
/-- the end of a step that only makes new objects -/
theorem Fin.lift {o : Option R} {Q : VK} (h : Fin G Z XR W e σ H (lift o e) Q) (rel : Rel G Z e σ H) : ∃ r, o = some r ∧ ∀ v H', New H H' → RN G (also Z (own e σ)) H H' r v → Q v H' := by
  cases o with
  | none => exact h.elim
  | some r => exact ⟨r, rfl, fun v H' n q => h v H' (rel.new n) (.new n) (q.rr rel n)⟩
theorem Fin.liftB {o : Option Bool} {Q : VK} (h : Fin G Z XR W e σ H (liftB o e) Q) (rel : Rel G Z e σ H) : ∃ b, o = some b ∧ Q (.bl b) H := by
  cases o with
  | none => exact h.elim
  | some b => exact ⟨b, rfl, h _ H rel (.refl _ _ _) (.bl b)⟩
end

/-! readings of primitive steps, by values -/
section
variable (G : Nat → Option Addr)
def r2 (f : D → D → Option R) : R2 := fun x y H Q => ∃ Z d d', Rt G Z H d x ∧ Rt G Z H d' y ∧ ∃ r, f d d' = some r ∧ ∀ v H', New H H' → RN G Z H H' r v → Q v H'
def r2B (f : D → D → Option Bool) : R2 := fun x y H Q => ∃ Z d d', Rt G Z H d x ∧ Rt G Z H d' y ∧ ∃ b, f d d' = some b ∧ Q (.bl b) H
inductive Rts (Z : Set1) (H : Hp) : List D → List V → Prop
  | nil : Rts Z H [] []
  | cons {d : D} {ds : List D} {v : V} {vs : List V} : Rt G Z H d v → Rts Z H ds vs → Rts Z H (d :: ds) (v :: vs)
def rN (f : List D → Option R) : List V → Hp → VK → Prop := fun vs H Q => ∃ Z ds, Rts G Z H ds vs ∧ ∃ r, f ds = some r ∧ ∀ v H', New H H' → RN G Z H H' r v → Q v H'
end
section
variable {X : Cx} {G : Nat → Option Addr} {Z : Set1} {XR : XRel} {W : WX} {C : Calls} {pos : Pos}
theorem sE_var {i : Nat} {x : Str} (h : PE X (.Name x pos) (tVar i)) : PE X (.Name x pos) (tE G Z XR W (ev C (.var i))) := by
  refine pe_imp h fun σ H Q ⟨e, rel, q⟩ => ?_
  unfold ev at q
  cases hs : slot e i with
  | no => rw [hs] at q; exact q.elim
  | pu d =>
    rw [hs] at q
    obtain ⟨v, h1, h2⟩ := rel.pu i d hs
    exact ⟨v, h1, q v H rel (.refl _ _ _) h2⟩
  | mu o l d =>
    rw [hs] at q
    obtain ⟨a, h1, _⟩ := rel.box hs
    exact ⟨_, h1, q _ H rel (.refl _ _ _) h1⟩
theorem sE_cst {x : Expr} {d : D} {v : V} (h : PE X x (tC v)) (r : ∀ Z H, Rp G Z H d v) : PE X x (tE G Z XR W (ev C (.cst d))) := by
  refine pe_imp h fun σ H Q ⟨e, rel, q⟩ => ?_
  unfold ev at q
  exact q v H rel (.refl _ _ _) (r _ _)
/-- two operands -/
theorem two {σ : L2.St} {H : Hp} {Q : VK} {fa fb : Env → Out R} {k : R → R → Env → Out R} {e : Env} (rel : Rel G Z e σ H)
    (h : Fin G Z XR W e σ H ((fa e).bind fun r e1 => (fb e1).bind fun q e2 => k r q e2) Q) {R2' : V → V → Hp → Prop}
    (fin : ∀ (x y : V) (H2 : Hp) (r q : R) (e2 : Env), Rel G Z e2 σ H2 → Stp e σ H e2 σ H2 → RW G Z e2 σ H H2 r x → RW G Z e2 σ H H2 q y → Fin G Z XR W e2 σ H2 (k r q e2) Q → R2' x y H2) :
    tE G Z XR W fa σ H fun x H1 => tE G Z XR W fb σ H1 fun y H2 => R2' x y H2 := by
  refine ⟨e, rel, (Fin.bind h).imp fun x H1 ⟨r, e1, _, rel1, st1, rr1, h1⟩ => ?_⟩
  refine ⟨e1, rel1, (Fin.bind (h1.from st1)).imp fun y H2 ⟨q, e2, _, rel2, st2, rr2, h2⟩ => ?_⟩
  exact fin x y H2 r q e2 rel2 (st1.trans st2) (rr1.later st2) (rr2.weak.back st1.dom) (h2.from st2)
/-! keeping values -/
theorem own_set {e : Env} {σ : L2.St} {i : Nat} {x : Sl} (hx : ∀ o d, x ≠ .mu o false d) : ∀ b, own (e.set i x) σ b → own e σ b := by
  rintro b ⟨j, o, d, h, q⟩
  by_cases ij : i = j
  · subst ij
    by_cases hl : i < e.length
    · have : slot (e.set i x) i = x := by simp [slot, hl]
      rw [this] at h
      exact absurd h (hx o d)
    · have : e.set i x = e := List.set_eq_of_length_le (by omega)
      rw [this] at h
      exact ⟨i, o, d, h, q⟩
  · have : slot (e.set i x) j = slot e j := by simp [slot, List.getElem?_set_ne ij]
    rw [this] at h
    exact ⟨j, o, d, h, q⟩
theorem slot_lt {e : Env} {i : Nat} {x : Sl} (h : slot e i = x) (hx : x ≠ .no) : i < e.length := by
  apply Classical.byContradiction
  intro n
  have : slot e i = .no := by
    show e.getD i .no = .no
    rw [List.getD_eq_getElem?_getD, List.getElem?_eq_none (by omega)]
    rfl
  exact hx (h.symm.trans this)
theorem slot_set_same {e : Env} {i : Nat} {x : Sl} (h : i < e.length) : slot (e.set i x) i = x := by simp [slot, h]
theorem slot_set_ne {e : Env} {i j : Nat} {x : Sl} (h : i ≠ j) : slot (e.set i x) j = slot e j := by simp [slot, List.getElem?_set_ne h]
theorem keep_ok {e e2 : Env} {σ : L2.St} {H0 H : Hp} {r : R} {v : V} {d : D} (rel : Rel G Z e σ H) (q : RW G Z e σ H0 H r v) (h : keep e r = some (d, e2)) :
    Rel G Z e2 σ H ∧ Stp e σ H e2 σ H ∧ Rp G (also Z (own e2 σ)) H d v ∧ e2.length = e.length := by
  cases r with
  | v d' =>
    cases h
    exact ⟨rel, .refl _ _ _, q, rfl⟩
  | f d' =>
    cases h
    obtain ⟨a, h1, _, h3, h4⟩ := q
    subst h1
    exact ⟨rel, .refl _ _ _, h3.rp h4, rfl⟩
  | s i =>
    have h' : (match slot e i with
      | .mu true false d => some (d, e.set i (.pu d))
      | _ => none) = some (d, e2) := h
    cases hs : slot e i with
    | mu o l dd =>
      rw [hs] at h'
      cases o with
      | false => cases h'
      | true =>
        cases l with
        | true => cases h'
        | false =>
          have h2 : (dd, e.set i (.pu dd)) = (d, e2) := Option.some.inj h'
          injection h2 with h3 h4
          subst h3 h4
          have hi : i < e.length := slot_lt hs fun z => nomatch z
          obtain ⟨a, a1, a2, a3⟩ := rel.mu i true dd hs
          have ev : some (some v) = some (some (V.ref a)) := (show σ[i]? = some (some v) from q).symm.trans a1
          cases ev
          have sub := own_set (e := e) (σ := σ) (i := i) (x := .pu dd) fun _ _ z => nomatch z
          have na : ¬ own (e.set i (.pu dd)) σ a := by
            rintro ⟨j, o, d2, hj, qj⟩
            by_cases ij : i = j
            · subst ij
              rw [slot_set_same hi] at hj
              cases hj
            · rw [slot_set_ne ij] at hj
              exact ij (rel.inj i j true dd o d2 a hs hj a1 qj)
          have sub2 : ∀ b, also Z (own (e.set i (.pu dd)) σ) b → also Z (own e σ) b := fun b z => z.elim .inl fun z => .inr (sub b z)
          have me : Rp G (also Z (own (e.set i (.pu dd)) σ)) H dd (.ref a) := (a2.anti sub2).rp fun z => z.elim a3 na
          have other : ∀ {j : Nat} {x : Sl}, slot (e.set i (.pu dd)) j = x → (∀ d, x ≠ .pu d) → slot e j = x := fun {j x} hj hx => by
            by_cases ij : i = j
            · subst ij
              rw [slot_set_same hi] at hj
              exact absurd hj.symm (hx _)
            · rw [slot_set_ne ij] at hj
              exact hj
          refine ⟨⟨by simp [rel.len], fun j d2 hj => ?_, fun j o d2 hj => ?_, fun j o d2 hj => ?_, fun j k o d2 o' d3 b hj hk => ?_, rel.dom⟩, ⟨⟨fun b o hb n => ⟨hb, fun z => n (sub b z)⟩, fun _ _ hb => hb⟩, fun _ hb => hb, fun j d2 hj => ?_, fun j o d2 hj => ?_⟩, me, by simp⟩
          · by_cases ij : i = j
            · subst ij
              rw [slot_set_same hi] at hj
              cases hj
              exact ⟨_, a1, me⟩
            · rw [slot_set_ne ij] at hj
              obtain ⟨w, w1, w2⟩ := rel.pu j d2 hj
              exact ⟨w, w1, w2.anti sub2⟩
          · obtain ⟨b, b1, b2, b3⟩ := rel.mu j o d2 (other hj fun _ z => nomatch z)
            exact ⟨b, b1, b2.anti sub2, b3⟩
          · obtain ⟨b, b1, b2, b3⟩ := rel.lk j o d2 (other hj fun _ z => nomatch z)
            exact ⟨b, b1, b2.anti sub2, b3⟩
          · exact rel.inj j k o d2 o' d3 b (other hj fun _ z => nomatch z) (other hk fun _ z => nomatch z)
          · exact ⟨⟨d2, other hj (fun _ z => nomatch z)⟩, rfl⟩
          · exact ⟨other hj (fun _ z => nomatch z), rfl⟩
    | _ => rw [hs] at h'; cases h'
def RWs (G : Nat → Option Addr) (Z : Set1) (e : Env) (σ : L2.St) (H H' : Hp) : List R → List V → Prop
  | [], [] => True
  | r :: rs, v :: vs => RW G Z e σ H H' r v ∧ RWs G Z e σ H H' rs vs
  | _, _ => False
theorem RWs.later {e1 e2 : Env} {σ : L2.St} {H H1 H2 : Hp} (p : Stp e1 σ H1 e2 σ H2) : ∀ {rs : List R} {vs : List V}, RWs G Z e1 σ H H1 rs vs → RWs G Z e2 σ H H2 rs vs
  | [], [], q => q
  | _ :: _, _ :: _, q => ⟨q.1.later p, RWs.later p q.2⟩
  | [], _ :: _, q => q
  | _ :: _, [], q => q
theorem RW.less {e : Env} {σ : L2.St} {H H1 : Hp} {Z Z' : Set1} (s : ∀ b, Z b → Z' b) {r : R} {v : V} (q : RW G Z' e σ H H1 r v) : RW G Z e σ H H1 r v := by
  have s2 : ∀ b, also Z (own e σ) b → also Z' (own e σ) b := fun b z => z.elim (fun z => .inl (s b z)) .inr
  cases r with
  | v d => exact Rp.anti s2 q
  | f d => obtain ⟨a, h1, h2, h3, h4⟩ := q; exact ⟨a, h1, h2, Bx.anti h3 s2, fun z => h4 (s2 a z)⟩
  | s i => exact q
theorem RWs.less {e : Env} {σ : L2.St} {H H1 : Hp} {Z Z' : Set1} (s : ∀ b, Z b → Z' b) : ∀ {rs : List R} {vs : List V}, RWs G Z' e σ H H1 rs vs → RWs G Z e σ H H1 rs vs
  | [], [], q => q
  | _ :: _, _ :: _, q => ⟨q.1.less s, RWs.less s q.2⟩
  | [], _ :: _, q => q
  | _ :: _, [], q => q
mutual
theorem Rp.wide {S0 S1 : Set1} (hs : ∀ b, S1 b → S0 b ∨ H b = none) : ∀ {d : D} {v : V}, Rp G S0 H d v → Rp G S1 H d v
  | _, _, .non => .non
  | _, _, .bl b => .bl b
  | _, _, .int i => .int i
  | _, _, .str x ok => .str x ok
  | _, _, .tup h r => .tup h (Rps.wide hs r)
  | _, _, .lst h n r => .lst h (fun z => (hs _ z).elim n fun e => by
      rcases h with h | ⟨o, h⟩
      · rw [e] at h; cases h
      · rw [e] at h; cases h) (Rps.wide hs r)
  | _, _, .fn e => .fn e
theorem Rps.wide {S0 S1 : Set1} (hs : ∀ b, S1 b → S0 b ∨ H b = none) : ∀ {ds : List D} {vs : List V}, Rps G S0 H ds vs → Rps G S1 H ds vs
  | _, _, .nil => .nil
  | _, _, .cons p r => .cons (Rp.wide hs p) (Rps.wide hs r)
end
theorem Bx.wide {S0 S1 : Set1} {a : Addr} {d : D} (hs : ∀ b, S1 b → S0 b ∨ H b = none) (x : Bx G S0 H a d) : Bx G S1 H a d := by
  cases d with
  | lst ds => obtain ⟨xs, h, r⟩ := x; exact ⟨xs, h, r.wide hs⟩
  | _ => exact x.elim
/-- all that is set apart behind a list of results -/
theorem RRs.sub {e : Env} {σ : L2.St} {H H1 : Hp} {Zf : Set1} : ∀ {rs : List R} {vs : List V} {Z : Set1}, RRs G e σ H H1 Zf Z rs vs → Rel G Zf e σ H1 ∧ ∀ b, Z b → Zf b
  | [], [], Z, q => q
  | .f d :: rs, v :: vs, Z, ⟨a, h1, h2, h3, h4, h5, h6⟩ => let ⟨r, s⟩ := RRs.sub h6; ⟨r, fun b z => s b (.inl z)⟩
  | .v d :: rs, v :: vs, Z, q => RRs.sub q.2
  | .s i :: rs, v :: vs, Z, q => RRs.sub q.2
  | [], _ :: _, _, q => q.elim
  | .f _ :: _, [], _, q => q.elim
  | .v _ :: _, [], _, q => q.elim
  | .s _ :: _, [], _, q => q.elim
theorem RRs.all {e : Env} {σ : L2.St} {H H1 : Hp} {Zf : Set1} : ∀ {rs : List R} {vs : List V} {Z : Set1}, RRs G e σ H H1 Zf Z rs vs → RWs G Z e σ H H1 rs vs
  | [], [], Z, q => trivial
  | .f d :: rs, v :: vs, Z, ⟨a, h1, h2, h3, h4, h5, h6⟩ => by
    obtain ⟨rel, s⟩ := RRs.sub h6
    refine ⟨⟨a, h1, h2, Bx.anti h5 fun b z => z.elim (fun z => .inl (s b (.inl z))) .inr, fun z => z.elim h3 ?_⟩, RWs.less (fun b z => .inl z) (RRs.all h6)⟩
    rintro ⟨i, o, d, k, q⟩
    obtain ⟨b, k1, _, k3⟩ := rel.mu i o d k
    rw [q] at k1
    cases k1
    exact k3 h4
  | .v d :: rs, v :: vs, Z, q => by
    obtain ⟨_, s⟩ := RRs.sub q.2
    exact ⟨Rp.anti (fun b z => z.elim (fun z => .inl (s b z)) .inr) q.1, RRs.all q.2⟩
  | .s i :: rs, v :: vs, Z, q => ⟨q.1, RRs.all q.2⟩
  | [], _ :: _, _, q => q.elim
  | .f _ :: _, [], _, q => q.elim
  | .v _ :: _, [], _, q => q.elim
  | .s _ :: _, [], _, q => q.elim
theorem RRs.weak {e : Env} {σ : L2.St} {H H1 : Hp} {rs : List R} {vs : List V} {Z : Set1} (q : ∃ Zf, (∀ b, Zf b → Z b ∨ H b = none) ∧ RRs G e σ H H1 Zf Z rs vs) : RWs G Z e σ H H1 rs vs := let ⟨_, _, w⟩ := q; RRs.all w
theorem keeps_ok {σ : L2.St} {H0 H : Hp} : ∀ {rs : List R} {vs : List V} {e e2 : Env} {ds : List D}, Rel G Z e σ H → RWs G Z e σ H0 H rs vs → keeps e rs = some (ds, e2) →
    Rel G Z e2 σ H ∧ Stp e σ H e2 σ H ∧ Rps G (also Z (own e2 σ)) H ds vs
  | [], [], e, e2, ds, rel, q, h => by
    cases h
    exact ⟨rel, .refl _ _ _, .nil⟩
  | r :: rs, v :: vs, e, e2, ds, rel, q, h => by
    unfold keeps at h
    cases h1 : keep e r with
    | none => rw [h1] at h; cases h
    | some p =>
      obtain ⟨d, e1⟩ := p
      rw [h1] at h
      obtain ⟨rel1, st1, r1, _⟩ := keep_ok rel q.1 h1
      have h' : (match keeps e1 rs with
        | some (ds, e2) => some (d :: ds, e2)
        | none => none) = some (ds, e2) := h
      cases h2 : keeps e1 rs with
      | none => rw [h2] at h'; cases h'
      | some p =>
        obtain ⟨ds1, e3⟩ := p
        rw [h2] at h'
        cases h'
        obtain ⟨rel2, st2, r2⟩ := keeps_ok rel1 (RWs.later st1 q.2) h2
        exact ⟨rel2, st1.trans st2, .cons (r1.step (st2.also Z)) r2⟩
  | [], _ :: _, _, _, _, _, q, _ => q.elim
  | _ :: _, [], _, _, _, _, q, _ => q.elim
theorem looks_ok {e : Env} {σ : L2.St} {H0 H : Hp} (rel : Rel G Z e σ H) : ∀ {rs : List R} {vs : List V} {ds : List D}, RWs G Z e σ H0 H rs vs → looks e rs = some ds → Rts G (also Z (own e σ)) H ds vs
  | [], [], ds, q, h => by
    cases h
    exact .nil
  | r :: rs, v :: vs, ds, q, h => by
    unfold looks at h
    cases h1 : look e r with
    | none => rw [h1] at h; cases h
    | some d =>
      cases h2 : looks e rs with
      | none => rw [h1, h2] at h; cases h
      | some ds1 =>
        rw [h1, h2] at h
        cases h
        exact .cons (q.1.look rel h1) (looks_ok rel q.2 h2)
  | [], _ :: _, _, q, _ => q.elim
  | _ :: _, [], _, q, _ => q.elim

/-! lists of expressions, displays -/
theorem lim_eq : lim = sizeLine := by rw [sizeLine_eq]; rfl
theorem sL_nil : PA X [] (tL G Z XR W (evl C .nil)) := by
  refine pa_imp pa_nil fun σ H Q ⟨e, rel, q⟩ => ?_
  unfold evl at q
  exact q [] H rel (.refl _ _ _) ⟨Z, fun _ h => .inl h, rel, fun _ h => h⟩
theorem sL_cons {x : Expr} {xs : List Expr} {a b : E} (ha : ∀ Z, PE X x (tE G Z XR W (ev C a))) (hb : ∀ Z, PA X xs (tL G Z XR W (evl C b))) (hs : starEach (x :: xs) X.env = (false, eval x X.env) :: starEach xs X.env) :
    PA X (x :: xs) (tL G Z XR W (evl C (.cons a b))) := by
  refine ⟨fun pos pins s σ H Q I ⟨e, rel, q⟩ => ?_⟩
  rw [hs]
  show wpAny _ _ (spliced ((false, eval x X.env) :: backTo pos (starEach xs X.env))) _ _ s
  unfold evl at q
  have first : tE G Z XR W (ev C a) σ H fun v H1 => ∃ r e', Rel G Z e' σ H1 ∧ Stp e σ H e' σ H1 ∧ RR G Z e' σ H H1 r v ∧ FinL G Z XR W e σ H ((evl C b e').bind fun rs e2 => .ok (r :: rs) e2) Q :=
    ⟨e, rel, (Fin.bindL q).imp fun v H1 ⟨r, e', _, h1, h2, h3, h4⟩ => ⟨r, e', h1, h2, h3, h4⟩⟩
  refine Calls.spliced_cons (thn ((ha Z).run pins s σ H _ I first) fun u s1 ⟨v, H1, I1, ru, r, e1, rel1, st1, rr1, q1⟩ => ?_)
  have second : ∀ Z', (∀ b, Z b → Z' b) → (∀ b, Z' b → Z b ∨ H b = none) → Rel G Z' e1 σ H1 → (∀ Zf rs vs e2 H2, (∀ b, Zf b → Z' b ∨ H1 b = none) → Stp e1 σ H1 e2 σ H2 → RRs G e2 σ H1 H2 Zf Z' rs vs → RRs G e2 σ H H2 Zf Z (r :: rs) (v :: vs)) →
      tL G Z' XR W (evl C b) σ H1 fun vs H2 => Q (v :: vs) H2 := fun Z' sub sup rel' mk => by
    refine ⟨e1, rel', ?_⟩
    revert q1
    cases evl C b e1 with
    | st => exact fun q1 => q1
    | ex z e2 => exact fun q1 cls dx H2 rel2 st2 => q1 cls dx H2 (rel2.less sub (rel1.lkZ st2)) (st1.trans st2)
    | ok rs e2 => exact fun q1 vs H2 rel2 st2 ⟨Zf, z, rr2⟩ => q1 (v :: vs) H2 (rel2.less sub (rel1.lkZ st2)) (st1.trans st2) ⟨Zf, fun x k => (z x k).elim (sup x) fun n => .inr (Classical.byContradiction fun m => st1.dom x m n), mk Zf rs vs e2 H2 z st2 rr2⟩
  have goal : ∀ Z', tL G Z' XR W (evl C b) σ H1 (fun vs H2 => Q (v :: vs) H2) → wpAny (model X.prog X.w) X.A (spliced (backTo pos (starEach xs X.env))) (fun us s2 => AP X pins σ Q (u :: us) s2) X.xe s1 := fun Z' h =>
    thn ((hb Z').run pos pins s1 σ H1 _ I1 h) fun us s2 ⟨vs, H2, I2, r2, q2⟩ => ⟨v :: vs, H2, I2, .cons ru r2, q2⟩
  cases r with
  | v d => exact goal Z (second Z (fun _ h => h) (fun _ h => .inl h) rel1 fun Zf rs vs e2 H2 z st2 rr2 => ⟨(Rp.wide (fun b k => k.elim (fun k => (z b k).imp .inl id) fun k => .inl (.inr k)) rr1).step (st2.also Zf), rr2.back st1.dom⟩)
  | s i => exact goal Z (second Z (fun _ h => h) (fun _ h => .inl h) rel1 fun Zf rs vs e2 H2 z st2 rr2 => ⟨rr1, rr2.back st1.dom⟩)
  | f d =>
    obtain ⟨a, h1, h2, h3, h4, h5⟩ := rr1
    refine goal (plus Z a) (second (plus Z a) (fun _ h => .inl h) (fun b k => k.imp id fun (k : b = a) => by rw [k]; exact h2) h5 fun Zf rs vs e2 H2 z st2 rr2 => ?_)
    obtain ⟨_, s⟩ := RRs.sub rr2
    refine ⟨a, h1, h2, h3, s a (.inr rfl), (Bx.wide (fun b k => k.elim (fun k => (z b k).imp .inl id) fun k => .inl (.inr k)) h4).step (st2.also Zf) fun o h => ?_, rr2.back st1.dom⟩
    exact (st2.keep.keep a o h h5.apart).1
/-- a tuple that is laid, kept as it stands -/
def tTupF (t : TA) : TE := fun σ H Q => t σ H fun xs H1 => xs.length ≤ sizeLine ∧ ∀ p (o : Obj), H1 p = none → o.dict = none → Q (.ref p) (upd H1 p (.frz o (.tup xs)))
theorem pe_tupF {es : List Expr} {t : TA} {x1 : Nat} (h : PA X es t) : PE X (.Tuple es x1 pos) (tTupF t) := by
  refine ⟨fun pins s σ H Q I hq => ?_⟩
  refine wpAny_Tuple_spliced (thn (h.run pos pins s σ H _ I hq) fun us s1 ⟨xs, H1, I1, r, z, q⟩ => ⟨by rw [← r.length]; exact z, ?_⟩)
  refine ⟨.ref s1.heap.objs.size, _, I1.laid (t' := s1.toks) (o := .frz { cls := .type "tuple", data := .seq us.toArray } (.tup xs)) (fun b u e => Heap.get?_push_of_some _ e) (Nat.le_refl _) ?_, rfl, q _ _ (I1.hok.fresh (Nat.le_refl _)) rfl⟩
  exact ⟨Heap.get?_push_size _ rfl, z, us, r, ⟨_, Heap.get?_push_size _ rfl, rfl, _, rfl⟩⟩
theorem sE_tup {es : List Expr} {l : E} {k : Nat} (h : PA X es (tL G Z XR W (evl C l))) : PE X (.Tuple es k pos) (tE G Z XR W (ev C (.tup l))) := by
  refine pe_imp (pe_tupF h) fun σ H Q ⟨e, rel, q⟩ => ?_
  unfold ev at q
  refine ⟨e, rel, (FinL.bindR q).imp fun vs H1 ⟨rs, e1, _, rel1, st1, rr1, q1⟩ => ?_⟩
  cases hk : keeps e1 rs with
  | none => rw [hk] at q1; exact q1.elim
  | some p =>
    obtain ⟨ds, e2⟩ := p
    rw [hk] at q1
    obtain ⟨rel2, st2, r2⟩ := keeps_ok rel1 (RRs.weak rr1) hk
    have q2 : Fin G Z XR W e σ H (if ds.length ≤ lim then .ok (.v (.tup ds)) e2 else .st) Q := q1
    by_cases hl : ds.length ≤ lim
    · rw [if_pos hl] at q2
      refine ⟨by rw [← r2.length, ← lim_eq]; exact hl, fun p o hp ho => ?_⟩
      have n : New H1 (upd H1 p (.frz o (.tup vs))) := New.upd hp
      exact q2 (.ref p) _ (rel2.new n) ((st1.trans st2).trans (Stp.new n)) (Rp.tup ⟨o, upd_same, ho⟩ (r2.step (n.keeps _)))
    · rw [if_neg hl] at q2
      exact q2.elim
theorem sE_lst {es : List Expr} {l : E} (h : PA X es (tL G Z XR W (evl C l))) : PE X (.List es pos) (tE G Z XR W (ev C (.lst l))) := by
  refine pe_imp (pe_lst h) fun σ H Q ⟨e, rel, q⟩ => ?_
  unfold ev at q
  refine ⟨e, rel, (FinL.bindR q).imp fun vs H1 ⟨rs, e1, _, rel1, st1, rr1, q1⟩ => ?_⟩
  cases hk : keeps e1 rs with
  | none => rw [hk] at q1; exact q1.elim
  | some p =>
    obtain ⟨ds, e2⟩ := p
    rw [hk] at q1
    obtain ⟨rel2, st2, r2⟩ := keeps_ok rel1 (RRs.weak rr1) hk
    have q2 : Fin G Z XR W e σ H (if ds.length ≤ lim then .ok (.f (.lst ds)) e2 else .st) Q := q1
    by_cases hl : ds.length ≤ lim
    · rw [if_pos hl] at q2
      refine ⟨by rw [← r2.length, ← lim_eq]; exact hl, fun p hp => ?_⟩
      have n : New H1 (upd H1 p (.lst vs)) := New.upd hp
      refine q2 (.ref p) _ (rel2.new n) ((st1.trans st2).trans (Stp.new n)) ⟨p, rfl, ?_, fun z => rel2.dom p z hp, ⟨vs, upd_same, ((r2.away hp).anti also_plus).step (n.keeps _)⟩, rel2.away hp n (by rw [upd_same]; exact fun z => nomatch z)⟩
      exact Classical.byContradiction fun z => (st1.trans st2).dom p z hp
    · rw [if_neg hl] at q2
      exact q2.elim

/-! operators -/
theorem sE_bin {op : Operator} {o : Op} {x y : Expr} {a b : E} (ho : OpR X (binaryOp op) (r2 G (binD o))) (ha : PE X x (tE G Z XR W (ev C a))) (hb : PE X y (tE G Z XR W (ev C b))) : PE X (.BinOp x op y pos) (tE G Z XR W (ev C (.bin o a b))) := by
  refine pe_imp (pe_op ho ha hb) fun σ H Q ⟨e, rel, q⟩ => ?_
  unfold ev at q
  refine two rel q fun u v H2 r s e2 rel2 st2 rr1 rr2 h => ?_
  cases h1 : look e2 r with
  | none => rw [h1] at h; exact h.elim
  | some d1 =>
    cases h2 : look e2 s with
    | none => rw [h1, h2] at h; exact h.elim
    | some d2 =>
      rw [h1, h2] at h
      obtain ⟨r, hr, q2⟩ := Fin.lift h rel2
      exact ⟨_, d1, d2, rr1.look rel2 h1, rr2.look rel2 h2, r, hr, q2⟩
theorem sE_cmp {op : CmpOp} {o : Cm} {x y : Expr} {a b : E} (ho : OpR X (compareOp op) (r2B G (cmpD o))) (hm : behindInMarks op y = false) (ha : PE X x (tE G Z XR W (ev C a))) (hb : PE X y (tE G Z XR W (ev C b))) : PE X (.Compare x [op] [y] pos) (tE G Z XR W (ev C (.cmp o a b))) := by
  refine pe_imp (pe_cmpR ho ha hb hm) fun σ H Q ⟨e, rel, q⟩ => ?_
  unfold ev at q
  refine two rel q fun u v H2 r s e2 rel2 st2 rr1 rr2 h => ?_
  cases h1 : look e2 r with
  | none => rw [h1] at h; exact h.elim
  | some d1 =>
    cases h2 : look e2 s with
    | none => rw [h1, h2] at h; exact h.elim
    | some d2 =>
      rw [h1, h2] at h
      obtain ⟨r, hr, q2⟩ := Fin.liftB h rel2
      exact ⟨_, d1, d2, rr1.look rel2 h1, rr2.look rel2 h2, r, hr, q2⟩
theorem sE_ix {x y : Expr} {a b : E} (ho : IxR X (r2 G fun x y => (ixD x y).map .v)) (hs : PlainIx y) (ha : PE X x (tE G Z XR W (ev C a))) (hb : PE X y (tE G Z XR W (ev C b))) : PE X (.Subscript x y pos) (tE G Z XR W (ev C (.ix a b))) := by
  refine pe_imp (pe_ix ho ha hb hs) fun σ H Q ⟨e, rel, q⟩ => ?_
  unfold ev at q
  refine two rel q fun u v H2 r s e2 rel2 st2 rr1 rr2 h => ?_
  cases h1 : look e2 r with
  | none => rw [h1] at h; exact h.elim
  | some d1 =>
    cases h2 : look e2 s with
    | none => rw [h1, h2] at h; exact h.elim
    | some d2 =>
      rw [h1, h2] at h
      obtain ⟨r, hr, q2⟩ := Fin.lift h rel2
      exact ⟨_, d1, d2, rr1.look rel2 h1, rr2.look rel2 h2, r, hr, q2⟩
theorem sE_blt {f : Value} {b : Bl} {x : Expr} {es : List Expr} {l : E} (hc : ∀ t, PA X es t → PE X x (tCB (rN G (bltD b)) t)) (h : PA X es (tL G Z XR W (evl C l))) : PE X x (tE G Z XR W (ev C (.blt b l))) := by
  refine pe_imp (hc _ h) fun σ H Q ⟨e, rel, q⟩ => ?_
  unfold ev at q
  refine ⟨e, rel, (FinL.bindR q).imp fun vs H1 ⟨rs, e1, _, rel1, st1, rr1, q1⟩ => ?_⟩
  cases hk : looks e1 rs with
  | none => rw [hk] at q1; exact q1.elim
  | some ds =>
    rw [hk] at q1
    obtain ⟨r, hr, q2⟩ := Fin.lift (q1.from st1) rel1
    exact ⟨_, ds, looks_ok rel1 (RRs.weak rr1) hk, r, hr, q2⟩
/-- truth -/
theorem truth_ok {K : PySem.W.Frag} {H : Hp} {d : D} {v : V} {b : Bool} (r : Rt G Z H d v) (h : truth d = some b) : TruV K v H b := by
  cases r with
  | rp r =>
    cases r with
    | non => cases h; exact rfl
    | bl b => cases h; exact rfl
    | int i => cases h; exact rfl
    | str x ok =>
      have h' : (if x.length ≤ lim then some (decide (0 < x.length)) else none) = some b := h
      by_cases hl : x.length ≤ lim
      · rw [if_pos hl] at h'
        cases h'
        refine ⟨by rw [← lim_eq]; exact hl, ?_⟩
        cases hx : x.length with
        | zero => rfl
        | succ n =>
          have h0 : decide (0 < n + 1) = true := decide_eq_true (Nat.succ_pos n)
          have h1 : ((((n + 1 : Nat) : Int)) != 0) = true := by
            rw [bne_iff_ne]
            omega
          rw [h0, h1]
      · rw [if_neg hl] at h'
        cases h'
    | tup h1 r1 =>
      cases h
      refine .inr (.inl ⟨_, .inl h1.rd, ?_⟩)
      cases r1 <;> rfl
    | lst h1 n r1 =>
      cases h
      refine .inl ⟨_, .inl h1, ?_⟩
      cases r1 <;> rfl
    | fn h1 => cases h
  | bx e r =>
    subst e
    cases d with
    | lst ds =>
      obtain ⟨xs, h1, r1⟩ := r
      cases h
      refine .inl ⟨_, .of h1, ?_⟩
      cases r1 <;> rfl
    | _ => exact r.elim
theorem sE_not {x : Expr} {a : E} (ha : PE X x (tE G Z XR W (ev C a))) : PE X (.UnaryOp .Not x pos) (tE G Z XR W (ev C (.not a))) := by
  refine pe_imp (pe_notT ha) fun σ H Q ⟨e, rel, q⟩ => ?_
  unfold ev at q
  refine ⟨e, rel, (Fin.bind q).imp fun v H1 ⟨r, e1, _, rel1, st1, rr1, h⟩ => ?_⟩
  cases h1 : look e1 r with
  | none => rw [h1] at h; exact h.elim
  | some d =>
    rw [h1] at h
    obtain ⟨b, hb, q2⟩ := Fin.liftB (h.from st1) rel1
    cases ht : truth d with
    | none => rw [ht] at hb; cases hb
    | some t =>
      rw [ht] at hb
      cases hb
      exact ⟨t, truth_ok (rr1.look rel1 h1) ht, q2⟩
theorem sE_neg {x : Expr} {a : E} (ha : PE X x (tE G Z XR W (ev C a))) : PE X (.UnaryOp .USub x pos) (tE G Z XR W (ev C (.neg a))) := by
  refine pe_imp (pe_un un_neg ha) fun σ H Q ⟨e, rel, q⟩ => ?_
  unfold ev at q
  refine ⟨e, rel, (Fin.bind q).imp fun v H1 ⟨r, e1, _, rel1, st1, rr1, h⟩ => ?_⟩
  cases h1 : look e1 r with
  | none => rw [h1] at h; exact h.elim
  | some d =>
    rw [h1] at h
    cases d with
    | int i =>
      have h' : Fin G Z XR W e σ H (.ok (.v (.int (-i))) e1) Q := h
      have r1 := rr1.look rel1 h1
      cases r1 with
      | rp r1 => cases r1; exact ⟨i, rfl, h' _ H1 rel1 st1 (.int _)⟩
      | bx _ r1 => exact r1.elim
    | _ => exact h.elim
theorem sE_and {x y : Expr} {rest : List Expr} {a b : E} (ha : PE X x (tE G Z XR W (ev C a))) (hb : PE X (.BoolOp .And (y :: rest) pos) (tE G Z XR W (ev C b))) : PE X (.BoolOp .And (x :: y :: rest) pos) (tE G Z XR W (ev C (.and a b))) := by
  refine pe_imp (pe_andT ha hb) fun σ H Q ⟨e, rel, q⟩ => ?_
  unfold ev at q
  refine ⟨e, rel, (Fin.bind q).imp fun v H1 ⟨r, e1, _, rel1, st1, rr1, h⟩ => ?_⟩
  cases h1 : look e1 r with
  | none => rw [h1] at h; exact h.elim
  | some d =>
    rw [h1] at h
    cases ht : truth d with
    | none =>
      have h' : Fin G Z XR W e σ H (match truth d with | some true => ev C b e1 | some false => .ok r e1 | none => .st) Q := h
      rw [ht] at h'
      exact h'.elim
    | some t =>
      have h' : Fin G Z XR W e σ H (match truth d with | some true => ev C b e1 | some false => .ok r e1 | none => .st) Q := h
      rw [ht] at h'
      refine ⟨t, truth_ok (rr1.look rel1 h1) ht, ?_⟩
      cases t with
      | true => rw [if_pos rfl]; exact ⟨e1, rel1, Fin.from h' st1⟩
      | false => rw [if_neg Bool.false_ne_true]; exact h' v H1 rel1 st1 rr1
theorem sE_or {x y : Expr} {rest : List Expr} {a b : E} (ha : PE X x (tE G Z XR W (ev C a))) (hb : PE X (.BoolOp .Or (y :: rest) pos) (tE G Z XR W (ev C b))) : PE X (.BoolOp .Or (x :: y :: rest) pos) (tE G Z XR W (ev C (.or a b))) := by
  refine pe_imp (pe_orT ha hb) fun σ H Q ⟨e, rel, q⟩ => ?_
  unfold ev at q
  refine ⟨e, rel, (Fin.bind q).imp fun v H1 ⟨r, e1, _, rel1, st1, rr1, h⟩ => ?_⟩
  cases h1 : look e1 r with
  | none => rw [h1] at h; exact h.elim
  | some d =>
    rw [h1] at h
    cases ht : truth d with
    | none =>
      have h' : Fin G Z XR W e σ H (match truth d with | some true => .ok r e1 | some false => ev C b e1 | none => .st) Q := h
      rw [ht] at h'
      exact h'.elim
    | some t =>
      have h' : Fin G Z XR W e σ H (match truth d with | some true => .ok r e1 | some false => ev C b e1 | none => .st) Q := h
      rw [ht] at h'
      refine ⟨t, truth_ok (rr1.look rel1 h1) ht, ?_⟩
      cases t with
      | true => rw [if_pos rfl]; exact h' v H1 rel1 st1 rr1
      | false => rw [if_neg Bool.false_ne_true]; exact ⟨e1, rel1, Fin.from h' st1⟩

/-! tests -/
/-- from a value to its truth -/
theorem test_at {e e1 : Env} {σ : L2.St} {H H1 : Hp} {r : R} {v : V} {Q : Bool → Hp → Prop} {K : PySem.W.Frag} (rel1 : Rel G Z e1 σ H1) (st1 : Stp e σ H e1 σ H1) (rr1 : RR G Z e1 σ H H1 r v)
    (h : FinB G Z XR W e σ H (match look e1 r with
      | some x => (match truth x with
        | some b => .ok b e1
        | none => .st)
      | none => .st) Q) : ∃ k, TruV K v H1 k ∧ Q k H1 := by
  cases h1 : look e1 r with
  | none => rw [h1] at h; exact h.elim
  | some d =>
    rw [h1] at h
    have h' : FinB G Z XR W e σ H (match truth d with | some b => .ok b e1 | none => .st) Q := h
    cases ht : truth d with
    | none => rw [ht] at h'; exact h'.elim
    | some t =>
      rw [ht] at h'
      exact ⟨t, truth_ok (rr1.look rel1 h1) ht, h' H1 rel1 st1⟩
theorem sT_val {x : Expr} {a : E} (ha : PE X x (tE G Z XR W (ev C a))) (he : ∀ whole, isTrue x X.env whole = (do let v ← whole; standAt x.pos; holding [v] (truthy v))) : PT X x (tB2 G Z XR W fun e => testR (ev C a e)) := by
  refine pt_imp (pt_truth ha he) fun σ H Q ⟨e, rel, q⟩ => ?_
  unfold testR at q
  exact ⟨e, rel, (Fin.bindB q).imp fun v H1 ⟨r, e1, _, rel1, st1, rr1, h⟩ => test_at rel1 st1 rr1 h⟩
/-- a comparison -/
theorem testR_liftB {e : Env} {o : Option Bool} : testR (liftB o e) = match o with
    | some b => .ok b e
    | none => .st := by
  cases o <;> rfl
theorem testR_bind {o : Out R} {k : R → Env → Out R} : testR (o.bind k) = o.bind fun r e => testR (k r e) := by
  cases o <;> rfl
theorem sT_cmp {op : CmpOp} {o : Cm} {x y : Expr} {a b : E} (ho : OpR X (compareOp op) (r2B G (cmpD o))) (hm : behindInMarks op y = false) (ha : PE X x (tE G Z XR W (ev C a))) (hb : PE X y (tE G Z XR W (ev C b))) :
    PT X (.Compare x [op] [y] pos) (tB2 G Z XR W fun e => testR (ev C (.cmp o a b) e)) := by
  refine pt_imp (pt_cmpR ho ha hb hm) fun σ H Q ⟨e, rel, q⟩ => ?_
  unfold ev at q
  dsimp only at q
  rw [testR_bind] at q
  refine ⟨e, rel, (Fin.bindB q).imp fun x H1 ⟨r, e1, _, rel1, st1, rr1, h1⟩ => ?_⟩
  rw [testR_bind] at h1
  refine ⟨e1, rel1, (Fin.bindB (h1.from st1)).imp fun y H2 ⟨s, e2, _, rel2, st2, rr2, h⟩ => ?_⟩
  have rr1' := rr1.later st2
  cases h1 : look e2 r with
  | none => rw [h1] at h; exact h.elim
  | some d1 =>
    cases h2 : look e2 s with
    | none => rw [h1, h2] at h; exact h.elim
    | some d2 =>
      rw [h1, h2] at h
      have h' : FinB G Z XR W e1 σ H1 (testR (liftB (cmpD o d1 d2) e2)) Q := h
      rw [testR_liftB] at h'
      cases hc : cmpD o d1 d2 with
      | none => rw [hc] at h'; exact h'.elim
      | some t =>
        rw [hc] at h'
        exact ⟨_, d1, d2, rr1'.look rel2 h1, rr2.look rel2 h2, t, hc, t, rfl, h' H2 rel2 st2⟩
theorem sT_not {x : Expr} {a : E} (ha : PT X x (tB2 G Z XR W fun e => testR (ev C a e))) : PT X (.UnaryOp .Not x pos) (tB2 G Z XR W fun e => testR (ev C (.not a) e)) := by
  refine pt_imp (pt_not ha) fun σ H Q ⟨e, rel, q⟩ => ⟨e, rel, ?_⟩
  unfold ev at q
  dsimp only at q
  rw [testR_bind] at q
  show FinB G Z XR W e σ H (testR (ev C a e)) fun c H1 => Q (!c) H1
  unfold testR
  revert q
  cases ev C a e with
  | st => exact fun q => q
  | ex x e' => exact fun q => q
  | ok r e1 =>
    intro q
    have q' : FinB G Z XR W e σ H (testR (match look e1 r with
      | some x => liftB ((truth x).map (!·)) e1
      | none => .st)) Q := q
    show FinB G Z XR W e σ H (match look e1 r with
      | some x => (match truth x with
        | some b => .ok b e1
        | none => .st)
      | none => .st) fun c H1 => Q (!c) H1
    cases h1 : look e1 r with
    | none => rw [h1] at q'; exact q'
    | some d =>
      rw [h1] at q'
      have q2 : FinB G Z XR W e σ H (testR (liftB ((truth d).map (!·)) e1)) Q := q'
      show FinB G Z XR W e σ H (match truth d with
        | some b => .ok b e1
        | none => .st) fun c H1 => Q (!c) H1
      cases ht : truth d with
      | none => rw [ht] at q2; exact q2
      | some t => rw [ht] at q2; exact q2
end
end Lt
end
section
set_option maxRecDepth 100000
namespace Lt
open PySem PySem.Spec PyProof.Rows L2
section
variable {X : Cx} {G : Nat → Option Addr} {Z : Set1} {XR : XRel} {W : WX} {C : Calls} {pos : Pos}
/-! tests: and, or; a if c else b -/
theorem testR_ok {r : R} {e : Env} {d : D} {b : Bool} (h1 : look e r = some d) (h2 : truth d = some b) : testR (.ok r e) = .ok b e := by
  show (match look e r with
    | some x => (match truth x with
      | some b => Out.ok b e
      | none => .st)
    | none => .st) = _
  rw [h1]
  show (match truth d with
      | some b => Out.ok b e
      | none => .st) = _
  rw [h2]
/-- what a test's value is, where it does not fail -/
inductive TestAt (o : Out R) : Prop
  | st : testR o = .st → TestAt o
  | ex {x : Ex} {e : Env} : o = .ex x e → TestAt o
  | ok {r : R} {e : Env} {d : D} {b : Bool} : o = .ok r e → look e r = some d → truth d = some b → TestAt o
theorem testAt (o : Out R) : TestAt o := by
  cases o with
  | st => exact .st rfl
  | ex x e => exact .ex rfl
  | ok r e =>
    cases h1 : look e r with
    | none =>
      refine .st ?_
      show (match look e r with
        | some x => (match truth x with
          | some b => Out.ok b e
          | none => .st)
        | none => .st) = _
      rw [h1]
    | some d =>
      cases h2 : truth d with
      | none =>
        refine .st ?_
        show (match look e r with
          | some x => (match truth x with
            | some b => Out.ok b e
            | none => .st)
          | none => .st) = _
        rw [h1]
        show (match truth d with
            | some b => Out.ok b e
            | none => .st) = _
        rw [h2]
      | some b => exact .ok rfl h1 h2
def brR (o : Out R) (k1 : R → Env → Out R) (k2 : R → Env → Out R) : Out R := o.bind fun r e1 => match look e1 r with
  | some x => (match truth x with
    | some true => k1 r e1
    | some false => k2 r e1
    | none => .st)
  | none => .st
theorem brR_st {o : Out R} {k1 k2 : R → Env → Out R} (h : testR o = .st) : brR o k1 k2 = .st := by
  cases o with
  | st => rfl
  | ex x e => cases h
  | ok r e =>
    unfold brR
    show (match look e r with
      | some x => (match truth x with
        | some true => k1 r e
        | some false => k2 r e
        | none => .st)
      | none => .st) = _
    cases h1 : look e r with
    | none => rfl
    | some d =>
      cases h2 : truth d with
      | none =>
        show (match truth d with
        | some true => k1 r e
        | some false => k2 r e
        | none => .st) = _
        rw [h2]
      | some b => rw [testR_ok h1 h2] at h; cases h
theorem brR_ok {r : R} {e : Env} {k1 k2 : R → Env → Out R} {d : D} {b : Bool} (h1 : look e r = some d) (h2 : truth d = some b) : brR (.ok r e) k1 k2 = if b = true then k1 r e else k2 r e := by
  unfold brR
  show (match look e r with
      | some x => (match truth x with
        | some true => k1 r e
        | some false => k2 r e
        | none => .st)
      | none => .st) = _
  rw [h1]
  show (match truth d with
        | some true => k1 r e
        | some false => k2 r e
        | none => .st) = _
  rw [h2]
  cases b <;> rfl
theorem ev_and {a b : E} {e : Env} : ev C (.and a b) e = brR (ev C a e) (fun _ e1 => ev C b e1) (fun r e1 => .ok r e1) := by
  show ev C (.and a b) e = _
  rw [ev]
  rfl
theorem ev_or {a b : E} {e : Env} : ev C (.or a b) e = brR (ev C a e) (fun r e1 => .ok r e1) (fun _ e1 => ev C b e1) := by
  rw [ev]
  rfl
theorem ev_ite {c a b : E} {e : Env} : ev C (.ite c a b) e = brR (ev C c e) (fun _ e1 => ev C a e1) (fun _ e1 => ev C b e1) := by
  rw [ev]
  rfl
/-- by the test's own outcome -/
theorem brT {σ : L2.St} {H : Hp} {e : Env} {o : Out R} {k1 k2 : R → Env → Out R} {Q : Bool → Hp → Prop} {t1 t2 : Hp → Prop} (h : FinB G Z XR W e σ H (testR (brR o k1 k2)) Q)
    (h1 : ∀ r e1 d H1, o = .ok r e1 → look e1 r = some d → truth d = some true → Rel G Z e1 σ H1 → Stp e σ H e1 σ H1 → FinB G Z XR W e σ H (testR (k1 r e1)) Q → t1 H1)
    (h2 : ∀ r e1 d H1, o = .ok r e1 → look e1 r = some d → truth d = some false → Rel G Z e1 σ H1 → Stp e σ H e1 σ H1 → FinB G Z XR W e σ H (testR (k2 r e1)) Q → t2 H1) :
    FinB G Z XR W e σ H (testR o) fun c H1 => if c = true then t1 H1 else t2 H1 := by
  cases testAt o with
  | st q => rw [brR_st q] at h; exact h.elim
  | ex q => subst q; exact h
  | ok q q1 q2 =>
    rename_i r e1 d b
    subst q
    rw [testR_ok q1 q2]
    rw [brR_ok q1 q2] at h
    intro H' rel' st'
    cases b with
    | true => rw [if_pos rfl]; rw [if_pos rfl] at h; exact h1 r e1 d H' rfl q1 q2 rel' st' h
    | false => rw [if_neg Bool.false_ne_true]; rw [if_neg Bool.false_ne_true] at h; exact h2 r e1 d H' rfl q1 q2 rel' st' h
theorem brV {σ : L2.St} {H : Hp} {e : Env} {o : Out R} {k1 k2 : R → Env → Out R} {Q : VK} {t1 t2 : Hp → Prop} (h : Fin G Z XR W e σ H (brR o k1 k2) Q)
    (h1 : ∀ r e1 H1, o = .ok r e1 → Rel G Z e1 σ H1 → Stp e σ H e1 σ H1 → Fin G Z XR W e σ H (k1 r e1) Q → t1 H1)
    (h2 : ∀ r e1 H1, o = .ok r e1 → Rel G Z e1 σ H1 → Stp e σ H e1 σ H1 → Fin G Z XR W e σ H (k2 r e1) Q → t2 H1) :
    FinB G Z XR W e σ H (testR o) fun c H1 => if c = true then t1 H1 else t2 H1 := by
  cases testAt o with
  | st q => rw [brR_st q] at h; exact h.elim
  | ex q => subst q; exact h
  | ok q q1 q2 =>
    rename_i r e1 d b
    subst q
    rw [testR_ok q1 q2]
    rw [brR_ok q1 q2] at h
    intro H' rel' st'
    cases b with
    | true => rw [if_pos rfl]; rw [if_pos rfl] at h; exact h1 r e1 H' rfl rel' st' h
    | false => rw [if_neg Bool.false_ne_true]; rw [if_neg Bool.false_ne_true] at h; exact h2 r e1 H' rfl rel' st' h
theorem sE_ite {c x y : Expr} {k a b : E} (hc : PT X c (tB2 G Z XR W fun e => testR (ev C k e))) (ha : PE X x (tE G Z XR W (ev C a))) (hb : PE X y (tE G Z XR W (ev C b))) : PE X (.IfExp c x y pos) (tE G Z XR W (ev C (.ite k a b))) := by
  refine pe_imp (pe_ifExp hc ha hb) fun σ H Q ⟨e, rel, q⟩ => ⟨e, rel, ?_⟩
  rw [ev_ite] at q
  exact brV q (fun r e1 H1 _ rel1 st1 h => ⟨e1, rel1, h.from st1⟩) (fun r e1 H1 _ rel1 st1 h => ⟨e1, rel1, h.from st1⟩)
theorem sW_and {x y : Expr} {rest : List Expr} {a b : E} (ha : PT X x (tB2 G Z XR W fun e => testR (ev C a e))) (hb : PW X (.BoolOp .And (y :: rest) pos) (tB2 G Z XR W fun e => testR (ev C b e))) :
    PW X (.BoolOp .And (x :: y :: rest) pos) (tB2 G Z XR W fun e => testR (ev C (.and a b) e)) := by
  have h0 := pw_and ha hb
  refine ⟨fun wh pins s σ H Q I h => h0.run wh pins s σ H Q I ?_⟩
  obtain ⟨e, rel, q⟩ := h
  refine ⟨e, rel, ?_⟩
  dsimp only at q
  rw [ev_and] at q
  exact brT q (fun r e1 d H1 _ _ _ rel1 st1 h => ⟨e1, rel1, h.from st1⟩) (fun r e1 d H1 _ h1 h2 rel1 st1 h => by
    rw [testR_ok h1 h2] at h
    exact h H1 rel1 st1)
theorem sW_or {x y : Expr} {rest : List Expr} {a b : E} (ha : PT X x (tB2 G Z XR W fun e => testR (ev C a e))) (hb : PW X (.BoolOp .Or (y :: rest) pos) (tB2 G Z XR W fun e => testR (ev C b e))) :
    PW X (.BoolOp .Or (x :: y :: rest) pos) (tB2 G Z XR W fun e => testR (ev C (.or a b) e)) := by
  have h0 := pw_or ha hb
  refine ⟨fun wh pins s σ H Q I h => h0.run wh pins s σ H Q I ?_⟩
  obtain ⟨e, rel, q⟩ := h
  refine ⟨e, rel, ?_⟩
  dsimp only at q
  rw [ev_or] at q
  exact brT q (fun r e1 d H1 _ h1 h2 rel1 st1 h => by
    rw [testR_ok h1 h2] at h
    exact h H1 rel1 st1) (fun r e1 d H1 _ _ _ rel1 st1 h => ⟨e1, rel1, h.from st1⟩)

/-! a op b op c -/
theorem sE_chain {op op' : CmpOp} {o o' : Cm} {x y z : Expr} {a b c : E} (ho : OpR X (compareOp op) (r2B G (cmpD o))) (ho' : OpR X (compareOp op') (r2B G (cmpD o')))
    (hm : lastMarks [op, op'] [y, z] = false) (ha : PE X x (tE G Z XR W (ev C a))) (hb : PE X y (tE G Z XR W (ev C b))) (hc : PE X z (tE G Z XR W (ev C c))) :
    PE X (.Compare x [op, op'] [y, z] pos) (tE G Z XR W (ev C (.chain a o b o' c))) := by
  refine pe_imp (pe_chain ho ho' ha hb hc hm) fun σ H Q ⟨e, rel, q⟩ => ?_
  unfold ev at q
  refine two rel q fun u v H2 r s e2 rel2 st2 rr1 rr2 h => ?_
  cases h1 : look e2 r with
  | none => rw [h1] at h; exact h.elim
  | some d1 =>
    cases h2 : look e2 s with
    | none => rw [h1, h2] at h; exact h.elim
    | some d2 =>
      rw [h1, h2] at h
      have h' : Fin G Z XR W e2 σ H2 (match cmpD o d1 d2 with
        | some true => (ev C c e2).bind fun t e3 => match look e3 s, look e3 t with
          | some y, some z => liftB (cmpD o' y z) e3
          | _, _ => .st
        | some false => .ok (.v (.bl false)) e2
        | none => .st) Q := h
      cases hk : cmpD o d1 d2 with
      | none => rw [hk] at h'; exact h'.elim
      | some k =>
        rw [hk] at h'
        refine ⟨_, d1, d2, rr1.look rel2 h1, rr2.look rel2 h2, k, hk, k, rfl, ?_⟩
        cases k with
        | false =>
          rw [if_neg Bool.false_ne_true]
          exact h' _ H2 rel2 (.refl _ _ _) (.bl false)
        | true =>
          rw [if_pos rfl]
          refine ⟨e2, rel2, (Fin.bind h').imp fun w H3 ⟨t, e3, _, rel3, st3, rr3, h3⟩ => ?_⟩
          cases h4 : look e3 s with
          | none => rw [h4] at h3; exact h3.elim
          | some d3 =>
            cases h5 : look e3 t with
            | none => rw [h4, h5] at h3; exact h3.elim
            | some d4 =>
              rw [h4, h5] at h3
              obtain ⟨b, hb, q3⟩ := Fin.liftB (h3.from st3) rel3
              exact ⟨_, d3, d4, (rr2.later st3).look rel3 h4, rr3.look rel3 h5, b, hb, q3⟩

/-! slices -/
def tO (f : Env → Out R) : TO := fun σ H Q => tE G Z XR W f σ H fun x H1 => (x = .non ∧ Q none H1) ∨ ∃ i, x = .int i ∧ Q (some i) H1
theorem po_imp {x : Option Expr} {t t' : TO} (h : PO X x t) (i : ∀ σ H Q, t' σ H Q → t σ H Q) : PO X x t' := ⟨fun pins s σ H Q I q => h.run pins s σ H Q I (i σ H Q q)⟩
theorem sO_none : PO X none (tO (G := G) (Z := Z) (XR := XR) (W := W) (ev C .nop)) := by
  refine po_imp po_none fun σ H Q ⟨e, rel, q⟩ => ?_
  unfold ev at q
  rcases q .non H rel (.refl _ _ _) .non with ⟨_, h⟩ | ⟨i, h, _⟩
  · exact h
  · cases h
theorem sO_some {x : Expr} {a : E} (h : PE X x (tE G Z XR W (ev C a))) : PO X (some x) (tO (G := G) (Z := Z) (XR := XR) (W := W) (ev C a)) := by
  refine ⟨fun pins s σ H Q I hw => ?_⟩
  rw [evalPart_some]
  refine thn (h.run pins s σ H _ I hw) fun u s1 ⟨v, H1, I1, r1, q1⟩ => ?_
  rcases q1 with ⟨rfl, q⟩ | ⟨i, rfl, q⟩
  · cases r1
    exact ⟨none, H1, I1, .none, q⟩
  · obtain ⟨t, rfl⟩ := r1
    exact ⟨some i, H1, I1, .int i t, q⟩
variable (G) in
/-- a[lo:hi], by values -/
def rSl : V → Option Int → Option Int → Hp → VK → Prop := fun x lo hi H Q => ∃ Z d, Rt G Z H d x ∧ ∃ r, slD d lo hi = some r ∧ ∀ v H', New H H' → RN G Z H H' r v → Q v H'
theorem part_ok {H : Hp} {d : D} {v : V} {o : Option Int} (r : Rt G Z H d v) (h : partD d = some o) : (v = .non ∧ o = none) ∨ ∃ i, v = .int i ∧ o = some i := by
  cases d with
  | non => cases r with
    | rp r => cases r; cases h; exact .inl ⟨rfl, rfl⟩
    | bx _ r => exact r.elim
  | int i => cases r with
    | rp r => cases r; cases h; exact .inr ⟨i, rfl, rfl⟩
    | bx _ r => exact r.elim
  | _ => cases h
theorem partR_ok {e : Env} {σ : L2.St} {H H1 : Hp} {r : R} {v : V} {o : Option Int} (q : RW G Z e σ H H1 r v) (rel : Rel G Z e σ H1) (h : partR e r = some o) : (v = .non ∧ o = none) ∨ ∃ i, v = .int i ∧ o = some i := by
  unfold partR at h
  cases k : look e r with
  | none => rw [k] at h; cases h
  | some d => rw [k] at h; exact part_ok (q.look rel k) h
theorem sE_sl {x : Expr} {lo hi : Option Expr} {p2 : Pos} {a l u : E} (hr : SlR X (rSl G)) (ha : PE X x (tE G Z XR W (ev C a))) (hl : PO X lo (tO (G := G) (Z := Z) (XR := XR) (W := W) (ev C l))) (hu : PO X hi (tO (G := G) (Z := Z) (XR := XR) (W := W) (ev C u))) :
    PE X (.Subscript x (.Slice lo hi none p2) pos) (tE G Z XR W (ev C (.sl a l u))) := by
  refine pe_imp (pe_slice hr ha hl hu) fun σ H Q ⟨e, rel, q⟩ => ?_
  unfold ev at q
  refine ⟨e, rel, (Fin.bind q).imp fun x H1 ⟨r, e1, _, rel1, st1, rr1, h1⟩ => ?_⟩
  refine ⟨e1, rel1, (Fin.bind (h1.from st1)).imp fun y H2 ⟨p, e2, _, rel2, st2, rr2, h2⟩ => ?_⟩
  have rr1' := rr1.later st2
  cases k2 : partR e2 p with
  | none => rw [k2] at h2; exact h2.elim
  | some lo =>
    rw [k2] at h2
    have h2' : Fin G Z XR W e1 σ H1 ((ev C u e2).bind fun q e3 => match partR e3 q with
      | some y => (match look e3 r with
        | some d => lift (slD d lo y) e3
        | none => .st)
      | none => .st) Q := h2
    have next : tO (G := G) (Z := Z) (XR := XR) (W := W) (ev C u) σ H2 fun hi H3 => rSl G x lo hi H3 Q := by
      refine ⟨e2, rel2, (Fin.bind (h2'.from st2)).imp fun z H3 ⟨s, e3, _, rel3, st3, rr3, h3⟩ => ?_⟩
      have rr1'' := rr1'.later st3
      cases k3 : partR e3 s with
      | none => rw [k3] at h3; exact h3.elim
      | some hi =>
        rw [k3] at h3
        have h3' : Fin G Z XR W e2 σ H2 (match look e3 r with
          | some d => lift (slD d lo hi) e3
          | none => .st) Q := h3
        cases k1 : look e3 r with
        | none => rw [k1] at h3'; exact h3'.elim
        | some d1 =>
          rw [k1] at h3'
          obtain ⟨w, hw, q3⟩ := Fin.lift (h3'.from st3) rel3
          have me : rSl G x lo hi H3 Q := ⟨_, d1, rr1''.look rel3 k1, w, hw, q3⟩
          rcases partR_ok rr3.weak rel3 k3 with ⟨a1, a2⟩ | ⟨i, a1, a2⟩
          · exact .inl ⟨a1, a2 ▸ me⟩
          · exact .inr ⟨i, a1, a2 ▸ me⟩
    rcases partR_ok rr2.weak rel2 k2 with ⟨a1, a2⟩ | ⟨i, a1, a2⟩
    · exact .inl ⟨a1, a2 ▸ next⟩
    · exact .inr ⟨i, a1, a2 ▸ next⟩
end
end Lt
end
section
set_option maxRecDepth 100000
namespace Lt
open PySem PySem.Spec PyProof.Rows L2
section
variable {X : Cx} {G : Nat → Option Addr} {Z : Set1} {XR : XRel} {W : WX} {C : Calls} {pos : Pos}

/-! a slot's container is changed -/
theorem own_mu {e : Env} {σ : L2.St} {i : Nat} {o : Bool} {d d' : D} (hs : slot e i = .mu o false d) : ∀ b, own (e.set i (.mu o false d')) σ b ↔ own e σ b := by
  have hi : i < e.length := slot_lt hs fun z => nomatch z
  intro b
  constructor
  · rintro ⟨j, o2, d2, h, q⟩
    by_cases ij : i = j
    · subst ij; exact ⟨i, o, d, hs, q⟩
    · rw [slot_set_ne ij] at h; exact ⟨j, o2, d2, h, q⟩
  · rintro ⟨j, o2, d2, h, q⟩
    by_cases ij : i = j
    · subst ij; exact ⟨i, o, d', slot_set_same hi, q⟩
    · exact ⟨j, o2, d2, by rw [slot_set_ne ij]; exact h, q⟩
theorem box_set {e : Env} {σ : L2.St} {H H' : Hp} {i : Nat} {o : Bool} {d d' : D} {a : Addr} (rel : Rel G Z e σ H) (hs : slot e i = .mu o false d) (ha : σ[i]? = some (some (.ref a)))
    (hk : ∀ b, b ≠ a → H' b = H b) (hb : Bx G (also Z (own e σ)) H' a d') : Rel G Z (e.set i (.mu o false d')) σ H' ∧ Stp e σ H (e.set i (.mu o false d')) σ H' := by
  have hi : i < e.length := slot_lt hs fun z => nomatch z
  have ow := own_mu (e := e) (σ := σ) (d' := d') hs
  obtain ⟨a0, a1, a2, a3⟩ := rel.mu i o d hs
  rw [ha] at a1
  cases a1
  obtain ⟨ob, hob, hnt⟩ := a2.there
  have oa : own e σ a := ⟨i, o, d, hs, ha⟩
  have kp : Keeps (also Z (own e σ)) (also Z (own (e.set i (.mu o false d')) σ)) H H' := ⟨fun b u h n => ⟨by rw [hk b fun z => n (z ▸ .inr oa)]; exact h, fun z => n (z.elim .inl fun z => .inr ((ow b).mp z))⟩, fun b xs h => h.eq (hk b fun z => by
    subst z
    obtain ⟨o', e', _⟩ := h
    rw [hob] at e'
    cases e'
    exact hnt _ _ rfl)⟩
  have dm : ∀ b, H b ≠ none → H' b ≠ none := fun b h => by
    by_cases z : b = a
    · subst z
      obtain ⟨u, hu, _⟩ := hb.there
      rw [hu]
      exact fun z => nomatch z
    · rw [hk b z]; exact h
  have other : ∀ {j : Nat} {o2 l2 : Bool} {d2 : D}, slot (e.set i (.mu o false d')) j = .mu o2 l2 d2 → i ≠ j → slot e j = .mu o2 l2 d2 := fun h ij => by rw [slot_set_ne ij] at h; exact h
  have sub : ∀ b, also Z (own (e.set i (.mu o false d')) σ) b → also Z (own e σ) b := fun b z => z.elim .inl fun z => .inr ((ow b).mp z)
  refine ⟨⟨by simp [rel.len], fun j d2 h => ?_, fun j o2 d2 h => ?_, fun j o2 d2 h => ?_, fun j k o2 d2 o3 d3 b h h' => ?_, fun b z => dm b (rel.dom b z)⟩, ⟨⟨fun b u h n => ?_, kp.tup⟩, dm, fun j d2 h => ?_, fun j o2 d2 h => ?_⟩⟩
  · by_cases ij : i = j
    · subst ij; rw [slot_set_same hi] at h; cases h
    · rw [slot_set_ne ij] at h
      obtain ⟨v, h1, h2⟩ := rel.pu j d2 h
      exact ⟨v, h1, h2.step kp⟩
  · by_cases ij : i = j
    · subst ij
      rw [slot_set_same hi] at h
      cases h
      exact ⟨a, ha, hb.anti sub, a3⟩
    · obtain ⟨b, h1, h2, h3⟩ := rel.mu j o2 d2 (other h ij)
      have ba : b ≠ a := fun z => ij (rel.inj i j o d o2 d2 a hs (other h ij) ha (z ▸ h1))
      exact ⟨b, h1, h2.step kp fun u hu => by rw [hk b ba]; exact hu, h3⟩
  · by_cases ij : i = j
    · subst ij; rw [slot_set_same hi] at h; cases h
    · obtain ⟨b, h1, h2, h3⟩ := rel.lk j o2 d2 (other h ij)
      have ba : b ≠ a := fun z => a3 (z ▸ h3)
      exact ⟨b, h1, h2.step kp fun u hu => by rw [hk b ba]; exact hu, h3⟩
  · intro q1 q2
    by_cases ij : i = j
    · subst ij
      by_cases ik : i = k
      · exact ik
      · exact rel.inj i k o d o3 d3 b hs (other h' ik) q1 q2
    · by_cases ik : i = k
      · subst ik
        exact rel.inj j i o2 d2 o d b (other h ij) hs q1 q2
      · exact rel.inj j k o2 d2 o3 d3 b (other h ij) (other h' ik) q1 q2
  · exact ⟨by rw [hk b fun z => n (z ▸ oa)]; exact h, fun z => n ((ow b).mp z)⟩
  · by_cases ij : i = j
    · subst ij
      rw [slot_set_same hi] at h
      cases h
      exact ⟨⟨d, hs⟩, rfl⟩
    · exact ⟨⟨d2, other h ij⟩, rfl⟩
  · by_cases ij : i = j
    · subst ij; rw [slot_set_same hi] at h; cases h
    · exact ⟨other h ij, rfl⟩
/-- what a slot's list is now -/
theorem list_at {e : Env} {σ : L2.St} {H : Hp} {i : Nat} {o l : Bool} {ds : List D} (rel : Rel G Z e σ H) (h : slot e i = .mu o l (.lst ds)) :
    ∃ a xs, σ[i]? = some (some (.ref a)) ∧ H a = some (.lst xs) ∧ Rps G (also Z (own e σ)) H ds xs := by
  obtain ⟨a, h1, xs, h2, h3⟩ := rel.box h
  exact ⟨a, xs, h1, h2, h3⟩
theorem isBox_at {e : Env} {i : Nat} (h : isBox e i = true) : ∃ o l ds, slot e i = .mu o l (.lst ds) := by
  unfold isBox at h
  cases hs : slot e i with
  | mu o l d =>
    rw [hs] at h
    cases d with
    | lst ds => exact ⟨o, l, ds, rfl⟩
    | _ => cases h
  | _ => rw [hs] at h; cases h
/-- a method of the list in slot i with one argument -/
theorem onList {o : Expr} {t : TA} {i : Nat} {f : E} {r : V → List V → Hp → VK → Prop} {k : R → Env → Out R} {σ : L2.St} {H : Hp} {Q : VK} {e : Env}
    (rel : Rel G Z e σ H) (q : Fin G Z XR W e σ H (guardB (isBox e i) ((ev C f e).bind k)) Q)
    (fin : ∀ a y r' e1 H1, σ[i]? = some (some (.ref a)) → Rel G Z e1 σ H1 → Stp e σ H e1 σ H1 → RR G Z e1 σ H H1 r' y → Fin G Z XR W e σ H (k r' e1) Q → r (.ref a) [y] H1 Q) :
    tBM X.K "list" r (tVar i) (tCons (tE G Z XR W (ev C f)) tNil) σ H Q := by
  unfold guardB at q
  by_cases hb : isBox e i = true
  · rw [if_pos hb] at q
    obtain ⟨o, l, ds, hs⟩ := isBox_at hb
    obtain ⟨a, xs, h1, h2, h3⟩ := list_at rel hs
    refine ⟨.ref a, h1, .inl ⟨rfl, xs, .of h2⟩, e, rel, (Fin.bind q).imp fun y H1 ⟨r', e1, _, rel1, st1, rr1, q1⟩ => ?_⟩
    exact fin a y r' e1 H1 h1 rel1 st1 rr1 q1
  · rw [if_neg hb] at q
    exact q.elim
theorem list_upd {e : Env} {σ : L2.St} {H : Hp} {i : Nat} {o : Bool} {ds ds' : List D} {l : Addr} {xs ys : List V} (rel : Rel G Z e σ H) (hs : slot e i = .mu o false (.lst ds)) (hl : σ[i]? = some (some (.ref l)))
    (h : H l = some (.lst xs)) (r : Rps G (also Z (own e σ)) H ds' ys) : Rel G Z (e.set i (.mu o false (.lst ds'))) σ (upd H l (.lst ys)) ∧ Stp e σ H (e.set i (.mu o false (.lst ds'))) σ (upd H l (.lst ys)) := by
  have same : ∀ b, b ≠ l → upd H l (.lst ys) b = H b := fun b z => upd_ne z
  have kp : Keeps (also Z (own e σ)) (also Z (own e σ)) H (upd H l (.lst ys)) := ⟨fun b u hb n => ⟨by rw [same b fun z => n (z ▸ .inr ⟨i, o, _, hs, hl⟩)]; exact hb, n⟩, fun b zs hb => hb.eq (same b fun z => by subst z; exact hb.ne h)⟩
  exact box_set rel hs hl same ⟨_, upd_same, r.step kp⟩
/-- a changed list is asked for: the slot's list, unlocked -/
theorem mu_at {e : Env} {i : Nat} {k : Bool → List D → Out R} {σ : L2.St} {H : Hp} {e0 : Env} {Q : VK} (q : Fin G Z XR W e0 σ H (match slot e i with
      | .mu o false (.lst l) => k o l
      | _ => .st) Q) : ∃ o ds, slot e i = .mu o false (.lst ds) ∧ Fin G Z XR W e0 σ H (k o ds) Q := by
  cases hs : slot e i with
  | mu o lck dd =>
    rw [hs] at q
    cases lck with
    | true => cases dd <;> exact q.elim
    | false =>
      cases dd with
      | lst ds => exact ⟨o, ds, rfl, q⟩
      | _ => exact q.elim
  | _ => rw [hs] at q; exact q.elim
theorem sE_app {x y : Expr} {i : Nat} {a : E} (hc : ∀ t, PA X [y] t → PE X x (tBM X.K "list" rAppend (tVar i) t)) (hs : starEach [y] X.env = (false, eval y X.env) :: starEach [] X.env)
    (ha : PE X y (tE G Z XR W (ev C a))) : PE X x (tE G Z XR W (ev C (.app i a))) := by
  refine pe_imp (hc _ (pa_cons ha pa_nil hs)) fun σ H Q ⟨e, rel, q⟩ => ?_
  unfold ev at q
  refine onList (o := x) (t := tNil) rel q fun l y r e1 H1 hl rel1 st1 rr1 q1 => ?_
  cases hk : keep e1 r with
  | none => rw [hk] at q1; exact q1.elim
  | some p =>
    obtain ⟨d, e2⟩ := p
    rw [hk] at q1
    obtain ⟨rel2, st2, rp, _⟩ := keep_ok rel1 rr1.weak hk
    obtain ⟨o, ds, hs2, q3⟩ := mu_at (k := fun o l => if l.length < lim then .ok (.v .non) (e2.set i (.mu o false (.lst (l ++ [d])))) else .st) q1
    by_cases hz : ds.length < lim
    · rw [if_pos hz] at q3
      obtain ⟨a2, xs, h1, h2, h3⟩ := list_at rel2 hs2
      rw [hl] at h1
      cases h1
      obtain ⟨rel3, st3⟩ := list_upd rel2 hs2 hl h2 (h3.append (.cons rp .nil))
      refine ⟨l, xs, y, rfl, rfl, h2, by rw [← h3.length, ← lim_eq]; exact hz, ?_⟩
      exact q3 .non _ rel3 ((st1.trans st2).trans st3) .non
    · rw [if_neg hz] at q3
      exact q3.elim
/-- a list's items, tracked or frozen -/
theorem Rt.list {H : Hp} {ds : List D} {v : V} (r : Rt G Z H (.lst ds) v) : ∃ a xs, v = .ref a ∧ Rd H a (.lst xs) ∧ Rps G Z H ds xs := by
  cases r with
  | rp r => cases r with
    | lst h n r => exact ⟨_, _, rfl, h, r⟩
  | bx e r => obtain ⟨xs, h, r⟩ := r; exact ⟨_, xs, e, .inl h, r⟩
theorem Rt.tup {H : Hp} {ds : List D} {v : V} (r : Rt G Z H (.tup ds) v) : ∃ a xs, v = .ref a ∧ Tu H a xs ∧ Rps G Z H ds xs := by
  cases r with
  | rp r => cases r with
    | tup h r => exact ⟨_, _, rfl, h, r⟩
  | bx e r => exact r.elim
theorem Rt.int {H : Hp} {i : Int} {v : V} (r : Rt G Z H (.int i) v) : v = .int i := by
  cases r with
  | rp r => cases r; rfl
  | bx e r => exact r.elim
theorem Rt.bl {H : Hp} {i : Bool} {v : V} (r : Rt G Z H (.bl i) v) : v = .bl i := by
  cases r with
  | rp r => cases r; rfl
  | bx e r => exact r.elim
/-- extend: as the layer's, from any list -/
def rExt : V → List V → Hp → VK → Prop := fun x vs H Q => ∃ l b xs zs, x = .ref l ∧ vs = [.ref b] ∧ H l = some (.lst xs) ∧ Rd H b (.lst zs) ∧ xs.length + zs.length ≤ sizeLine ∧ Q .non (upd H l (.lst (xs ++ zs)))
theorem sE_ext {x y : Expr} {i : Nat} {a : E} (hc : ∀ t, PA X [y] t → PE X x (tBM X.K "list" rExt (tVar i) t)) (hs : starEach [y] X.env = (false, eval y X.env) :: starEach [] X.env)
    (ha : PE X y (tE G Z XR W (ev C a))) : PE X x (tE G Z XR W (ev C (.ext i a))) := by
  refine pe_imp (hc _ (pa_cons ha pa_nil hs)) fun σ H Q ⟨e, rel, q⟩ => ?_
  unfold ev at q
  refine onList (o := x) (t := tNil) rel q fun l y r e1 H1 hl rel1 st1 rr1 q1 => ?_
  cases hk : look e1 r with
  | none => rw [hk] at q1; exact q1.elim
  | some d =>
    rw [hk] at q1
    cases d with
    | lst m =>
      have q2 : Fin G Z XR W e σ H (match slot e1 i with
        | .mu o false (.lst l) => if l.length + m.length ≤ lim then .ok (.v .non) (e1.set i (.mu o false (.lst (l ++ m)))) else .st
        | _ => .st) Q := by
        revert q1
        show Fin G Z XR W e σ H (match slot e1 i, D.lst m with
          | .mu o false (.lst l), .lst m => if l.length + m.length ≤ lim then .ok (.v .non) (e1.set i (.mu o false (.lst (l ++ m)))) else .st
          | _, _ => .st) Q → _
        cases slot e1 i with
        | mu o l d =>
          cases l with
          | true => cases d <;> exact fun q => q
          | false => cases d <;> exact fun q => q
        | _ => exact fun q => q
      obtain ⟨o, ds, hs2, q3⟩ := mu_at (k := fun o l => if l.length + m.length ≤ lim then .ok (.v .non) (e1.set i (.mu o false (.lst (l ++ m)))) else .st) q2
      obtain ⟨b, zs, e3, h4, h5⟩ := (rr1.look rel1 hk).list
      subst e3
      by_cases hz : ds.length + m.length ≤ lim
      · rw [if_pos hz] at q3
        obtain ⟨a2, xs, h1, h2, h3⟩ := list_at rel1 hs2
        rw [hl] at h1
        cases h1
        obtain ⟨rel3, st3⟩ := list_upd rel1 hs2 hl h2 (h3.append h5)
        refine ⟨l, b, xs, zs, rfl, rfl, h2, h4, by rw [← h3.length, ← h5.length, ← lim_eq]; exact hz, ?_⟩
        exact q3 .non _ rel3 (st1.trans st3) .non
      · rw [if_neg hz] at q3
        exact q3.elim
    | _ =>
      exfalso
      revert q1
      cases slot e1 i with
      | mu o l d =>
        cases l with
        | true => cases d <;> exact fun q => q
        | false => cases d <;> exact fun q => q
      | _ => exact fun q => q
/-- pop at a place -/
def rPopA : V → List V → Hp → VK → Prop := fun x vs H Q => ∃ l xs i k y, x = .ref l ∧ vs = [.int i] ∧ H l = some (.lst xs) ∧ ixN xs.length i = some k ∧ xs[k]? = some y ∧ Q y (upd H l (.lst (xs.eraseIdx k)))
theorem place_seq {n : Nat} {k : Int} {j : Nat} (h : place n k = some j) : ixN n k = some j := h
theorem sE_popa {x y : Expr} {i : Nat} {a : E} (hc : ∀ t, PA X [y] t → PE X x (tBM X.K "list" rPopA (tVar i) t)) (hs : starEach [y] X.env = (false, eval y X.env) :: starEach [] X.env)
    (ha : PE X y (tE G Z XR W (ev C a))) : PE X x (tE G Z XR W (ev C (.popa i a))) := by
  refine pe_imp (hc _ (pa_cons ha pa_nil hs)) fun σ H Q ⟨e, rel, q⟩ => ?_
  unfold ev at q
  refine onList (o := x) (t := tNil) rel q fun l y r e1 H1 hl rel1 st1 rr1 q1 => ?_
  cases hk : look e1 r with
  | none => rw [hk] at q1; exact q1.elim
  | some d =>
    rw [hk] at q1
    cases d with
    | int k =>
      obtain ⟨o, ds, hs2, q3⟩ := mu_at (k := fun o l => match place l.length k with
        | some j => (match l[j]? with
          | some d => .ok (.v d) (e1.set i (.mu o false (.lst (l.eraseIdx j))))
          | none => .st)
        | none => .st) q1
      cases hp : place ds.length k with
      | none => rw [hp] at q3; exact q3.elim
      | some j =>
        rw [hp] at q3
        cases hj : ds[j]? with
        | none =>
          have q4 : Fin G Z XR W e σ H (match ds[j]? with
            | some d => .ok (.v d) (e1.set i (.mu o false (.lst (ds.eraseIdx j))))
            | none => .st) Q := q3
          rw [hj] at q4
          exact q4.elim
        | some dj =>
          have q4 : Fin G Z XR W e σ H (match ds[j]? with
            | some d => .ok (.v d) (e1.set i (.mu o false (.lst (ds.eraseIdx j))))
            | none => .st) Q := q3
          rw [hj] at q4
          obtain ⟨a2, xs, h1, h2, h3⟩ := list_at rel1 hs2
          rw [hl] at h1
          cases h1
          obtain ⟨w, hw, rw'⟩ := h3.get hj
          obtain ⟨rel3, st3⟩ := list_upd rel1 hs2 hl h2 (h3.erase j)
          have ey : y = .int k := (rr1.look rel1 hk).int
          have hn : ixN xs.length k = some j := by rw [← h3.length]; exact place_seq hp
          refine ⟨l, xs, k, j, w, rfl, by rw [ey], h2, hn, hw, ?_⟩
          exact q4 w _ rel3 (st1.trans st3) (rw'.step (st3.also Z))
    | _ => exact q1.elim
theorem sE_pop {x : Expr} {i : Nat} (hc : PE X x (tBM0 X.K "list" rPop (tVar i))) : PE X x (tE G Z XR W (ev C (.pop i))) := by
  refine pe_imp hc fun σ H Q ⟨e, rel, q⟩ => ?_
  unfold ev at q
  obtain ⟨o, ds, hs2, q3⟩ := mu_at (k := fun o l => match l.getLast? with
    | some d => .ok (.v d) (e.set i (.mu o false (.lst l.dropLast)))
    | none => .st) q
  cases hg : ds.getLast? with
  | none => rw [hg] at q3; exact q3.elim
  | some d =>
    rw [hg] at q3
    obtain ⟨l, xs, hl, h2, h3⟩ := list_at rel hs2
    rw [List.getLast?_eq_getElem?] at hg
    obtain ⟨w, hw, rw'⟩ := h3.get hg
    obtain ⟨rel3, st3⟩ := list_upd rel hs2 hl h2 h3.dropLast
    refine ⟨.ref l, hl, .inl ⟨rfl, xs, .of h2⟩, l, xs, w, rfl, rfl, h2, by rw [← h3.length]; exact hw, ?_⟩
    exact q3 w _ rel3 st3 (rw'.step (st3.also Z))
variable (G) in
/-- remove: the first item that is equal -/
def rRem : V → List V → Hp → VK → Prop := fun x vs H Q => ∃ l xs y Z ds d j, x = .ref l ∧ vs = [y] ∧ H l = some (.lst xs) ∧ Rps G Z H ds xs ∧ Rt G Z H d y ∧ ds.all (fun z => eqOk z d) = true ∧ ds.findIdx? (fun z => z.eqv d) = some j ∧ Q .non (upd H l (.lst (xs.eraseIdx j)))
theorem sE_rem {x y : Expr} {i : Nat} {a : E} (hc : ∀ t, PA X [y] t → PE X x (tBM X.K "list" (rRem G) (tVar i) t)) (hs : starEach [y] X.env = (false, eval y X.env) :: starEach [] X.env)
    (ha : PE X y (tE G Z XR W (ev C a))) : PE X x (tE G Z XR W (ev C (.rem i a))) := by
  refine pe_imp (hc _ (pa_cons ha pa_nil hs)) fun σ H Q ⟨e, rel, q⟩ => ?_
  unfold ev at q
  refine onList (o := x) (t := tNil) rel q fun l y r e1 H1 hl rel1 st1 rr1 q1 => ?_
  cases hk : look e1 r with
  | none => rw [hk] at q1; exact q1.elim
  | some d =>
    rw [hk] at q1
    obtain ⟨o, ds, hs2, q3⟩ := mu_at (k := fun o l => if l.all (fun y => eqOk y d) then (match l.findIdx? fun y => y.eqv d with
        | some j => .ok (.v .non) (e1.set i (.mu o false (.lst (l.eraseIdx j))))
        | none => .st) else .st) q1
    by_cases ha : ds.all (fun y => eqOk y d) = true
    · rw [if_pos ha] at q3
      cases hf : ds.findIdx? (fun y => y.eqv d) with
      | none => rw [hf] at q3; exact q3.elim
      | some j =>
        rw [hf] at q3
        obtain ⟨a2, xs, h1, h2, h3⟩ := list_at rel1 hs2
        rw [hl] at h1
        cases h1
        obtain ⟨rel3, st3⟩ := list_upd rel1 hs2 hl h2 (h3.erase j)
        refine ⟨l, xs, y, _, ds, d, j, rfl, rfl, h2, h3, rr1.look rel1 hk, ha, hf, ?_⟩
        exact q3 .non _ rel3 (st1.trans st3) .non
    · rw [if_neg ha] at q3
      exact q3.elim
/-! count, index -/
variable (G) in
def rMt (f : D → D → Option R) : V → List V → Hp → VK → Prop := fun x vs H Q => ∃ y, vs = [y] ∧ r2 G f x y H Q
/-- a method of a list or a tuple with one argument, by values; ht: its type known ahead of the argument -/
theorem sE_mt {x o y : Expr} {f : D → D → Option R} {a b : E} (hc : ∀ to t, PE X o to → PA X [y] t → PE X x (fun σ H Q => to σ H fun u H1 => (∃ p xs, u = .ref p ∧ ((Rd H1 p (.lst xs)) ∨ Tu H1 p xs)) ∧ t σ H1 fun vs H2 => rMt G f u vs H2 Q))
    (hs : starEach [y] X.env = (false, eval y X.env) :: starEach [] X.env) (ha : PE X o (tE G Z XR W (ev C a))) (hb : PE X y (tE G Z XR W (ev C b))) {k : E}
    (hk : ∀ e, ev C k e = (ev C a e).bind fun r e1 => match look e1 r with
      | some c => if (items c).isSome then (ev C b e1).bind fun q e2 => (match look e2 r, look e2 q with
        | some x, some y => lift (f x y) e2
        | _, _ => .st) else .st
      | none => .st) : PE X x (tE G Z XR W (ev C k)) := by
  refine pe_imp (hc _ _ ha (pa_cons hb pa_nil hs)) fun σ H Q ⟨e, rel, q⟩ => ?_
  rw [hk] at q
  refine ⟨e, rel, (Fin.bind q).imp fun u H1 ⟨r, e1, _, rel1, st1, rr1, h1⟩ => ?_⟩
  cases k1 : look e1 r with
  | none => rw [k1] at h1; exact h1.elim
  | some c =>
    rw [k1] at h1
    have h1' : Fin G Z XR W e σ H (if (items c).isSome then (ev C b e1).bind fun q e2 => (match look e2 r, look e2 q with
        | some x, some y => lift (f x y) e2
        | _, _ => .st) else .st) Q := h1
    by_cases hi : (items c).isSome = true
    · rw [if_pos hi] at h1'
      have rt := rr1.look rel1 k1
      refine ⟨?_, e1, rel1, (Fin.bind (h1'.from st1)).imp fun w H2 ⟨s, e2, _, rel2, st2, rr2, h2⟩ => ?_⟩
      · cases c with
        | tup ds => obtain ⟨p, xs, e1, e2, _⟩ := rt.tup; exact ⟨p, xs, e1, .inr e2⟩
        | lst ds => obtain ⟨p, xs, e1, e2, _⟩ := rt.list; exact ⟨p, xs, e1, .inl e2⟩
        | _ => cases hi
      · have rr1' := rr1.later st2
        cases k2 : look e2 r with
        | none => rw [k2] at h2; exact h2.elim
        | some d1 =>
          cases k3 : look e2 s with
          | none => rw [k2, k3] at h2; exact h2.elim
          | some d2 =>
            rw [k2, k3] at h2
            obtain ⟨z, hz, q3⟩ := Fin.lift (h2.from st2) rel2
            exact ⟨w, rfl, _, d1, d2, rr1'.look rel2 k2, rr2.look rel2 k3, z, hz, q3⟩
    · rw [if_neg hi] at h1'
      exact h1'.elim
end
end Lt
end
section
set_option maxRecDepth 100000
namespace Lt
open PySem PySem.Spec PyProof.Rows L2
section
variable {G : Nat → Option Addr} {Z : Set1} {e e1 e2 : Env} {σ σ1 σ2 : L2.St} {H H1 H2 : Hp} {i : Nat} {d : D} {v : V} {a : Addr}

/-! a name is stored -/
theorem get_set_ne {σ : L2.St} {i j : Nat} {x : Option V} (h : i ≠ j) : (σ.set i x)[j]? = σ[j]? := List.getElem?_set_ne h
theorem set_ge {α : Type} {l : List α} {i : Nat} {x : α} (h : ¬ i < l.length) : l.set i x = l := List.set_eq_of_length_le (by omega)
theorem own_drop {x : Sl} {y : Option V} (hx : ∀ o d, x ≠ .mu o false d) : ∀ b, own (e.set i x) (σ.set i y) b → own e σ b := by
  rintro b ⟨j, o, d, h, q⟩
  by_cases ij : i = j
  · subst ij
    by_cases hi : i < e.length
    · rw [slot_set_same hi] at h; exact absurd h (hx o d)
    · rw [set_ge hi] at h
      by_cases hs : i < σ.length
      · have := slot_lt h fun z => nomatch z
        exact absurd this hi
      · rw [set_ge hs] at q
        exact ⟨i, o, d, h, q⟩
  · rw [slot_set_ne ij] at h
    rw [get_set_ne ij] at q
    exact ⟨j, o, d, h, q⟩
/-- a slot is given a value that stays, or nothing; the frame's slot anything where the slot is to hold nothing -/
theorem set_low {x : Sl} {y : Option V} (rel : Rel G Z e σ H) (hx : x = .no ∨ ∃ d v, x = .pu d ∧ y = some v ∧ Rp G (also Z (own e σ)) H d v) :
    Rel G Z (e.set i x) (σ.set i y) H ∧ Stp e σ H (e.set i x) (σ.set i y) H := by
  have nx : ∀ o l d, x ≠ .mu o l d := by
    rcases hx with rfl | ⟨d, v, rfl, _⟩ <;> exact fun _ _ _ z => nomatch z
  by_cases hi : i < e.length
  · have sub := own_drop (e := e) (σ := σ) (i := i) (x := x) (y := y) fun o d => nx o false d
    have sub2 : ∀ b, also Z (own (e.set i x) (σ.set i y)) b → also Z (own e σ) b := fun b z => z.elim .inl fun z => .inr (sub b z)
    have other : ∀ {j : Nat} {o l : Bool} {d : D}, slot (e.set i x) j = .mu o l d → i ≠ j ∧ slot e j = .mu o l d := fun {j o l d} h => by
      by_cases ij : i = j
      · subst ij; rw [slot_set_same hi] at h; exact absurd h (nx o l d)
      · rw [slot_set_ne ij] at h; exact ⟨ij, h⟩
    refine ⟨⟨by simp [rel.len], fun j d h => ?_, fun j o d h => ?_, fun j o d h => ?_, fun j k o d o' d' b h h' q q' => ?_, rel.dom⟩, ⟨⟨fun b u h n => ⟨h, fun z => n (sub b z)⟩, fun _ _ h => h⟩, fun _ h => h, fun j d h => ?_, fun j o d h => ?_⟩⟩
    · by_cases ij : i = j
      · subst ij
        rw [slot_set_same hi] at h
        rcases hx with rfl | ⟨d', v, rfl, rfl, r⟩
        · cases h
        · cases h
          exact ⟨v, List.getElem?_set_self (by rw [← rel.len]; exact hi), r.anti sub2⟩
      · rw [slot_set_ne ij] at h
        obtain ⟨v, h1, h2⟩ := rel.pu j d h
        exact ⟨v, by rw [get_set_ne ij]; exact h1, h2.anti sub2⟩
    · obtain ⟨ij, h⟩ := other h
      obtain ⟨b, h1, h2, h3⟩ := rel.mu j o d h
      exact ⟨b, by rw [get_set_ne ij]; exact h1, h2.anti sub2, h3⟩
    · obtain ⟨ij, h⟩ := other h
      obtain ⟨b, h1, h2, h3⟩ := rel.lk j o d h
      exact ⟨b, by rw [get_set_ne ij]; exact h1, h2.anti sub2, h3⟩
    · obtain ⟨ij, h⟩ := other h
      obtain ⟨ik, h'⟩ := other h'
      rw [get_set_ne ij] at q
      rw [get_set_ne ik] at q'
      exact rel.inj j k o d o' d' b h h' q q'
    · obtain ⟨ij, h⟩ := other h
      exact ⟨⟨d, h⟩, get_set_ne ij⟩
    · obtain ⟨ij, h⟩ := other h
      exact ⟨h, get_set_ne ij⟩
  · rw [set_ge hi, set_ge (by rw [← rel.len]; exact hi)]
    exact ⟨rel, .refl _ _ _⟩
/-- a slot is given a container to which nothing else leads -/
theorem set_high {e0 : Env} {σ0 : L2.St} {H0 : Hp} (rel : Rel G Z e σ H) (rel' : Rel G (plus Z a) e σ H) (na : ¬ Z a) (bx : Bx G (also (plus Z a) (own e σ)) H a d) (st : Stp e0 σ0 H0 e σ H) (hf : ∀ u, H0 a = some u → own e0 σ0 a) :
    Rel G Z (e.set i (.mu true false d)) (σ.set i (some (.ref a))) H ∧ Stp e0 σ0 H0 (e.set i (.mu true false d)) (σ.set i (some (.ref a))) H := by
  by_cases hi : i < e.length
  · have his : i < σ.length := by rw [← rel.len]; exact hi
    have sub : ∀ b, own (e.set i (.mu true false d)) (σ.set i (some (.ref a))) b → own e σ b ∨ b = a := by
      rintro b ⟨j, o, d', h, q⟩
      by_cases ij : i = j
      · subst ij
        rw [List.getElem?_set_self his] at q
        cases q
        exact .inr rfl
      · rw [slot_set_ne ij] at h
        rw [get_set_ne ij] at q
        exact .inl ⟨j, o, d', h, q⟩
    have sub2 : ∀ b, also Z (own (e.set i (.mu true false d)) (σ.set i (some (.ref a)))) b → also (plus Z a) (own e σ) b := fun b z => z.elim (fun z => .inl (.inl z)) fun z => (sub b z).elim .inr fun q => .inl (.inr q)
    refine ⟨⟨by simp [rel.len], fun j d2 h => ?_, fun j o d2 h => ?_, fun j o d2 h => ?_, fun j k o d2 o' d' b h h' q q' => ?_, rel.dom⟩, ⟨⟨fun b u h n => ?_, st.keep.tup⟩, st.dom, fun j d2 h => ?_, fun j o d2 h => ?_⟩⟩
    · by_cases ij : i = j
      · subst ij; rw [slot_set_same hi] at h; cases h
      · rw [slot_set_ne ij] at h
        obtain ⟨v, h1, h2⟩ := rel'.pu j d2 h
        exact ⟨v, by rw [get_set_ne ij]; exact h1, h2.anti sub2⟩
    · by_cases ij : i = j
      · subst ij
        rw [slot_set_same hi] at h
        cases h
        exact ⟨a, List.getElem?_set_self his, bx.anti sub2, na⟩
      · rw [slot_set_ne ij] at h
        obtain ⟨b, h1, h2, h3⟩ := rel'.mu j o d2 h
        exact ⟨b, by rw [get_set_ne ij]; exact h1, h2.anti sub2, fun z => h3 (.inl z)⟩
    · by_cases ij : i = j
      · subst ij; rw [slot_set_same hi] at h; cases h
      · rw [slot_set_ne ij] at h
        obtain ⟨b, h1, h2, _⟩ := rel'.lk j o d2 h
        obtain ⟨b', h1', _, h3⟩ := rel.lk j o d2 h
        rw [h1] at h1'
        cases h1'
        exact ⟨b, by rw [get_set_ne ij]; exact h1, h2.anti sub2, h3⟩
    · by_cases ij : i = j
      · subst ij
        by_cases ik : i = k
        · exact ik
        · rw [slot_set_ne ik] at h'
          rw [List.getElem?_set_self his] at q
          rw [get_set_ne ik] at q'
          cases q
          exact absurd ⟨k, o', d', h', q'⟩ rel'.apart
      · by_cases ik : i = k
        · subst ik
          rw [slot_set_ne ij] at h
          rw [List.getElem?_set_self his] at q'
          rw [get_set_ne ij] at q
          cases q'
          exact absurd ⟨j, o, d2, h, q⟩ rel'.apart
        · rw [slot_set_ne ij] at h
          rw [slot_set_ne ik] at h'
          rw [get_set_ne ij] at q
          rw [get_set_ne ik] at q'
          exact rel.inj j k o d2 o' d' b h h' q q'
    · obtain ⟨h1, h2⟩ := st.keep.keep b u h n
      refine ⟨h1, fun z => (sub b z).elim h2 fun q => ?_⟩
      subst q
      exact n (hf u h)
    · by_cases ij : i = j
      · subst ij; rw [slot_set_same hi] at h; cases h
      · rw [slot_set_ne ij] at h
        obtain ⟨h1, h2⟩ := st.io j d2 h
        exact ⟨h1, by rw [get_set_ne ij]; exact h2⟩
    · by_cases ij : i = j
      · subst ij; rw [slot_set_same hi] at h; cases h
      · rw [slot_set_ne ij] at h
        obtain ⟨h1, h2⟩ := st.lk j o d2 h
        exact ⟨h1, by rw [get_set_ne ij]; exact h2⟩
  · rw [set_ge hi, set_ge (by rw [← rel.len]; exact hi)]
    exact ⟨rel, st⟩
/-- a slot's container is set apart: its slot forgotten or locked -/
theorem hide {o : Bool} {x : Sl} (rel : Rel G Z e σ H) (hs : slot e i = .mu o false d) (hx : x = .no ∨ x = .mu o true d) :
    ∃ a, σ[i]? = some (some (.ref a)) ∧ ¬ Z a ∧ H a ≠ none ∧ own e σ a ∧ Bx G (also (plus Z a) (own (e.set i x) σ)) H a d ∧ Rel G (plus Z a) (e.set i x) σ H ∧ (∀ b, own (e.set i x) σ b → own e σ b) := by
  have hi : i < e.length := slot_lt hs fun z => nomatch z
  obtain ⟨a, a1, a2, a3⟩ := rel.mu i o d hs
  have oa : own e σ a := ⟨i, o, d, hs, a1⟩
  have nx : ∀ o d, x ≠ .mu o false d := by
    rcases hx with rfl | rfl <;> exact fun _ _ z => nomatch z
  have sub := own_set (e := e) (σ := σ) (i := i) (x := x) nx
  have sub2 : ∀ b, also (plus Z a) (own (e.set i x) σ) b → also Z (own e σ) b := fun b z => z.elim (fun z => z.elim .inl fun q => .inr (q ▸ oa)) fun z => .inr (sub b z)
  obtain ⟨u, hu, _⟩ := a2.there
  have hne : H a ≠ none := by rw [hu]; exact fun z => nomatch z
  have other : ∀ {j : Nat} {o' : Bool} {d' : D}, slot (e.set i x) j = .mu o' false d' → i ≠ j ∧ slot e j = .mu o' false d' := fun {j o' d'} h => by
    by_cases ij : i = j
    · subst ij; rw [slot_set_same hi] at h; exact absurd h (nx o' d')
    · rw [slot_set_ne ij] at h; exact ⟨ij, h⟩
  refine ⟨a, a1, a3, hne, oa, a2.anti sub2, ⟨by simp [rel.len], fun j d2 h => ?_, fun j o2 d2 h => ?_, fun j o2 d2 h => ?_, fun j k o2 d2 o' d' b h h' q q' => ?_, fun b z => z.elim (rel.dom b) fun q => q ▸ hne⟩, sub⟩
  · by_cases ij : i = j
    · subst ij
      rw [slot_set_same hi] at h
      rcases hx with rfl | rfl <;> cases h
    · rw [slot_set_ne ij] at h
      obtain ⟨v, h1, h2⟩ := rel.pu j d2 h
      exact ⟨v, h1, h2.anti sub2⟩
  · obtain ⟨ij, h⟩ := other h
    obtain ⟨b, h1, h2, h3⟩ := rel.mu j o2 d2 h
    exact ⟨b, h1, h2.anti sub2, fun z => z.elim h3 fun q => ij (rel.inj i j o d o2 d2 a hs h a1 (q ▸ h1))⟩
  · by_cases ij : i = j
    · subst ij
      rw [slot_set_same hi] at h
      rcases hx with rfl | rfl
      · cases h
      · cases h
        exact ⟨a, a1, a2.anti sub2, .inr rfl⟩
    · rw [slot_set_ne ij] at h
      obtain ⟨b, h1, h2, h3⟩ := rel.lk j o2 d2 h
      exact ⟨b, h1, h2.anti sub2, .inl h3⟩
  · obtain ⟨_, h⟩ := other h
    obtain ⟨_, h'⟩ := other h'
    exact rel.inj j k o2 d2 o' d' b h h' q q'
/-- name = r -/
theorem putR_ok {r : R} {ann : Bool} (rel : Rel G Z e1 σ H1) (st : Stp e σ H e1 σ H1) (q : RR G Z e1 σ H H1 r v) (h : putR e1 i ann r = some e2) :
    Rel G Z e2 (σ.set i (some v)) H1 ∧ Stp e σ H e2 (σ.set i (some v)) H1 := by
  have low : ∀ {d : D}, Rp G (also Z (own e1 σ)) H1 d v → Rel G Z (e1.set i (.pu d)) (σ.set i (some v)) H1 ∧ Stp e σ H (e1.set i (.pu d)) (σ.set i (some v)) H1 := fun {d} r => by
    obtain ⟨h1, h2⟩ := set_low (i := i) (x := .pu d) (y := some v) rel (.inr ⟨d, v, rfl, rfl, r⟩)
    exact ⟨h1, st.trans h2⟩
  unfold putR at h
  cases ann with
  | false =>
    rw [if_neg Bool.false_ne_true] at h
    cases hk : keep e1 r with
    | none => rw [hk] at h; cases h
    | some p =>
      obtain ⟨d, e3⟩ := p
      rw [hk] at h
      cases h
      obtain ⟨rel3, st3, rp, _⟩ := keep_ok rel q.weak hk
      obtain ⟨h1, h2⟩ := set_low (i := i) (x := .pu d) (y := some v) rel3 (.inr ⟨d, v, rfl, rfl, rp⟩)
      exact ⟨h1, (st.trans st3).trans h2⟩
  | true =>
    rw [if_pos rfl] at h
    cases r with
    | v d =>
      cases h
      exact low q
    | f d =>
      obtain ⟨a, h1, h2, h3, h4, h5⟩ := q
      have h' : (if boxed d = true then some (e1.set i (.mu true false d)) else some (e1.set i (.pu d))) = some e2 := h
      by_cases hb : boxed d = true
      · rw [if_pos hb] at h'
        cases h'
        subst h1
        exact set_high rel h5 h3 h4 st fun u hu => by rw [h2] at hu; cases hu
      · rw [if_neg hb] at h'
        cases d with
        | lst ds => exact absurd rfl hb
        | _ => exact h4.elim
    | s j =>
      have h' : (match slot e1 j with
        | .mu true false d => some ((e1.set j .no).set i (.mu true false d))
        | _ => none) = some e2 := h
      cases hs : slot e1 j with
      | mu o l d =>
        rw [hs] at h'
        cases o with
        | false => cases h'
        | true =>
          cases l with
          | true => cases h'
          | false =>
            cases h'
            obtain ⟨a, a1, a2, a3, a4, a5, a6, a7⟩ := hide rel hs (.inl rfl)
            have ev : some (some v) = some (some (V.ref a)) := (show σ[j]? = some (some v) from q).symm.trans a1
            cases ev
            obtain ⟨l1, l2⟩ := set_low (i := j) (x := .no) (y := some (V.ref a)) rel (.inl rfl)
            have hj : σ.set j (some (.ref a)) = σ := by
              apply List.ext_getElem?
              intro k
              by_cases jk : j = k
              · subst jk
                by_cases hl : j < σ.length
                · rw [List.getElem?_set_self hl, a1]
                · rw [set_ge hl]
              · rw [get_set_ne jk]
            rw [hj] at l1 l2
            refine set_high l1 a6 a2 a5 (st.trans l2) fun u hu => ?_
            exact Classical.byContradiction fun z => (st.keep.keep a u hu z).2 a4
      | _ => rw [hs] at h'; cases h'
end
end Lt
end
section
set_option maxRecDepth 100000
namespace Lt
open PySem PySem.Spec PyProof.Rows L2

/-! what was set apart comes back: from the later state (e', σ', Z') to the state (e, σ, Z) that it was made of, by the function bk -/
structure Back (G : Nat → Option Addr) (Z Z' : Set1) (e : Env) (σ : L2.St) (H : Hp) (e' : Env) (bk : Env → Env) (bs : L2.St → L2.St) : Prop where
  sub : ∀ b, Z b → Z' b
  run : ∀ (Y : Set1) e2 σ2 H2, (∀ b, Y b → ¬ Z' b) → Rel G (also Z' Y) e2 σ2 H2 → Stp e' σ H e2 σ2 H2 →
    Rel G (also Z Y) (bk e2) (bs σ2) H2 ∧ Stp e σ H (bk e2) (bs σ2) H2 ∧ ∀ b, also (also Z Y) (own (bk e2) (bs σ2)) b → also (also Z' Y) (own e2 σ2) b
section
variable {G : Nat → Option Addr} {Z Z' Z1 Z2 : Set1} {e e1 e2 : Env} {σ σ1 σ2 : L2.St} {H H1 H2 : Hp} {i : Nat} {d : D} {v : V} {a : Addr}
theorem plus_also (Z : Set1) (a : Addr) (Y : Set1) : also (plus Z a) Y = also (also Z Y) (fun b => b = a) := by
  funext b
  apply propext
  constructor
  · rintro ((h | h) | h)
    · exact .inl (.inl h)
    · exact .inr h
    · exact .inl (.inr h)
  · rintro ((h | h) | h)
    · exact .inl (.inl h)
    · exact .inr h
    · exact .inl (.inr h)
theorem also_none (Z : Set1) : also Z (fun _ => False) = Z := by
  funext b
  exact propext ⟨fun h => h.elim id fun z => z.elim, .inl⟩
theorem Back.refl : Back G Z Z e σ H e id id := ⟨fun _ h => h, fun Y e2 σ2 H2 _ rel st => ⟨rel, st, fun _ h => h⟩⟩
theorem Back.comp {bk bk' : Env → Env} (p : Back G Z Z1 e σ H e1 bk id) (q : Back G Z1 Z2 e1 σ H e2 bk' id) : Back G Z Z2 e σ H e2 (fun x => bk (bk' x)) id where
  sub := fun b h => q.sub b (p.sub b h)
  run := fun Y e3 σ3 H3 hy rel st => by
    obtain ⟨r1, s1, k1⟩ := q.run Y e3 σ3 H3 hy rel st
    obtain ⟨r2, s2, k2⟩ := p.run Y _ _ H3 (fun b h z => hy b h (q.sub b z)) r1 s1
    exact ⟨r2, s2, fun b h => k1 b (k2 b h)⟩
/-- one slot is locked -/
theorem lock1 {o : Bool} (rel : Rel G Z e σ H) (hs : slot e i = .mu o false d) : ∃ a, Rel G (plus Z a) (e.set i (.mu o true d)) σ H ∧ Back G Z (plus Z a) e σ H (e.set i (.mu o true d)) (fun x => unlock1 x i) id := by
  have hi : i < e.length := slot_lt hs fun z => nomatch z
  obtain ⟨a, a1, a2, a3, a4, a5, a6, a7⟩ := hide rel hs (.inr rfl)
  refine ⟨a, a6, fun _ h => .inl h, fun Y e2 σ2 H2 hy rel2 st => ?_⟩
  have ya : ¬ Y a := fun z => hy a z (.inr rfl)
  -- what is left of the step
  have keep0 : ∀ b u, H b = some u → ¬ own e σ b → H2 b = some u ∧ ¬ own e2 σ2 b := fun b u h n => st.keep.keep b u h fun z => n (a7 b z)
  have lk0 : ∀ j o' d', i ≠ j → slot e2 j = .mu o' true d' → slot e j = .mu o' true d' ∧ σ2[j]? = σ[j]? := fun j o' d' ij h => by
    obtain ⟨h1, h2⟩ := st.lk j o' d' h
    rw [slot_set_ne ij] at h1
    exact ⟨h1, h2⟩
  have io0 : ∀ j d', i ≠ j → slot e2 j = .mu false false d' → (∃ d, slot e j = .mu false false d) ∧ σ2[j]? = σ[j]? := fun j d' ij h => by
    obtain ⟨⟨d1, h1⟩, h2⟩ := st.io j d' h
    rw [slot_set_ne ij] at h1
    exact ⟨⟨d1, h1⟩, h2⟩
  have lkZ0 : ∀ j o' d' b, i ≠ j → slot e2 j = .mu o' true d' → σ2[j]? = some (some (.ref b)) → also Z Y b := fun j o' d' b ij h q => by
    obtain ⟨h1, h2⟩ := lk0 j o' d' ij h
    obtain ⟨b', k1, _, k3⟩ := rel.lk j o' d' h1
    rw [h2, k1] at q
    cases q
    exact .inl k3
  have less : ∀ b, also Z Y b → also (plus Z a) Y b := fun b z => z.elim (fun z => .inl (.inl z)) .inr
  show Rel G (also Z Y) (unlock1 e2 i) σ2 H2 ∧ Stp e σ H (unlock1 e2 i) σ2 H2 ∧ _
  by_cases hlk : ∃ o' d', slot e2 i = .mu o' true d'
  · obtain ⟨o', d', hl⟩ := hlk
    obtain ⟨h1, h2⟩ := st.lk i o' d' hl
    rw [slot_set_same hi] at h1
    cases h1
    have eu : unlock1 e2 i = e2.set i (.mu o false d) := by unfold unlock1; rw [hl]
    rw [eu]
    have hi2 : i < e2.length := slot_lt hl fun z => nomatch z
    have ha2 : σ2[i]? = some (some (.ref a)) := h2.trans a1
    have sub : ∀ b, own (e2.set i (.mu o false d)) σ2 b → own e2 σ2 b ∨ b = a := by
      rintro b ⟨j, o2, d2, h, q⟩
      by_cases ij : i = j
      · subst ij
        rw [ha2] at q
        cases q
        exact .inr rfl
      · rw [slot_set_ne ij] at h
        exact .inl ⟨j, o2, d2, h, q⟩
    have sub2 : ∀ b, also (also Z Y) (own (e2.set i (.mu o false d)) σ2) b → also (also (plus Z a) Y) (own e2 σ2) b := fun b z => z.elim (fun z => .inl (less b z)) fun z => (sub b z).elim .inr fun q => .inl (.inl (.inr q))
    have pz : also (plus Z a) Y a := .inl (.inr rfl)
    refine ⟨⟨by simp [rel2.len], fun j d2 h => ?_, fun j o2 d2 h => ?_, fun j o2 d2 h => ?_, fun j k o2 d2 o3 d3 b h h' q q' => ?_, fun b z => rel2.dom b (less b z)⟩, ⟨⟨fun b u h n => ?_, st.keep.tup⟩, st.dom, fun j d2 h => ?_, fun j o2 d2 h => ?_⟩, sub2⟩
    · by_cases ij : i = j
      · subst ij; rw [slot_set_same hi2] at h; cases h
      · rw [slot_set_ne ij] at h
        obtain ⟨w, w1, w2⟩ := rel2.pu j d2 h
        exact ⟨w, w1, w2.anti sub2⟩
    · by_cases ij : i = j
      · subst ij
        rw [slot_set_same hi2] at h
        cases h
        obtain ⟨b, b1, b2, _⟩ := rel2.lk i o d hl
        rw [ha2] at b1
        cases b1
        exact ⟨a, ha2, b2.anti sub2, fun z => z.elim a2 ya⟩
      · rw [slot_set_ne ij] at h
        obtain ⟨b, b1, b2, b3⟩ := rel2.mu j o2 d2 h
        exact ⟨b, b1, b2.anti sub2, fun z => b3 (less b z)⟩
    · by_cases ij : i = j
      · subst ij; rw [slot_set_same hi2] at h; cases h
      · rw [slot_set_ne ij] at h
        obtain ⟨b, b1, b2, b3⟩ := rel2.lk j o2 d2 h
        exact ⟨b, b1, b2.anti sub2, lkZ0 j o2 d2 b ij h b1⟩
    · by_cases ij : i = j
      · subst ij
        by_cases ik : i = k
        · exact ik
        · rw [slot_set_ne ik] at h'
          rw [ha2] at q
          cases q
          obtain ⟨b, b1, _, b3⟩ := rel2.mu k o3 d3 h'
          rw [q'] at b1
          cases b1
          exact absurd pz b3
      · by_cases ik : i = k
        · subst ik
          rw [slot_set_ne ij] at h
          rw [ha2] at q'
          cases q'
          obtain ⟨b, b1, _, b3⟩ := rel2.mu j o2 d2 h
          rw [q] at b1
          cases b1
          exact absurd pz b3
        · rw [slot_set_ne ij] at h
          rw [slot_set_ne ik] at h'
          exact rel2.inj j k o2 d2 o3 d3 b h h' q q'
    · obtain ⟨h1, h2⟩ := keep0 b u h n
      exact ⟨h1, fun z => (sub b z).elim h2 fun q => n (q ▸ a4)⟩
    · by_cases ij : i = j
      · subst ij
        rw [slot_set_same hi2] at h
        cases h
        exact ⟨⟨d, hs⟩, h2⟩
      · rw [slot_set_ne ij] at h
        exact io0 j d2 ij h
    · by_cases ij : i = j
      · subst ij; rw [slot_set_same hi2] at h; cases h
      · rw [slot_set_ne ij] at h
        exact lk0 j o2 d2 ij h
  · have eu : unlock1 e2 i = e2 := by
      unfold unlock1
      cases h : slot e2 i with
      | mu o' l' d' =>
        cases l' with
        | true => exact absurd ⟨o', d', h⟩ hlk
        | false => rfl
      | _ => rfl
    rw [eu]
    have ne : ∀ {j o' d'}, slot e2 j = .mu o' true d' → i ≠ j := fun {j o' d'} h z => hlk ⟨o', d', z ▸ h⟩
    refine ⟨rel2.less less fun j o' d' b h q => lkZ0 j o' d' b (ne h) h q, ⟨⟨keep0, st.keep.tup⟩, st.dom, fun j d2 h => ?_, fun j o2 d2 h => lk0 j o2 d2 (ne h) h⟩, fun b z => z.elim (fun z => .inl (less b z)) .inr⟩
    obtain ⟨⟨d1, h1⟩, h2⟩ := st.io j d2 h
    by_cases ij : i = j
    · subst ij
      rw [slot_set_same hi] at h1
      cases h1
    · rw [slot_set_ne ij] at h1
      exact ⟨⟨d1, h1⟩, h2⟩
theorem lockAll_ok : ∀ {rs : List R} {e : Env} {Z : Set1}, Rel G Z e σ H → ∃ Z', Rel G Z' (lockAll e rs).1 σ H ∧ Back G Z Z' e σ H (lockAll e rs).1 (fun x => unlock x (lockAll e rs).2) id
  | [], e, Z, rel => ⟨Z, rel, Back.refl⟩
  | .v d :: rs, e, Z, rel => lockAll_ok (rs := rs) rel
  | .f d :: rs, e, Z, rel => lockAll_ok (rs := rs) rel
  | .s i :: rs, e, Z, rel => by
    cases hs : slot e i with
    | mu o l d =>
      cases l with
      | true =>
        have : lockAll e (.s i :: rs) = lockAll e rs := by rw [lockAll, hs]
        rw [this]
        exact lockAll_ok (rs := rs) rel
      | false =>
        have : lockAll e (.s i :: rs) = ((lockAll (e.set i (.mu o true d)) rs).1, i :: (lockAll (e.set i (.mu o true d)) rs).2) := by rw [lockAll, hs]
        rw [this]
        obtain ⟨a, r1, b1⟩ := lock1 rel hs
        obtain ⟨Z', r2, b2⟩ := lockAll_ok (rs := rs) r1
        exact ⟨Z', r2, b1.comp b2⟩
    | no =>
      have : lockAll e (.s i :: rs) = lockAll e rs := by rw [lockAll, hs]
      rw [this]
      exact lockAll_ok (rs := rs) rel
    | pu d =>
      have : lockAll e (.s i :: rs) = lockAll e rs := by rw [lockAll, hs]
      rw [this]
      exact lockAll_ok (rs := rs) rel
/-- one slot is forgotten, here and in the frame, and given back -/
theorem wipe1 (rel : Rel G Z e σ H) : ∃ Z', Rel G Z' (e.set i .no) (σ.set i none) H ∧ (∀ b, Z b → Z' b) ∧ (∀ b, own (e.set i .no) (σ.set i none) b → own e σ b) ∧ (∀ b, Z' b → also Z (own e σ) b) ∧
    ∀ (Y : Set1) e2 H2, (∀ b, Y b → H b = none) → Rel G (also Z' Y) e2 (σ.set i none) H2 → Stp (e.set i .no) (σ.set i none) H e2 (σ.set i none) H2 →
      Rel G (also Z Y) (e2.set i (slot e i)) σ H2 ∧ Stp e σ H (e2.set i (slot e i)) σ H2 ∧ ∀ b, also (also Z Y) (own (e2.set i (slot e i)) σ) b → also (also Z' Y) (own e2 (σ.set i none)) b := by
  by_cases hi : i < e.length
  · have his : i < σ.length := by rw [← rel.len]; exact hi
    have osub := own_drop (e := e) (σ := σ) (i := i) (x := .no) (y := none) fun _ _ z => nomatch z
    -- the addresses set apart: that of the slot, if it may be changed
    have main : ∃ Z', (∀ b, Z b → Z' b) ∧ (∀ b, Z' b → Z b ∨ (own e σ b ∧ σ[i]? = some (some (.ref b)))) ∧ (∀ o d b, slot e i = .mu o false d → σ[i]? = some (some (.ref b)) → Z' b) ∧ Rel G Z' (e.set i .no) (σ.set i none) H := by
      by_cases hm : ∃ o d, slot e i = .mu o false d
      · obtain ⟨o, d, hs⟩ := hm
        obtain ⟨a, a1, a2, a3, a4, a5, a6, a7⟩ := hide rel hs (.inl rfl)
        refine ⟨plus Z a, fun _ h => .inl h, fun b h => h.elim .inl fun q => .inr (q ▸ ⟨a4, a1⟩), fun o' d' b _ q => ?_, ?_⟩
        · rw [a1] at q
          cases q
          exact .inr rfl
        · have := (set_low (i := i) (x := .no) (y := none) a6 (.inl rfl)).1
          rw [List.set_set] at this
          exact this
      · exact ⟨Z, fun _ h => h, fun b h => .inl h, fun o d b h _ => absurd ⟨o, d, h⟩ hm, (set_low (i := i) (x := .no) (y := none) rel (.inl rfl)).1⟩
    obtain ⟨Z', s1, s2, s3, rel'⟩ := main
    refine ⟨Z', rel', s1, osub, fun b h => (s2 b h).elim .inl fun z => .inr z.1, fun Y e2 H2 hy rel2 st => ?_⟩
    have hi2 : i < e2.length := by rw [rel2.len, List.length_set]; exact his
    have gs : ∀ {j : Nat}, i ≠ j → (σ.set i (none : Option V))[j]? = σ[j]? := fun ij => get_set_ne ij
    have n2 : ∀ {j b}, slot e2 j ≠ .no → (σ.set i (none : Option V))[j]? = some (some b) → i ≠ j := fun {j b} h q z => by
      subst z
      rw [List.getElem?_set_self his] at q
      cases q
    have ijm : ∀ {j o l d}, slot e2 j = .mu o l d → i ≠ j := fun {j o l d} h => by
      obtain ⟨b, b1, _⟩ := rel2.box h
      exact n2 (by rw [h]; exact fun z => nomatch z) b1
    have ijp : ∀ {j d}, slot e2 j = .pu d → i ≠ j := fun {j d} h => by
      obtain ⟨b, b1, _⟩ := rel2.pu j d h
      exact n2 (by rw [h]; exact fun z => nomatch z) b1
    have dom2 : ∀ b, H b ≠ none → H2 b ≠ none := st.dom
    have sub : ∀ b, own (e2.set i (slot e i)) σ b → own e2 (σ.set i none) b ∨ Z' b := by
      rintro b ⟨j, o, d, h, q⟩
      by_cases ij : i = j
      · subst ij
        rw [slot_set_same hi2] at h
        exact .inr (s3 o d b h q)
      · rw [slot_set_ne ij] at h
        exact .inl ⟨j, o, d, h, by rw [gs ij]; exact q⟩
    have less : ∀ b, also Z Y b → also Z' Y b := fun b z => z.elim (fun z => .inl (s1 b z)) .inr
    have sub2 : ∀ b, also (also Z Y) (own (e2.set i (slot e i)) σ) b → also (also Z' Y) (own e2 (σ.set i none)) b := fun b z => z.elim (fun z => .inl (less b z)) fun z => (sub b z).elim .inr fun z => .inl (.inl z)
    have ow : ∀ b, H b ≠ none → ¬ own e σ b → ¬ own (e2.set i (slot e i)) σ b := by
      rintro b hb n ⟨j, o, d, h, q⟩
      by_cases ij : i = j
      · subst ij
        rw [slot_set_same hi2] at h
        exact n ⟨i, o, d, h, q⟩
      · rw [slot_set_ne ij] at h
        cases hu : H b with
        | none => exact hb hu
        | some u => exact (st.keep.keep b u hu fun z => n (osub b z)).2 ⟨j, o, d, h, by rw [gs ij]; exact q⟩
    -- what the old slot's value was is kept
    have kp : Keeps (also Z (own e σ)) (also (also Z Y) (own (e2.set i (slot e i)) σ)) H H2 := ⟨fun b u h n => by
      have n1 : ¬ own e σ b := fun z => n (.inr z)
      have n2 : ¬ Y b := fun z => by
        rw [hy b z] at h
        exact (nomatch h)
      exact ⟨(st.keep.keep b u h fun z => n1 (osub b z)).1, fun z => z.elim (fun z => z.elim (fun z => n (.inl z)) n2) (ow b (by rw [h]; exact (fun z => nomatch z)) n1)⟩, st.keep.tup⟩
    have slotKeep : ∀ o l d a, slot e i = .mu o l d → σ[i]? = some (some (.ref a)) → ∀ u, H a = some u → H2 a = some u := fun o l d a hs ha u hu => by
      refine (st.keep.keep a u hu fun z => ?_).1
      obtain ⟨j, o', d', h, q⟩ := z
      by_cases ij : i = j
      · subst ij
        rw [slot_set_same hi] at h
        cases h
      · rw [slot_set_ne ij] at h
        rw [gs ij] at q
        cases l with
        | false => exact ij (rel.inj i j o d o' d' a hs h ha q)
        | true =>
          obtain ⟨b, b1, _, b3⟩ := rel.lk i o d hs
          rw [ha] at b1
          cases b1
          obtain ⟨b, b1, _, b4⟩ := rel.mu j o' d' h
          rw [q] at b1
          cases b1
          exact b4 b3
    refine ⟨⟨by simp [rel2.len], fun j d2 h => ?_, fun j o2 d2 h => ?_, fun j o2 d2 h => ?_, fun j k o2 d2 o3 d3 b h h' q q' => ?_, fun b z => rel2.dom b (less b z)⟩, ⟨⟨fun b u h n => ⟨(st.keep.keep b u h fun z => n (osub b z)).1, ow b (by rw [h]; exact fun z => nomatch z) n⟩, st.keep.tup⟩, dom2, fun j d2 h => ?_, fun j o2 d2 h => ?_⟩, sub2⟩
    · by_cases ij : i = j
      · subst ij
        rw [slot_set_same hi2] at h
        obtain ⟨w, w1, w2⟩ := rel.pu i d2 h
        exact ⟨w, w1, w2.step kp⟩
      · rw [slot_set_ne ij] at h
        obtain ⟨w, w1, w2⟩ := rel2.pu j d2 h
        exact ⟨w, by rw [← gs ij]; exact w1, w2.anti sub2⟩
    · by_cases ij : i = j
      · subst ij
        rw [slot_set_same hi2] at h
        obtain ⟨a, a1, a2, a3⟩ := rel.mu i o2 d2 h
        refine ⟨a, a1, a2.step kp (slotKeep o2 false d2 a h a1), fun z => z.elim a3 fun z => ?_⟩
        obtain ⟨u, hu, _⟩ := a2.there
        rw [hy a z] at hu
        cases hu
      · rw [slot_set_ne ij] at h
        obtain ⟨b, b1, b2, b3⟩ := rel2.mu j o2 d2 h
        exact ⟨b, by rw [← gs ij]; exact b1, b2.anti sub2, fun z => b3 (less b z)⟩
    · by_cases ij : i = j
      · subst ij
        rw [slot_set_same hi2] at h
        obtain ⟨a, a1, a2, a3⟩ := rel.lk i o2 d2 h
        exact ⟨a, a1, a2.step kp (slotKeep o2 true d2 a h a1), .inl a3⟩
      · rw [slot_set_ne ij] at h
        obtain ⟨b, b1, b2, b3⟩ := rel2.lk j o2 d2 h
        obtain ⟨h1, h2⟩ := st.lk j o2 d2 h
        rw [slot_set_ne ij] at h1
        obtain ⟨b', k1, _, k3⟩ := rel.lk j o2 d2 h1
        rw [gs ij] at b1
        rw [k1] at b1
        cases b1
        exact ⟨_, k1, b2.anti sub2, .inl k3⟩
    · have zb : ∀ {j o d}, i ≠ j → slot e2 j = .mu o false d → σ[j]? = some (some (.ref b)) → ¬ Z' b := fun {j o d} ij h q z => by
        obtain ⟨b', b1, _, b3⟩ := rel2.mu j o d h
        rw [gs ij, q] at b1
        cases b1
        exact b3 (.inl z)
      by_cases ij : i = j
      · subst ij
        by_cases ik : i = k
        · exact ik
        · rw [slot_set_same hi2] at h
          rw [slot_set_ne ik] at h'
          exact absurd (s3 o2 d2 b h q) (zb ik h' q')
      · by_cases ik : i = k
        · subst ik
          rw [slot_set_ne ij] at h
          rw [slot_set_same hi2] at h'
          exact absurd (s3 o3 d3 b h' q') (zb ij h q)
        · rw [slot_set_ne ij] at h
          rw [slot_set_ne ik] at h'
          exact rel2.inj j k o2 d2 o3 d3 b h h' (by rw [gs ij]; exact q) (by rw [gs ik]; exact q')
    · by_cases ij : i = j
      · subst ij
        rw [slot_set_same hi2] at h
        exact ⟨⟨d2, h⟩, rfl⟩
      · rw [slot_set_ne ij] at h
        obtain ⟨⟨d1, h1⟩, _⟩ := st.io j d2 h
        rw [slot_set_ne ij] at h1
        exact ⟨⟨d1, h1⟩, rfl⟩
    · by_cases ij : i = j
      · subst ij
        rw [slot_set_same hi2] at h
        exact ⟨h, rfl⟩
      · rw [slot_set_ne ij] at h
        obtain ⟨h1, _⟩ := st.lk j o2 d2 h
        rw [slot_set_ne ij] at h1
        exact ⟨h1, rfl⟩
  · have his : ¬ i < σ.length := by rw [← rel.len]; exact hi
    rw [set_ge hi, set_ge his]
    refine ⟨Z, rel, fun _ h => h, fun _ h => h, fun _ h => .inl h, fun Y e2 H2 hy rel2 st => ?_⟩
    rw [set_ge (by rw [rel2.len]; exact his)]
    exact ⟨rel2, st, fun _ h => h⟩
/-- several slots -/
theorem wipe_ok (rel : Rel G Z e σ H) : ∀ w : List Nat, ∃ Z', Rel G Z' (wiped e w) (wipe σ w) H ∧ (∀ b, Z b → Z' b) ∧ (∀ b, also Z' (own (wiped e w) (wipe σ w)) b → also Z (own e σ) b) ∧
    ∀ (Y : Set1) e2 H2, (∀ b, Y b → H b = none) → Rel G (also Z' Y) e2 (wipe σ w) H2 → Stp (wiped e w) (wipe σ w) H e2 (wipe σ w) H2 →
      Rel G (also Z Y) (restore e e2 w) σ H2 ∧ Stp e σ H (restore e e2 w) σ H2 ∧ ∀ b, also (also Z Y) (own (restore e e2 w) σ) b → also (also Z' Y) (own e2 (wipe σ w)) b
  | [] => ⟨Z, rel, fun _ h => h, fun _ h => h, fun Y e2 H2 hy rel2 st => ⟨rel2, st, fun _ h => h⟩⟩
  | i :: is => by
    obtain ⟨Z1, r1, s1, t1, b1⟩ := wipe_ok rel is
    obtain ⟨Z2, r2, s2, o2, t2, b2⟩ := wipe1 (i := i) r1
    refine ⟨Z2, r2, fun b h => s2 b (s1 b h), fun b h => t1 b (h.elim (t2 b) fun z => .inr (o2 b z)), fun Y e2 H2 hy rel2 st => ?_⟩
    obtain ⟨q1, q2, q3⟩ := b2 Y e2 H2 hy rel2 st
    obtain ⟨k1, k2, k3⟩ := b1 Y _ H2 hy q1 q2
    exact ⟨k1, k2, fun b h => q3 b (k3 b h)⟩
end
end Lt
end
section
set_option maxRecDepth 100000
namespace Lt
open PySem PySem.Spec PyProof.Rows L2

/-! what is walked -/
/-- a source: the container is none that may be changed -/
def Src (G : Nat → Option Addr) (M Z : Set1) (H : Hp) (d : D) (v : V) : Prop := match d with
  | .lst ds => ∃ a us, v = .ref a ∧ Rd H a (.lst us) ∧ ¬ M a ∧ Rps G (also Z M) H ds us
  | d => Rp G (also Z M) H d v
def Srcs (G : Nat → Option Addr) (M Z : Set1) (H : Hp) : List D → List V → Prop
  | [], [] => True
  | d :: ds, v :: vs => Src G M Z H d v ∧ Srcs G M Z H ds vs
  | _, _ => False
/-- an iterator that gives the items xs, as long as F holds -/
structure WalkD (G : Nat → Option Addr) (J : L2.It) (xs : List D) (F : Set1 → Set1 → Hp → Prop) : Prop where
  keep : ∀ M M' Z H H', Keeps M M' H H' → F M Z H → F M' Z H'
  go : ∀ M Z H i, F M Z H → i < xs.length → J.go i H
  stop : ∀ M Z H, F M Z H → J.stop xs.length H
  item : ∀ M Z H i d x H', F M Z H → xs[i]? = some d → J.yld i H x H' → New H H' ∧ Rp G (also Z M) H' d x
  away : ∀ M Z H H' a, H a = none → New H H' → F M Z H → F (plus M a) Z H'
  line : xs.length ≤ sizeLine
/-- an iterable, by values -/
def rIt (G : Nat → Option Addr) (k : It) : List V → Hp → (L2.It → Hp → Prop) → Prop := fun vs H R => ∃ M Z ds xs, Srcs G M Z H ds vs ∧ itD k ds = some xs ∧
  ∀ J F H', New H H' → WalkD G J xs F → F M Z H' → R J H'
section
variable {X : Cx} {G : Nat → Option Addr} {Z Z' : Set1} {XR : XRel} {W : WX} {C : Calls} {pos : Pos} {e e1 e2 : Env} {σ : L2.St} {H H1 H2 : Hp}
theorem lock_sub : ∀ {rs : List R} {e : Env} {Z : Set1}, Rel G Z e σ H → ∃ Z', Rel G Z' (lockAll e rs).1 σ H ∧ Back G Z Z' e σ H (lockAll e rs).1 (fun x => unlock x (lockAll e rs).2) id ∧ (∀ b, also Z' (own (lockAll e rs).1 σ) b → also Z (own e σ) b)
  | [], e, Z, rel => ⟨Z, rel, Back.refl, fun _ h => h⟩
  | .v d :: rs, e, Z, rel => lock_sub (rs := rs) rel
  | .f d :: rs, e, Z, rel => lock_sub (rs := rs) rel
  | .s i :: rs, e, Z, rel => by
    by_cases hm : ∃ o d, slot e i = .mu o false d
    · obtain ⟨o, d, hs⟩ := hm
      have this : lockAll e (.s i :: rs) = ((lockAll (e.set i (.mu o true d)) rs).1, i :: (lockAll (e.set i (.mu o true d)) rs).2) := by rw [lockAll, hs]
      rw [this]
      obtain ⟨a', a1, a2, a3, a4, a5, a6, a7⟩ := hide rel hs (.inr rfl)
      obtain ⟨a, r1, b1⟩ := lock1 rel hs
      obtain ⟨Z', r2, b2, s2⟩ := lock_sub (rs := rs) r1
      -- the address that was locked is the slot's own
      have ea : a = a' := by
        have hi : i < e.length := slot_lt hs fun z => nomatch z
        obtain ⟨c, c1, _, c3⟩ := r1.lk i o d (slot_set_same hi)
        rw [a1] at c1
        cases c1
        rcases c3 with z | z
        · exact absurd z a2
        · exact z.symm
      subst ea
      refine ⟨Z', r2, b1.comp b2, fun b h => (s2 b h).elim (fun z => z.elim .inl fun q => .inr (q ▸ a4)) fun z => .inr (a7 b z)⟩
    · have this : lockAll e (.s i :: rs) = lockAll e rs := by
        rw [lockAll]
        cases hs : slot e i with
        | mu o l d =>
          cases l with
          | true => rfl
          | false => exact absurd ⟨o, d, hs⟩ hm
        | _ => rfl
      rw [this]
      exact lock_sub (rs := rs) rel
/-- what is locked stays locked -/
theorem lock_stays : ∀ (rs : List R) (e : Env) {i : Nat} {o : Bool} {d : D}, slot e i = .mu o true d → slot (lockAll e rs).1 i = .mu o true d
  | [], e, i, o, d, h => h
  | .v _ :: rs, e, i, o, d, h => lock_stays rs e h
  | .f _ :: rs, e, i, o, d, h => lock_stays rs e h
  | .s j :: rs, e, i, o, d, h => by
    rw [lockAll]
    cases hs : slot e j with
    | mu o2 l d2 =>
      cases l with
      | true => exact lock_stays rs e h
      | false =>
        refine lock_stays rs _ ?_
        by_cases ij : j = i
        · subst ij; rw [hs] at h; cases h
        · rw [slot_set_ne ij]; exact h
    | _ => exact lock_stays rs e h
theorem lock_at : ∀ (rs : List R) (e : Env) {i : Nat} {o l : Bool} {d : D}, R.s i ∈ rs → slot e i = .mu o l d → slot (lockAll e rs).1 i = .mu o true d
  | [], _, _, _, _, _, h, _ => by cases h
  | .v _ :: rs, e, i, o, l, d, h, q => lock_at rs e (by simpa using h) q
  | .f _ :: rs, e, i, o, l, d, h, q => lock_at rs e (by simpa using h) q
  | .s j :: rs, e, i, o, l, d, h, q => by
    rw [lockAll]
    by_cases ij : j = i
    · subst ij
      cases l with
      | true => rw [q]; exact lock_stays rs e q
      | false => rw [q]; exact lock_stays rs _ (slot_set_same (slot_lt q fun z => nomatch z))
    · have h' : R.s i ∈ rs := by
        rcases List.mem_cons.mp h with z | z
        · cases z; exact absurd rfl ij
        · exact z
      cases hs : slot e j with
      | mu o2 l2 d2 =>
        cases l2 with
        | true => exact lock_at rs e h' q
        | false => exact lock_at rs _ h' (by rw [slot_set_ne ij]; exact q)
      | _ => exact lock_at rs e h' q
theorem srcs_ok {eL : Env} {H0 : Hp} (rel : Rel G Z e σ H1) (relL : Rel G Z' eL σ H1) (sub : ∀ b, also Z' (own eL σ) b → also Z (own e σ) b) :
    ∀ {rs : List R} {vs : List V} {ds : List D}, (∀ i o l d, R.s i ∈ rs → slot e i = .mu o l d → slot eL i = .mu o true d) → RWs G Z e σ H0 H1 rs vs → looks e rs = some ds → Srcs G (own eL σ) Z' H1 ds vs
  | [], [], ds, _, _, h => by cases h; exact trivial
  | r :: rs, v :: vs, ds, lk, q, h => by
    unfold looks at h
    cases h1 : look e r with
    | none => rw [h1] at h; cases h
    | some d =>
      cases h2 : looks e rs with
      | none => rw [h1, h2] at h; cases h
      | some ds1 =>
        rw [h1, h2] at h
        cases h
        refine ⟨?_, srcs_ok rel relL sub (fun i o l d hm => lk i o l d (List.mem_cons_of_mem _ hm)) q.2 h2⟩
        have rp : ∀ {d v}, Rp G (also Z (own e σ)) H1 d v → Src G (own eL σ) Z' H1 d v := fun {d v} r => by
          have r' := r.anti sub
          cases d with
          | lst l =>
            cases r' with
            | lst k1 k2 k3 => exact ⟨_, _, rfl, k1, fun z => k2 (.inr z), k3⟩
          | _ => exact r'
        cases r with
        | v d' => cases h1; exact rp q.1
        | f d' =>
          cases h1
          obtain ⟨a, k1, _, k3, k4⟩ := q.1
          subst k1
          exact rp (Bx.rp k3 k4)
        | s i =>
          cases hs : slot e i with
          | mu o l d' =>
            have h' : some d' = some d := by rw [← h1]; show _ = (match slot e i with | .mu _ _ d => some d | _ => none); rw [hs]
            cases h'
            have hl := lk i o l d (List.mem_cons_self) hs
            obtain ⟨a, k1, k2, k3⟩ := relL.lk i o d hl
            have : some (some v) = some (some (.ref a)) := q.1.symm.trans k1
            cases this
            cases d with
            | lst l' =>
              obtain ⟨us, u1, u2⟩ := k2
              refine ⟨a, us, rfl, .inl u1, ?_, u2⟩
              rintro ⟨j, o', d'', c1, c2⟩
              obtain ⟨b, b1, _, b3⟩ := relL.mu j o' d'' c1
              rw [c2] at b1
              cases b1
              exact b3 k3
            | _ => exact k2.elim
          | _ =>
            have h' : none = some d := by rw [← h1]; show _ = (match slot e i with | .mu _ _ d => some d | _ => none); rw [hs]
            cases h'
  | [], _ :: _, _, _, q, _ => q.elim
  | _ :: _, [], _, _, q, _ => q.elim

/-! a loop's names -/
mutual
def gT (K : PySem.W.Frag) : T → TG
  | .nm i => gName i
  | .tp t => gTup K (lenT t) (gTs K t)
  | _ => fun _ _ _ _ => False
def gTs (K : PySem.W.Frag) : T → TGs
  | .nil => gNil
  | .cons t u => gCons (gT K t) (gTs K u)
  | _ => fun _ _ _ _ => False
def lenT : T → Nat
  | .cons _ u => lenT u + 1
  | _ => 0
end
theorem asgs_len : ∀ {t : T} {l : List D} {e e' : Env}, asgs t l e = some e' → l.length = lenT t
  | .nil, [], _, _, _ => rfl
  | .cons t u, d :: l, e, e', h => by
    rw [asgs] at h
    cases h1 : asg t d e with
    | none => rw [h1] at h; cases h
    | some e1 => rw [h1] at h; exact congrArg (· + 1) (asgs_len (t := u) h)
  | .nil, _ :: _, _, _, h => by rw [asgs] at h <;> first | cases h | (intros; rename_i q; cases q)
  | .cons _ _, [], _, _, h => by rw [asgs] at h <;> first | cases h | (intros; rename_i q; cases q)
  | .nm _, _, _, _, h => by rw [asgs] at h <;> first | cases h | (intros; rename_i q; cases q)
  | .tp _, _, _, _, h => by rw [asgs] at h <;> first | cases h | (intros; rename_i q; cases q)
mutual
theorem asg_ok {K : PySem.W.Frag} : ∀ {t : T} {d : D} {v : V} {e e' : Env} {σ : L2.St} {Q : L2.St → Hp → Prop}, Rel G Z e σ H → Rp G (also Z (own e σ)) H d v → asg t d e = some e' →
    (∀ σ', Rel G Z e' σ' H → Stp e σ H e' σ' H → Q σ' H) → gT K t v σ H Q
  | .nm i, d, v, e, e', σ, Q, rel, r, h, q => by
    rw [asg] at h
    cases h
    rw [gT]
    obtain ⟨h1, h2⟩ := set_low (i := i) (x := .pu d) (y := some v) rel (.inr ⟨d, v, rfl, rfl, r⟩)
    exact q _ h1 h2
  | .tp t, .tup l, v, e, e', σ, Q, rel, r, h, q => by
    rw [asg] at h
    rw [gT]
    cases r with
    | tup h1 r1 =>
      exact ⟨_, _, rfl, .inl h1.rd, by rw [← r1.length, asgs_len h], asgs_ok rel r1 h q⟩
  | .tp t, .non, _, _, _, _, _, _, _, h, _ => by rw [asg] at h <;> first | cases h | (intros; rename_i q; cases q)
  | .tp t, .bl _, _, _, _, _, _, _, _, h, _ => by rw [asg] at h <;> first | cases h | (intros; rename_i q; cases q)
  | .tp t, .int _, _, _, _, _, _, _, _, h, _ => by rw [asg] at h <;> first | cases h | (intros; rename_i q; cases q)
  | .tp t, .str _, _, _, _, _, _, _, _, h, _ => by rw [asg] at h <;> first | cases h | (intros; rename_i q; cases q)
  | .tp t, .lst _, _, _, _, _, _, _, _, h, _ => by rw [asg] at h <;> first | cases h | (intros; rename_i q; cases q)
  | .tp t, .dic _, _, _, _, _, _, _, _, h, _ => by rw [asg] at h <;> first | cases h | (intros; rename_i q; cases q)
  | .tp t, .fn _, _, _, _, _, _, _, _, h, _ => by rw [asg] at h <;> first | cases h | (intros; rename_i q; cases q)
  | .tp t, .exc _ _, _, _, _, _, _, _, _, h, _ => by rw [asg] at h <;> first | cases h | (intros; rename_i q; cases q)
  | .nil, _, _, _, _, _, _, _, _, h, _ => by rw [asg] at h <;> first | cases h | (intros; rename_i q; cases q)
  | .cons _ _, _, _, _, _, _, _, _, _, h, _ => by rw [asg] at h <;> first | cases h | (intros; rename_i q; cases q)
theorem asgs_ok {K : PySem.W.Frag} : ∀ {t : T} {l : List D} {vs : List V} {e e' : Env} {σ : L2.St} {Q : L2.St → Hp → Prop}, Rel G Z e σ H → Rps G (also Z (own e σ)) H l vs → asgs t l e = some e' →
    (∀ σ', Rel G Z e' σ' H → Stp e σ H e' σ' H → Q σ' H) → gTs K t vs σ H Q
  | .nil, [], vs, e, e', σ, Q, rel, r, h, q => by
    rw [asgs] at h
    cases h
    rw [gTs]
    cases r
    exact ⟨rfl, q _ rel (.refl _ _ _)⟩
  | .cons t u, d :: l, vs, e, e', σ, Q, rel, r, h, q => by
    rw [asgs] at h
    rw [gTs]
    cases r with
    | cons r1 r2 =>
      cases h1 : asg t d e with
      | none => rw [h1] at h; cases h
      | some e1 =>
        rw [h1] at h
        exact ⟨_, _, rfl, asg_ok rel r1 h1 fun σ1 rel1 st1 => asgs_ok rel1 (r2.step (st1.also Z)) h fun σ2 rel2 st2 => q σ2 rel2 (st1.trans st2)⟩
  | .nil, _ :: _, _, _, _, _, _, _, _, h, _ => by rw [asgs] at h <;> first | cases h | (intros; rename_i q; cases q)
  | .cons _ _, [], _, _, _, _, _, _, _, h, _ => by rw [asgs] at h <;> first | cases h | (intros; rename_i q; cases q)
  | .nm _, _, _, _, _, _, _, _, _, h, _ => by rw [asgs] at h <;> first | cases h | (intros; rename_i q; cases q)
  | .tp _, _, _, _, _, _, _, _, _, h, _ => by rw [asgs] at h <;> first | cases h | (intros; rename_i q; cases q)
end
end
end Lt
end
section
set_option maxRecDepth 100000
namespace Lt
open PySem PySem.Spec PyProof.Rows L2
section
variable {X : Cx} {G : Nat → Option Addr} {Z Z' : Set1} {XR : XRel} {W : WX} {C : Calls} {pos : Pos} {e e1 e2 : Env} {σ σ1 : L2.St} {H H1 H2 : Hp}

/-! statements -/
theorem sSs_nil : PSs X [] (tS G Z XR W (es C .nil)) := by
  refine pss_imp pss_nil fun D σ H ⟨e, rel, q⟩ => ?_
  unfold es at q
  exact q σ H rel (.refl _ _ _)
theorem sSs_cons {x : Stmt} {xs : List Stmt} {s r : S} (hs : PS X x (tS G Z XR W (es C s))) (hr : PSs X xs (tS G Z XR W (es C r))) : PSs X (x :: xs) (tS G Z XR W (es C (.cons s r))) := by
  refine pss_imp (pss_cons hs hr) fun D σ H ⟨e, rel, q⟩ => ⟨e, rel, ?_⟩
  unfold es at q
  revert q
  cases es C s e with
  | nx e1 => exact fun q σ1 H1 rel1 st1 => ⟨e1, rel1, FinS.from q st1⟩
  | rt f d e1 => exact fun q => q
  | bk e1 => exact fun q => q
  | ct e1 => exact fun q => q
  | ex x e1 => exact fun q => q
  | st => exact fun q => q
theorem sS_pass : PS X (.Pass pos) (tS G Z XR W (es C .pass)) := by
  refine ps_imp ps_pass fun D σ H ⟨e, rel, q⟩ => ?_
  unfold es at q
  exact q σ H rel (.refl _ _ _)
theorem sS_brk : PS X (.Break pos) (tS G Z XR W (es C .brk)) := by
  refine ps_imp ps_break fun D σ H ⟨e, rel, q⟩ => ?_
  unfold es at q
  exact q σ H rel (.refl _ _ _)
theorem sS_cont : PS X (.Continue pos) (tS G Z XR W (es C .cont)) := by
  refine ps_imp ps_continue fun D σ H ⟨e, rel, q⟩ => ?_
  unfold es at q
  exact q σ H rel (.refl _ _ _)
theorem sS_ex {x : Expr} {a : E} (hs : swapsWith x none pos.line X.env = pure false) (ha : PE X x (tE G Z XR W (ev C a))) : PS X (.Expr x pos) (tS G Z XR W (es C (.ex a))) := by
  refine ps_imp (ps_expr ha hs) fun D σ H ⟨e, rel, q⟩ => ?_
  unfold es at q
  exact ⟨e, rel, (Fin.fl q).imp fun v H1 ⟨r, e1, _, rel1, st1, rr1, q1⟩ => q1 σ H1 rel1 st1⟩
theorem sS_set {i : Nat} {ann : Bool} {st : Stmt} {a : E} {te : TE} (hp : PS X st (tAsg te (gName i))) (imp : ∀ σ H Q, tE G Z XR W (ev C a) σ H Q → te σ H Q) : PS X st (tS G Z XR W (es C (.set i ann a))) := by
  refine ps_imp hp fun D σ H ⟨e, rel, q⟩ => imp _ _ _ ?_
  unfold es at q
  refine ⟨e, rel, (Fin.fl q).imp fun v H1 ⟨r, e1, _, rel1, st1, rr1, q1⟩ => ?_⟩
  cases h : putR e1 i ann r with
  | none => rw [h] at q1; exact q1.elim
  | some e2 =>
    rw [h] at q1
    obtain ⟨rel2, st2⟩ := putR_ok rel1 st1 rr1 h
    exact q1 _ H1 rel2 st2
theorem sS_tset {t : T} {x : Expr} {st : Stmt} {a : E} (hp : ∀ te, PE X x te → PS X st (tAsg te (gT X.K t))) (ha : PE X x (tE G Z XR W (ev C a))) : PS X st (tS G Z XR W (es C (.tset t a))) := by
  refine ps_imp (hp _ ha) fun D σ H ⟨e, rel, q⟩ => ?_
  unfold es at q
  refine ⟨e, rel, (Fin.fl q).imp fun v H1 ⟨r, e1, _, rel1, st1, rr1, q1⟩ => ?_⟩
  cases r with
  | v d =>
    have q2 : FinS G Z XR W e σ H (nxO (asg t d e1)) D := q1
    cases h : asg t d e1 with
    | none => rw [h] at q2; exact q2.elim
    | some e2 =>
      rw [h] at q2
      exact asg_ok rel1 rr1 h fun σ' rel' st' => q2 σ' H1 rel' (st1.trans st')
  | f d => exact q1.elim
  | s i => exact q1.elim
theorem sS_ret {x : Expr} {a : E} (ha : PE X x (tE G Z XR W (ev C a))) : PS X (.Return (some x) pos) (tS G Z XR W (es C (.ret a))) := by
  refine ps_imp (ps_ret ha) fun D σ H ⟨e, rel, q⟩ => ?_
  unfold es at q
  refine ⟨e, rel, (Fin.fl q).imp fun v H1 ⟨r, e1, _, rel1, st1, rr1, q1⟩ => ?_⟩
  cases r with
  | v d => exact q1 v σ H1 rel1 st1 rr1
  | f d =>
    obtain ⟨a, h1, h2, h3⟩ := rr1
    exact q1 v σ H1 rel1 st1 ⟨a, h1, .inl h2, h3⟩
  | s i =>
    have q2 : FinS G Z XR W e σ H (match slot e1 i with
      | .mu true false d => .rt true d (e1.set i .no)
      | _ => .st) D := q1
    cases hs : slot e1 i with
    | mu o l d =>
      rw [hs] at q2
      cases o with
      | false => exact q2.elim
      | true =>
        cases l with
        | true => exact q2.elim
        | false =>
          obtain ⟨a, a1, a2, a3, a4, a5, a6, a7⟩ := hide rel1 hs (.inl rfl)
          have ev : some (some v) = some (some (V.ref a)) := (show σ[i]? = some (some v) from rr1).symm.trans a1
          cases ev
          -- the slot is emptied: the frame is left
          have hj : σ.set i (some (.ref a)) = σ := by
            apply List.ext_getElem?
            intro k
            by_cases jk : i = k
            · subst jk
              by_cases hl : i < σ.length
              · rw [List.getElem?_set_self hl, a1]
              · rw [set_ge hl]
            · rw [get_set_ne jk]
          obtain ⟨l1, l2⟩ := set_low (i := i) (x := .no) (y := some (V.ref a)) rel1 (.inl rfl)
          rw [hj] at l1 l2
          refine q2 (.ref a) σ H1 l1 (st1.trans l2) ⟨a, rfl, ?_, a2, a5, a6⟩
          cases hu : H a with
          | none => exact .inl rfl
          | some u => exact .inr (Classical.byContradiction fun n => (st1.keep.keep a u hu n).2 a4)
    | _ => rw [hs] at q2; exact q2.elim
theorem sS_if {c : Expr} {xs ys : List Stmt} {k : E} {a b : S} (hc : PT X c (tB2 G Z XR W fun e => testR (ev C k e))) (ha : PSs X xs (tS G Z XR W (es C a))) (hb : PSs X ys (tS G Z XR W (es C b))) : PS X (.If c xs ys pos) (tS G Z XR W (es C (.ite k a b))) := by
  refine ps_imp (ps_if hc ha hb) fun D σ H ⟨e, rel, q⟩ => ⟨e, rel, ?_⟩
  unfold es at q
  refine (FinB.fl q).imp fun t H1 ⟨e1, _, rel1, st1, q1⟩ => ?_
  cases t with
  | true => rw [if_pos rfl]; exact ⟨e1, rel1, FinS.from q1 st1⟩
  | false => rw [if_neg Bool.false_ne_true]; exact ⟨e1, rel1, FinS.from q1 st1⟩

/-! while -/
theorem sS_wh {c : Expr} {xs : List Stmt} {k : E} {b : S} (hp : PassesOwn (model X.prog X.w) X.A X.env X.xe) (hc : PT X c (tB2 G Z XR W fun e => testR (ev C k e))) (hb : PSs X xs (tS G Z XR W (es C b))) :
    PS X (.While c xs [] pos) (tS G Z XR W (es C (.wh k b))) := by
  refine ps_imp (ps_while hp hc hb) fun D σ H ⟨e, rel, q⟩ => ?_
  unfold es at q
  refine ⟨fun m σ H => ∃ e, Rel G Z e σ H ∧ FinS G Z XR W e σ H (whGo (fun e1 => testR (ev C k e1)) (fun e1 => es C b e1) m e) D, ⟨_, e, rel, q⟩, ?_⟩
  rintro m σ H ⟨e, rel, q⟩
  cases m with
  | zero => exact q.elim
  | succ n =>
    refine ⟨e, rel, ?_⟩
    rw [whGo] at q
    refine (FinB.fl q).imp fun t H1 ⟨e1, _, rel1, st1, q1⟩ => ?_
    cases t with
    | false => rw [if_neg Bool.false_ne_true]; exact q1 σ H1 rel1 st1
    | true =>
      rw [if_pos rfl]
      refine ⟨fun σ' H' => ∃ e', Rel G Z e' σ' H' ∧ FinS G Z XR W e' σ' H' (whGo (fun e1 => testR (ev C k e1)) (fun e1 => es C b e1) n e') D, fun σ' H' h => ⟨n, Nat.lt_succ_self n, h⟩, e1, rel1, ?_⟩
      have q2 := FinS.from q1 st1
      revert q2
      show FinS G Z XR W e1 σ H1 (match es C b e1 with
        | .nx e2 => whGo (fun e1 => testR (ev C k e1)) (fun e1 => es C b e1) n e2
        | .ct e2 => whGo (fun e1 => testR (ev C k e1)) (fun e1 => es C b e1) n e2
        | .bk e2 => .nx e2
        | o => o) D → _
      cases es C b e1 with
      | nx e2 => exact fun q σ' H' r s => ⟨e2, r, FinS.from q s⟩
      | ct e2 => exact fun q σ' H' r s => ⟨e2, r, FinS.from q s⟩
      | bk e2 => exact fun q => q
      | rt f d e2 => exact fun q => q
      | ex x e2 => exact fun q => q
      | st => exact fun q => q

/-! for -/
theorem RWs.anyH {e : Env} {H' : Hp} : ∀ {rs : List R} {vs : List V}, RWs G Z e σ H H1 rs vs → RWs G Z e σ H H1 rs vs := fun q => q
theorem RT.less {fr : Bool} {d : D} {v : V} {e' e2 : Env} {σ2 : L2.St} {H2 : Hp} {bk : Env → Env} (b : Back G Z Z' e1 σ H1 e' bk id) (rel2 : Rel G Z' e2 σ2 H2) (st : Stp e' σ H1 e2 σ2 H2)
    (q : RT G Z' e' σ H1 e2 σ2 H2 fr d v) (ow : ∀ b, own e' σ b → own e1 σ b) : RT G Z e1 σ H1 (bk e2) σ2 H2 fr d v := by
  cases fr with
  | false =>
    obtain ⟨_, _, k3⟩ := b.run (fun _ => False) e2 σ2 H2 (fun _ z => z.elim) (by rw [also_none]; exact rel2) st
    rw [also_none, also_none] at k3
    exact Rp.anti k3 q
  | true =>
    obtain ⟨a, h1, h2, h3, h4, h5⟩ := q
    obtain ⟨k1, k2, k3⟩ := b.run (fun b => b = a) e2 σ2 H2 (fun b z => z ▸ h3) h5 st
    exact ⟨a, h1, h2.elim .inl fun z => .inr (ow a z), fun z => h3 (b.sub a z), Bx.anti h4 k3, k1⟩
/-- a statement's end is told from ahead of the locks -/
theorem FinS.unl {o : Fl} {D : Ends} {is : List Nat} {e' ei : Env} {σi : L2.St} {Hi : Hp} (b : Back G Z Z' e1 σ H1 e' (fun x => unlock x is) id) (ow : ∀ b, own e' σ b → own e1 σ b) (st : Stp e' σ H1 ei σi Hi)
    (h : FinS G Z XR W e1 σ H1 (o.unl is) D) : FinS G Z' XR W ei σi Hi o D := by
  have back : ∀ {e2 : Env} {σ2 : L2.St} {H2 : Hp}, Rel G Z' e2 σ2 H2 → Stp ei σi Hi e2 σ2 H2 → Rel G Z (unlock e2 is) σ2 H2 ∧ Stp e1 σ H1 (unlock e2 is) σ2 H2 := fun {e2 σ2 H2} r s => by
    obtain ⟨k1, k2, _⟩ := b.run (fun _ => False) e2 σ2 H2 (fun _ z => z.elim) (by rw [also_none]; exact r) (st.trans s)
    rw [also_none] at k1
    exact ⟨k1, k2⟩
  cases o with
  | nx e2 => exact fun σ' H' r s => let ⟨k1, k2⟩ := back r s; h σ' H' k1 k2
  | bk e2 => exact fun σ' H' r s => let ⟨k1, k2⟩ := back r s; h σ' H' k1 k2
  | ct e2 => exact fun σ' H' r s => let ⟨k1, k2⟩ := back r s; h σ' H' k1 k2
  | rt f d e2 => exact fun v σ' H' r s q => let ⟨k1, k2⟩ := back r s; h v σ' H' k1 k2 (RT.less b r (st.trans s) (q.back st) ow)
  | ex x e2 => exact fun cls dx σ' H' r s q => let ⟨k1, k2⟩ := back r s; h cls dx σ' H' k1 k2 q
  | st => exact h
/-- the sources of a loop, locked: what is known behind them -/
theorem locked_ok {rs : List R} {vs : List V} {ds : List D} (rel1 : Rel G Z e1 σ H1) (rr : RWs G Z e1 σ H H1 rs vs) (h : looks e1 rs = some ds) :
    ∃ Z', Rel G Z' (lockAll e1 rs).1 σ H1 ∧ Back G Z Z' e1 σ H1 (lockAll e1 rs).1 (fun x => unlock x (lockAll e1 rs).2) id ∧ Srcs G (own (lockAll e1 rs).1 σ) Z' H1 ds vs ∧ (∀ b, own (lockAll e1 rs).1 σ b → own e1 σ b) := by
  obtain ⟨Z', relL, b, s⟩ := lock_sub (rs := rs) rel1
  refine ⟨Z', relL, b, srcs_ok rel1 relL s (fun i o l d hm hs => lock_at rs e1 hm hs) rr h, ?_⟩
  rintro a ⟨i, o, d, hs, q⟩
  obtain ⟨c, c1, _, c3⟩ := relL.mu i o d hs
  rw [q] at c1
  cases c1
  rcases s a (.inr ⟨i, o, d, hs, q⟩) with z | z
  · exact absurd (b.sub a z) c3
  · exact z
theorem sS_for {tg iter : Expr} {xs : List Stmt} {t : T} {k : It} {l : E} {b : S} (hp : PassesOwn (model X.prog X.w) X.A X.env X.xe) (hc : X.calm = true)
    (hi : PI X tg iter (fun σ H R => tL G Z XR W (evl C l) σ H fun vs H1 => rIt G k vs H1 R)) (hg : PG X tg (gT X.K t)) (hs : ∀ x, foldedSetIterable iter X.env x = pure x)
    (hb : ∀ Z, PSs X xs (tS G Z XR W (es C b))) : PS X (.For tg iter xs [] pos) (tS G Z XR W (es C (.for t k l b))) := by
  refine ⟨fun pins s σ H D I ⟨e, rel, q⟩ => ?_⟩
  unfold es at q
  -- the set of addresses that the body is to leave alone is known behind the sources alone
  have body : ∃ tb : TS, PSs X xs tb ∧ ∀ D σ H, (∃ Z', tS G Z' XR W (es C b) D σ H) → tb D σ H :=
    ⟨fun D σ H => ∃ Z', tS G Z' XR W (es C b) D σ H, ⟨fun pins s σ H D I ⟨Z', h⟩ => (hb Z').run pins s σ H D I h⟩, fun D σ H h => h⟩
  obtain ⟨tb, hb', htb⟩ := body
  refine (ps_for hp hc hi hg hb' hs).run pins s σ H D I ⟨e, rel, (FinL.fl q).imp fun vs H1 ⟨rs, e1, _, rel1, st1, rr1, q1⟩ => ?_⟩
  cases hl : looks e1 rs with
  | none => rw [hl] at q1; exact q1.elim
  | some ds =>
    rw [hl] at q1
    cases hx : itD k ds with
    | none =>
      have q2 : FinS G Z XR W e σ H (match itD k ds with
        | some xs => (forGo (fun x e2 => match asg t x e2 with
          | some e3 => es C b e3
          | none => .st) xs (lockAll e1 rs).1).unl (lockAll e1 rs).2
        | none => .st) D := q1
      rw [hx] at q2
      exact q2.elim
    | some items =>
      have q2 : FinS G Z XR W e σ H (match itD k ds with
        | some xs => (forGo (fun x e2 => match asg t x e2 with
          | some e3 => es C b e3
          | none => .st) xs (lockAll e1 rs).1).unl (lockAll e1 rs).2
        | none => .st) D := q1
      rw [hx] at q2
      obtain ⟨Z', relL, back, srcs, ow⟩ := locked_ok rel1 (RRs.weak rr1) hl
      refine ⟨_, Z', ds, items, srcs, hx, fun J F H1' new wk f0 => ?_⟩
      have q3 := FinS.unl back ow (Stp.new new) (FinS.from q2 st1)
      refine ⟨fun i m σi Hi => m = items.length - i ∧ i ≤ items.length ∧ ∃ ei, Rel G Z' ei σi Hi ∧ F (own ei σi) Z' Hi ∧ FinS G Z' XR W ei σi Hi (forGo (fun x e2 => match asg t x e2 with
          | some e3 => es C b e3
          | none => .st) (items.drop i) ei) D, ⟨items.length, by simp, Nat.zero_le _, _, relL.new new, f0, q3⟩, ?_⟩
      rintro i m σi Hi ⟨hm, hle, ei, reli, fi, qi⟩
      by_cases hlt : i < items.length
      · refine .inr ⟨wk.go _ _ _ i fi hlt, fun σ' H' => ∃ e', Rel G Z' e' σ' H' ∧ F (own e' σ') Z' H' ∧ FinS G Z' XR W e' σ' H' (forGo (fun x e2 => match asg t x e2 with
          | some e3 => es C b e3
          | none => .st) (items.drop (i + 1)) e') D, fun σ' H' h => ⟨items.length - (i + 1), by omega, rfl, hlt, h⟩, fun x H' hy => ?_⟩
        have hd : items[i]? = some items[i] := List.getElem?_eq_getElem hlt
        obtain ⟨new', rp⟩ := wk.item _ _ _ i items[i] x H' fi hd hy
        have eq : items.drop i = items[i] :: items.drop (i + 1) := List.drop_eq_getElem_cons hlt
        rw [eq, forGo] at qi
        cases hasg : asg t items[i] ei with
        | none => rw [hasg] at qi; exact qi.elim
        | some e3 =>
          rw [hasg] at qi
          refine asg_ok (reli.new new') rp hasg fun σ2 rel2 st2 => htb _ _ _ ⟨Z', e3, rel2, ?_⟩
          have stA := (Stp.new (e := ei) (σ := σi) new').trans st2
          have q4 := FinS.from qi stA
          revert q4
          show FinS G Z' XR W e3 σ2 H' (match es C b e3 with
            | .nx e1 => forGo (fun x e2 => match asg t x e2 with
              | some e3 => es C b e3
              | none => .st) (items.drop (i + 1)) e1
            | .ct e1 => forGo (fun x e2 => match asg t x e2 with
              | some e3 => es C b e3
              | none => .st) (items.drop (i + 1)) e1
            | .bk e1 => .nx e1
            | o => o) D → _
          cases es C b e3 with
          | nx e4 => exact fun q σ' H2 r s => ⟨e4, r, wk.keep _ _ _ _ _ (stA.trans s).keep fi, FinS.from q s⟩
          | ct e4 => exact fun q σ' H2 r s => ⟨e4, r, wk.keep _ _ _ _ _ (stA.trans s).keep fi, FinS.from q s⟩
          | bk e4 => exact fun q => q
          | rt f d e4 => exact fun q => q
          | ex x e4 => exact fun q => q
          | st => exact fun q => q
      · have e0 : i = items.length := by omega
        subst e0
        refine .inl ⟨wk.stop _ _ _ fi, ?_⟩
        rw [List.drop_length, forGo] at qi
        exact qi σi Hi reli (.refl _ _ _)
end
end Lt
end
section
set_option maxRecDepth 100000
namespace Lt
open PySem PySem.Spec PyProof.Rows L2
section
variable {X : Cx} {G : Nat → Option Addr} {Z Z' : Set1} {XR : XRel} {W : WX} {C : Calls} {pos : Pos} {e e1 e2 : Env} {σ σ1 : L2.St} {H H1 H2 : Hp}
/-- no exception is let out -/
abbrev W0 : WX := fun _ _ _ _ => False
theorem FinB.nox {o : Out Bool} {Q : Bool → Hp → Prop} {α : Type} {k : Bool → Env → Out α} {P : Out α → Prop} (hs : P .st → False) (h : P (noEx (o.bind k)))
    (i : ∀ b e1, o = .ok b e1 → P (noEx (k b e1)) → ∀ H', Rel G Z e1 σ H' → Stp e σ H e1 σ H' → Q b H') : FinB G Z XR W0 e σ H o Q := by
  cases o with
  | ok b e1 => exact fun H' r s => i b e1 rfl h H' r s
  | ex x e1 => exact (hs h).elim
  | st => exact (hs h).elim
theorem Fin.nox {o : Out R} {Q : VK} {α : Type} {k : R → Env → Out α} {P : Out α → Prop} (hs : P .st → False) (h : P (noEx (o.bind k)))
    (i : ∀ r e1, o = .ok r e1 → P (noEx (k r e1)) → ∀ v H', Rel G Z e1 σ H' → Stp e σ H e1 σ H' → RR G Z e1 σ H H' r v → Q v H') : Fin G Z XR W0 e σ H o Q := by
  cases o with
  | ok r e1 => exact fun v H' a b c => i r e1 rfl h v H' a b c
  | ex x e1 => exact (hs h).elim
  | st => exact (hs h).elim
theorem wipe_idem {σ : L2.St} : ∀ {w : List Nat} {i : Nat} {x : Option V}, i ∈ w → wipe (σ.set i x) w = wipe σ w
  | [], _, _, h => by cases h
  | j :: w, i, x, h => by
    unfold wipe
    by_cases hm : i ∈ w
    · rw [wipe_idem hm]
    · rcases List.mem_cons.mp h with rfl | h
      · have : wipe (σ.set i x) w = (wipe σ w).set i x := by
          clear h
          induction w with
          | nil => rfl
          | cons k w ih =>
            have n1 : i ≠ k := fun z => hm (z ▸ List.mem_cons_self)
            have n2 : i ∉ w := fun z => hm (List.mem_cons_of_mem _ z)
            unfold wipe
            rw [ih n2, List.set_comm _ _ (fun z => n1 z.symm) ]
        rw [this, List.set_set]
      · exact absurd h hm
/-- which slots a target stores -/
def T.slots : T → List Nat
  | .nm i => [i]
  | .tp t => t.slots
  | .nil => []
  | .cons t u => t.slots ++ u.slots
mutual
theorem gT_wipe {K : PySem.W.Frag} {w : List Nat} : ∀ {t : T} {v : V} {σ : L2.St} {H : Hp} {Q : L2.St → Hp → Prop}, (∀ i ∈ t.slots, i ∈ w) → gT K t v σ H Q → gT K t v σ H fun σ' H' => wipe σ' w = wipe σ w ∧ Q σ' H'
  | .nm i, v, σ, H, Q, h, q => by
    rw [gT] at q ⊢
    exact ⟨wipe_idem (h i (by simp [T.slots])), q⟩
  | .tp t, v, σ, H, Q, h, q => by
    rw [gT] at q ⊢
    obtain ⟨a, xs, h1, h2, h3, h4⟩ := q
    exact ⟨a, xs, h1, h2, h3, gTs_wipe (t := t) (fun i hi => h i (by simpa [T.slots] using hi)) h4⟩
  | .nil, v, σ, H, Q, h, q => by rw [gT] at q <;> first | exact q.elim | (intros; rename_i q; cases q)
  | .cons _ _, v, σ, H, Q, h, q => by rw [gT] at q <;> first | exact q.elim | (intros; rename_i q; cases q)
theorem gTs_wipe {K : PySem.W.Frag} {w : List Nat} : ∀ {t : T} {vs : List V} {σ : L2.St} {H : Hp} {Q : L2.St → Hp → Prop}, (∀ i ∈ t.slots, i ∈ w) → gTs K t vs σ H Q → gTs K t vs σ H fun σ' H' => wipe σ' w = wipe σ w ∧ Q σ' H'
  | .nil, vs, σ, H, Q, h, q => by
    rw [gTs] at q ⊢
    exact ⟨q.1, rfl, q.2⟩
  | .cons t u, vs, σ, H, Q, h, q => by
    rw [gTs] at q ⊢
    obtain ⟨v, r, h1, h2⟩ := q
    refine ⟨v, r, h1, ?_⟩
    have a := gT_wipe (t := t) (w := w) (fun i hi => h i (by simp [T.slots, hi])) h2
    refine gT_mono (t := t) a fun σ1 H1 ⟨k1, k2⟩ => ?_
    have b := gTs_wipe (t := u) (w := w) (fun i hi => h i (by simp [T.slots, hi])) k2
    exact gTs_mono (t := u) b fun σ2 H2 ⟨l1, l2⟩ => ⟨l1.trans k1, l2⟩
  | .nm _, vs, σ, H, Q, h, q => by rw [gTs] at q <;> first | exact q.elim | (intros; rename_i q; cases q)
  | .tp _, vs, σ, H, Q, h, q => by rw [gTs] at q <;> first | exact q.elim | (intros; rename_i q; cases q)
theorem gT_mono {K : PySem.W.Frag} : ∀ {t : T} {v : V} {σ : L2.St} {H : Hp} {Q Q' : L2.St → Hp → Prop}, gT K t v σ H Q → (∀ σ' H', Q σ' H' → Q' σ' H') → gT K t v σ H Q'
  | .nm i, v, σ, H, Q, Q', q, m => by
    rw [gT] at q ⊢
    exact m _ _ q
  | .tp t, v, σ, H, Q, Q', q, m => by
    rw [gT] at q ⊢
    obtain ⟨a, xs, h1, h2, h3, h4⟩ := q
    exact ⟨a, xs, h1, h2, h3, gTs_mono (t := t) h4 m⟩
  | .nil, v, σ, H, Q, Q', q, m => by rw [gT] at q <;> first | exact q.elim | (intros; rename_i q; cases q)
  | .cons _ _, v, σ, H, Q, Q', q, m => by rw [gT] at q <;> first | exact q.elim | (intros; rename_i q; cases q)
theorem gTs_mono {K : PySem.W.Frag} : ∀ {t : T} {vs : List V} {σ : L2.St} {H : Hp} {Q Q' : L2.St → Hp → Prop}, gTs K t vs σ H Q → (∀ σ' H', Q σ' H' → Q' σ' H') → gTs K t vs σ H Q'
  | .nil, vs, σ, H, Q, Q', q, m => by
    rw [gTs] at q ⊢
    exact ⟨q.1, m _ _ q.2⟩
  | .cons t u, vs, σ, H, Q, Q', q, m => by
    rw [gTs] at q ⊢
    obtain ⟨v, r, h1, h2⟩ := q
    exact ⟨v, r, h1, gT_mono (t := t) h2 fun σ1 H1 k => gTs_mono (t := u) k m⟩
  | .nm _, vs, σ, H, Q, Q', q, m => by rw [gTs] at q <;> first | exact q.elim | (intros; rename_i q; cases q)
  | .tp _, vs, σ, H, Q, Q', q, m => by rw [gTs] at q <;> first | exact q.elim | (intros; rename_i q; cases q)
end
/-- the slots of a comprehension are emptied behind a turn -/
theorem wiped_low (rel : Rel G Z e σ H) : ∀ w : List Nat, Rel G Z (wiped e w) (wipe σ w) H ∧ Stp e σ H (wiped e w) (wipe σ w) H
  | [] => ⟨rel, .refl _ _ _⟩
  | i :: w => by
    obtain ⟨h1, h2⟩ := wiped_low rel w
    obtain ⟨k1, k2⟩ := set_low (i := i) (x := .no) (y := none) h1 (.inl rfl)
    exact ⟨k1, h2.trans k2⟩
theorem wipe_sub {σ : L2.St} {w : List Nat} : ∀ u : List Nat, (∀ i ∈ u, i ∈ w) → wipe (wipe σ u) w = wipe σ w
  | [], _ => rfl
  | i :: u, h => by
    have : wipe σ (i :: u) = (wipe σ u).set i none := rfl
    rw [this, wipe_idem (h i List.mem_cons_self)]
    exact wipe_sub u fun j hj => h j (List.mem_cons_of_mem _ hj)
theorem test_form {α : Type} {o : Out R} {k1 k2 : Env → Out α} : (o.bind fun r e4 => match look e4 r with
    | some x => (match truth x with
      | some true => k1 e4
      | some false => k2 e4
      | none => .st)
    | none => .st) = (testR o).bind fun b e => if b = true then k1 e else k2 e := by
  cases o with
  | st => rfl
  | ex x e => rfl
  | ok r e =>
    unfold testR
    show (match look e r with
      | some x => (match truth x with
        | some true => k1 e
        | some false => k2 e
        | none => .st)
      | none => .st) = Out.bind (match look e r with
      | some x => (match truth x with
        | some b => .ok b e
        | none => .st)
      | none => .st) _
    cases look e r with
    | none => rfl
    | some d =>
      show (match truth d with
        | some true => k1 e
        | some false => k2 e
        | none => .st) = Out.bind (match truth d with
        | some b => .ok b e
        | none => .st) _
      cases truth d with
      | none => rfl
      | some b => cases b <;> rfl
theorem Srcs.less {M M' Z Z' : Set1} (m : ∀ b, M' b → M b) (z : ∀ b, also Z' M' b → also Z M b) : ∀ {ds : List D} {vs : List V}, Srcs G M Z H ds vs → Srcs G M' Z' H ds vs
  | [], [], q => q
  | d :: ds, v :: vs, q => ⟨by
      have h := q.1
      cases d with
      | lst l => obtain ⟨a, us, h1, h2, h3, h4⟩ := h; exact ⟨a, us, h1, h2, fun k => h3 (m a k), h4.anti z⟩
      | _ => exact Rp.anti z h, Srcs.less m z q.2⟩
  | [], _ :: _, q => q
  | _ :: _, [], q => q
/-- a list that is set apart is filled -/
theorem Rel.fill {a : Addr} {xs ys : List V} (rel : Rel G (plus Z a) e σ H) (h : H a = some (.lst xs)) (lk : ∀ i o d b, slot e i = .mu o true d → σ[i]? = some (some (.ref b)) → b ≠ a) : Rel G (plus Z a) e σ (upd H a (.lst ys)) := by
  have na := rel.apart
  have same : ∀ b, b ≠ a → upd H a (.lst ys) b = H b := fun b z => upd_ne z
  have kp : Keeps (also (plus Z a) (own e σ)) (also (plus Z a) (own e σ)) H (upd H a (.lst ys)) := ⟨fun b u hb n => ⟨by rw [same b fun z => n (.inl (.inr z))]; exact hb, n⟩, fun b zs hb => hb.eq (same b fun z => by
    subst z
    obtain ⟨o', e', _⟩ := hb
    rw [h] at e'
    cases e')⟩
  refine ⟨rel.len, fun i d k => ?_, fun i o d k => ?_, fun i o d k => ?_, rel.inj, fun b z => ?_⟩
  · obtain ⟨v, k1, k2⟩ := rel.pu i d k
    exact ⟨v, k1, k2.step kp⟩
  · obtain ⟨b, k1, k2, k3⟩ := rel.mu i o d k
    exact ⟨b, k1, k2.step kp fun u hu => by rw [same b fun z => k3 (.inr z)]; exact hu, k3⟩
  · obtain ⟨b, k1, k2, k3⟩ := rel.lk i o d k
    exact ⟨b, k1, k2.step kp fun u hu => by rw [same b (lk i o d b k k1)]; exact hu, k3⟩
  · by_cases z' : b = a
    · subst z'; rw [upd_same]; exact (fun z => nomatch z)
    · rw [same b z']; exact rel.dom b z
theorem comp_lc {t : T} {k : It} {l a cond : E} {w : List Nat} {K : PySem.W.Frag} (ht : ∀ i ∈ t.slots, i ∈ w) {Q : VK} (h : tE G Z XR W (ev C (.comp a t w k l cond)) σ H Q) :
    tLc (fun σ H R => tL G Z XR W (evl C l) σ H fun vs H1 => rIt G k vs H1 R) (gT K t) (fun σ H Q => ∃ Z', tB2 G Z' XR W0 (fun e => testR (ev C cond e)) σ H Q) (fun σ H Q => ∃ Z', tE G Z' XR W0 (ev C a) σ H Q) w σ H Q := by
  obtain ⟨e, rel, q⟩ := h
  unfold ev at q
  refine ⟨e, rel, (FinL.bindR q).imp fun vs H1 ⟨rs, e1, _, rel1, st1, rr1, q1⟩ => ?_⟩
  cases hl : looks e1 rs with
  | none => rw [hl] at q1; exact q1.elim
  | some ds =>
    rw [hl] at q1
    cases hx : itD k ds with
    | none =>
      dsimp only at q1
      rw [hx] at q1
      exact q1.elim
    | some items =>
      dsimp only at q1
      rw [hx] at q1
      dsimp only at q1
      obtain ⟨ZL, relL, back, srcs, ow⟩ := locked_ok rel1 (RRs.weak rr1) hl
      obtain ⟨Zw, relw, subw, zw, bw⟩ := wipe_ok relL w
      have oww : ∀ b, own (wiped (lockAll e1 rs).1 w) (wipe σ w) b → own (lockAll e1 rs).1 σ b := fun b z => by
        obtain ⟨_, s⟩ := wiped_low relL w
        obtain ⟨i, o, d, k1, k2⟩ := z
        have : H1 b ≠ none := relw.odom b ⟨i, o, d, k1, k2⟩
        cases hb : H1 b with
        | none => exact absurd hb this
        | some u => exact Classical.byContradiction fun n => (s.keep.keep b u hb n).2 ⟨i, o, d, k1, k2⟩
      generalize hturn : (fun x e2 => noEx <| match asg t x e2 with
          | some e3 => (ev C cond e3).bind fun r e4 => match look e4 r with
            | some x => (match truth x with
              | some true => (ev C a e4).bind fun r e5 => match keep e5 r with
                | some (d, e6) => .ok (some d) (wiped e6 w)
                | none => .st
              | some false => .ok none (wiped e4 w)
              | none => .st)
            | none => .st
          | none => .st) = turn at q1
      refine ⟨own (wiped (lockAll e1 rs).1 w) (wipe σ w), Zw, ds, items, srcs.less oww zw, hx, fun J F H1' new wk f0 q0 hD => ?_⟩
      -- the new list is set apart from all
      have hD1 : H1 q0 = none := Classical.byContradiction fun z => new.dom q0 z hD
      have hD0 : H q0 = none := Classical.byContradiction fun z => st1.dom q0 z hD1
      have new2 : New H1' (upd H1' q0 (.lst [])) := New.upd hD
      have rel0 : Rel G (plus Zw q0) (wiped (lockAll e1 rs).1 w) (wipe σ w) (upd H1' q0 (.lst [])) := (relw.new new).away hD new2 (by rw [upd_same]; exact (fun z => nomatch z))
      have new3 : New H1 (upd H1' q0 (.lst [])) := fun b u hb => new2 b u (new b u hb)
      have lkne : ∀ {ei Hi}, Stp (wiped (lockAll e1 rs).1 w) (wipe σ w) H1 ei (wipe σ w) Hi → ∀ i o d b, slot ei i = .mu o true d → (wipe σ w)[i]? = some (some (.ref b)) → b ≠ q0 := fun {ei Hi} st i o d b h1 h2 z => by
        have := relw.lkZ st i o d b h1 h2
        subst z
        exact relw.dom b this hD1
      -- what the rest of the comprehension is to reach
      let Ko : Out (List D) → Prop := fun o => Fin G Z XR W e σ H (o.bind fun ds e7 => .ok (.f (.lst ds)) (unlock (restore (lockAll e1 rs).1 e7 w) (lockAll e1 rs).2)) Q
      refine ⟨fun i m Hi => m = items.length - i ∧ i ≤ items.length ∧ ∃ ei accD accV, Rel G (plus Zw q0) ei (wipe σ w) Hi ∧ Stp (wiped (lockAll e1 rs).1 w) (wipe σ w) H1 ei (wipe σ w) Hi ∧ F (plus (own ei (wipe σ w)) q0) Zw Hi ∧
        Hi q0 = some (.lst accV) ∧ Rps G (also (plus Zw q0) (own ei (wipe σ w))) Hi accD accV ∧ accV.length ≤ i ∧ Ko (compGo turn (items.drop i) accD.reverse ei),
        ⟨items.length, by simp, Nat.zero_le _, _, [], [], rel0, Stp.new new3, wk.away _ _ _ _ q0 hD new2 f0, upd_same, .nil, Nat.le_refl _, q1⟩, ?_⟩
      rintro i m Hi ⟨hm, hle, ei, accD, accV, reli, sti, fi, hDi, racc, lacc, ki⟩
      by_cases hlt : i < items.length
      · refine .inr ⟨wk.go _ _ _ i fi hlt, fun H' => ∃ e' accD accV, Rel G (plus Zw q0) e' (wipe σ w) H' ∧ Stp (wiped (lockAll e1 rs).1 w) (wipe σ w) H1 e' (wipe σ w) H' ∧ F (plus (own e' (wipe σ w)) q0) Zw H' ∧
          H' q0 = some (.lst accV) ∧ Rps G (also (plus Zw q0) (own e' (wipe σ w))) H' accD accV ∧ accV.length ≤ i + 1 ∧ Ko (compGo turn (items.drop (i + 1)) accD.reverse e'), fun H' hN => ⟨items.length - (i + 1), by omega, rfl, hlt, hN⟩, fun x H' hy => ?_⟩
        have hd : items[i]? = some items[i] := List.getElem?_eq_getElem hlt
        obtain ⟨new', rp⟩ := wk.item _ _ _ i items[i] x H' fi hd hy
        have rp' : Rp G (also (plus Zw q0) (own ei (wipe σ w))) H' items[i] x := rp.anti fun b z => z.elim (fun z => z.elim .inl fun q => .inr (.inr q)) fun z => .inr (.inl z)
        have eq : items.drop i = items[i] :: items.drop (i + 1) := List.drop_eq_getElem_cons hlt
        rw [eq, compGo] at ki
        -- the turn
        let P : Out (Option D) → Prop := fun o => Ko (o.bind fun o e1 => match o with
          | some d => compGo turn (items.drop (i + 1)) (d :: accD.reverse) e1
          | none => compGo turn (items.drop (i + 1)) accD.reverse e1)
        have hP0 : P .st → False := fun z => z
        have ki' : P (turn items[i] ei) := ki
        rw [← hturn] at ki'
        dsimp only at ki'
        cases hasg : asg t items[i] ei with
        | none => rw [hasg] at ki'; exact (hP0 ki').elim
        | some e3 =>
          rw [hasg] at ki'
          dsimp only at ki'
          rw [test_form] at ki'
          have hT : gT K t x (wipe σ w) H' fun σ2 H2 => Rel G (plus Zw q0) e3 σ2 H2 ∧ Stp ei (wipe σ w) H' e3 σ2 H2 ∧ H2 = H' := asg_ok (reli.new new') rp' hasg fun σ2 rel2 st2 => ⟨rel2, st2, rfl⟩
          refine gT_mono (gT_wipe ht hT) fun σ2 H2 ⟨hw2, rel2, st2, hH⟩ => ?_
          have hw3 : wipe σ2 w = wipe σ w := by rw [hw2]; exact wipe_sub w fun _ h => h
          refine ⟨hw3, ?_⟩
          subst hH
          dsimp only
          have stA : Stp ei (wipe σ w) Hi e3 σ2 H2 := (Stp.new new').trans st2
          refine ⟨_, e3, rel2, FinB.nox (P := P) hP0 ki' fun b e4 _ ki4 H3 rel4 st4 => ?_⟩
          cases b with
          | false =>
            rw [if_neg Bool.false_ne_true]
            rw [if_neg Bool.false_ne_true] at ki4
            have ki5 : Ko (compGo turn (items.drop (i + 1)) accD.reverse (wiped e4 w)) := ki4
            obtain ⟨rel5, st5⟩ := wiped_low rel4 w
            rw [hw3] at rel5 st5
            have stB := (stA.trans st4).trans st5
            have kD := stB.keep.keep q0 _ hDi reli.apart
            refine ⟨_, accD, accV, rel5, sti.trans stB, wk.keep _ _ _ _ _ ⟨fun b u hb n => ?_, stB.keep.tup⟩ fi, kD.1, racc.step (stB.also _), by omega, ki5⟩
            obtain ⟨k1, k2⟩ := stB.keep.keep b u hb fun z => n (.inl z)
            exact ⟨k1, fun z => z.elim k2 fun q => n (.inr q)⟩
          | true =>
            rw [if_pos rfl]
            rw [if_pos rfl] at ki4
            refine ⟨_, e4, rel4, Fin.nox (P := P) hP0 ki4 fun r e5 _ ki5 y H4 rel5 st5 rr5 => ?_⟩
            cases hk : keep e5 r with
            | none => rw [hk] at ki5; exact (hP0 ki5).elim
            | some p =>
              obtain ⟨d, e6⟩ := p
              rw [hk] at ki5
              have ki6 : Ko (compGo turn (items.drop (i + 1)) (d :: accD.reverse) (wiped e6 w)) := ki5
              obtain ⟨rel6, st6, rp6, _⟩ := keep_ok rel5 rr5.weak hk
              obtain ⟨rel7, st7⟩ := wiped_low rel6 w
              rw [hw3] at rel7 st7
              have stB := (((stA.trans st4).trans st5).trans st6).trans st7
              have kD := stB.keep.keep q0 _ hDi reli.apart
              have rp7 := rp6.step (st7.also (plus Zw q0))
              have racc7 := racc.step (stB.also (plus Zw q0))
              have stC := sti.trans stB
              have lk7 := lkne stC
              have same : ∀ b, b ≠ q0 → upd H4 q0 (.lst (accV ++ [y])) b = H4 b := fun b z => upd_ne z
              have kpD : Keeps (also (plus Zw q0) (own (wiped e6 w) (wipe σ w))) (also (plus Zw q0) (own (wiped e6 w) (wipe σ w))) H4 (upd H4 q0 (.lst (accV ++ [y]))) := ⟨fun b u hb n => ⟨by rw [same b fun z => n (.inl (.inr z))]; exact hb, n⟩, fun b zs hb => hb.eq (same b fun z => by subst z; exact hb.ne kD.1)⟩
              refine ⟨accV, kD.1, Nat.lt_of_le_of_lt lacc (Nat.lt_of_lt_of_le hlt wk.line), _, accD ++ [d], accV ++ [y], rel7.fill kD.1 lk7, ⟨⟨fun b u hb n => ?_, fun b zs hb => ?_⟩, fun b hb => ?_, stC.io, stC.lk⟩, wk.keep _ _ _ _ _ ⟨fun b u hb n => ?_, fun b zs hb => ?_⟩ fi, upd_same, (racc7.append (.cons rp7 .nil)).step kpD, by simp; omega, ?_⟩
              · obtain ⟨k1, k2⟩ := stC.keep.keep b u hb n
                exact ⟨by rw [same b fun z => by subst z; rw [hD1] at hb; cases hb]; exact k1, k2⟩
              · exact (stC.keep.tup b zs hb).eq (same b fun z => by subst z; obtain ⟨_, e', _⟩ := hb; rw [hD1] at e'; cases e')
              · by_cases z : b = q0
                · subst z; rw [upd_same]; exact (fun z => nomatch z)
                · rw [same b z]; exact stC.dom b hb
              · obtain ⟨k1, k2⟩ := stB.keep.keep b u hb fun z => n (.inl z)
                exact ⟨by rw [same b fun q => n (.inr q)]; exact k1, fun z => z.elim k2 fun q => n (.inr q)⟩
              · exact (stB.keep.tup b zs hb).eq (same b fun z => by subst z; obtain ⟨_, e', _⟩ := hb; rw [hDi] at e'; cases e')
              · rw [List.reverse_append]
                exact ki6
      · have e0 : i = items.length := by omega
        subst e0
        refine .inl ⟨wk.stop _ _ _ fi, ?_⟩
        rw [List.drop_length, compGo, List.reverse_reverse] at ki
        have ki' : Fin G Z XR W e σ H (.ok (.f (.lst accD)) (unlock (restore (lockAll e1 rs).1 ei w) (lockAll e1 rs).2)) Q := ki
        have dY : ∀ b, (fun b => b = q0 : Set1) b → H1 b = none := fun b z => z ▸ hD1
        obtain ⟨k1, k2, k3⟩ := bw (fun b => b = q0) ei Hi dY reli sti
        obtain ⟨l1, l2, l3⟩ := back.run (fun b => b = q0) _ σ Hi (fun b z n => relL.dom b n (dY b z)) k1 k2
        have stF := st1.trans l2
        have nZ : ¬ Z q0 := fun z => rel.dom q0 z hD0
        refine ki' (.ref q0) Hi (l1.less (fun b z => .inl z) (rel.lkZ stF)) stF ⟨q0, rfl, hD0, nZ, ⟨accV, hDi, racc.anti fun b z => ?_⟩, l1⟩
        exact k3 b (l3 b z)
end
end Lt
end
section
set_option maxRecDepth 100000
namespace Lt
open PySem PySem.Spec PyProof.Rows L2
section
variable {X : Cx} {G : Nat → Option Addr} {Z Z' : Set1} {XR : XRel} {W : WX} {C : Calls} {pos : Pos} {e e1 e2 : Env} {σ σ1 : L2.St} {H H1 H2 : Hp}
/-- the contexts of a comprehension's block -/
abbrev Blk (X : Cx) (scope : Scope) (P : Cx → Prop) : Prop := ∀ (s : Shared) (H : Hp) (Cc : Addr) (cl : List (Str × Addr)) (fp : List Addr), P (X.blk s H scope (compEnvC scope cl Cc X.env) fp)
theorem pe_any {X : Cx} {x : Expr} {f : Env → Out R} (h : ∀ Z, PE X x (tE G Z XR W f)) : PE X x (fun σ H Q => ∃ Z', tE G Z' XR W f σ H Q) := ⟨fun pins s σ H Q I ⟨Z', q⟩ => (h Z').run pins s σ H Q I q⟩
theorem pts_any {X : Cx} {x : List Expr} {f : Env → Out Bool} (h : ∀ Z, PTs X x (tB2 G Z XR W f)) : PTs X x (fun σ H Q => ∃ Z', tB2 G Z' XR W f σ H Q) := ⟨fun pins s σ H Q I ⟨Z', q⟩ => (h Z').run pins s σ H Q I q⟩
theorem pts_imp {X : Cx} {x : List Expr} {t t' : TT} (h : PTs X x t) (i : ∀ σ H Q, t' σ H Q → t σ H Q) : PTs X x t' := ⟨fun pins s σ H Q I q => h.run pins s σ H Q I (i σ H Q q)⟩
theorem sE_comp {elt tg iter : Expr} {ifs : List Expr} {scope : Scope} {ow : List (Str × Nat)} {t : T} {k : It} {l a cond : E} {w : List Nat} (hc : X.calm = true) (hN : X.N.Nodup)
    (hi : PI X tg iter (fun σ H R => tL G Z XR W (evl C l) σ H fun vs H1 => rIt G k vs H1 R)) (ok : BlkOk X.N X.env.scope scope ow) (hw : ow.map (·.2) = w) (ht : ∀ i ∈ t.slots, i ∈ w)
    (hs : ∀ x, foldedSetIterable iter X.env x = pure x) (hg : Blk X scope fun Y => PG Y tg (gT X.K t))
    (htest : ∀ Z, Blk X scope fun Y => PTs Y ifs (tB2 G Z XR W0 fun e => testR (ev C cond e))) (helt : ∀ Z, Blk X scope fun Y => PE Y elt (tE G Z XR W0 (ev C a))) :
    PE X (.ListComp elt [⟨tg, iter, ifs, 0⟩] scope pos) (tE G Z XR W (ev C (.comp a t w k l cond))) := by
  subst hw
  exact pe_imp (pe_lc hc hN hi ok hg (fun s H Cc cl fp => pts_any fun Z => htest Z s H Cc cl fp) (fun s H Cc cl fp => pe_any fun Z => helt Z s H Cc cl fp) hs) fun σ H Q h => comp_lc ht h
theorem sS_setC {i : Nat} {y : Str} {py : Pos} {ann : Bool} {elt tg iter : Expr} {ifs : List Expr} {scope : Scope} {spos : Pos} {ow : List (Str × Nat)} {t : T} {k : It} {l a cond : E} {w : List Nat} (hc : X.calm = true) (hN : X.N.Nodup)
    (hy : X.N[i]? = some y) (hyl : X.env.scope.names.lookup y = some .local) (hsw : swapsWith (.ListComp elt [⟨tg, iter, ifs, 0⟩] scope pos) (some (.Name y py)) spos.line X.env = pure true)
    (hi : PI X tg iter (fun σ H R => tL G Z XR W (evl C l) σ H fun vs H1 => rIt G k vs H1 R)) (ok : BlkOk X.N X.env.scope scope ow) (hw : ow.map (·.2) = w) (ht : ∀ i ∈ t.slots, i ∈ w)
    (hs : ∀ x, foldedSetIterable iter X.env x = pure x) (hg : Blk X scope fun Y => PG Y tg (gT X.K t))
    (htest : ∀ Z, Blk X scope fun Y => PTs Y ifs (tB2 G Z XR W0 fun e => testR (ev C cond e))) (helt : ∀ Z, Blk X scope fun Y => PE Y elt (tE G Z XR W0 (ev C a))) :
    PS X (.Assign [.Name y py] (.ListComp elt [⟨tg, iter, ifs, 0⟩] scope pos) spos) (tS G Z XR W (es C (.set i ann (.comp a t w k l cond)))) := by
  subst hw
  exact sS_set (ps_setLc hc hN hy hyl hsw hi ok hg (fun s H Cc cl fp => pts_any fun Z => htest Z s H Cc cl fp) (fun s H Cc cl fp => pe_any fun Z => helt Z s H Cc cl fp) hs) fun σ H Q h => comp_lc ht h

/-! calls -/
/-- arguments: those that may be changed stand at the addresses as -/
def inA (as : List Addr) : Set1 := fun b => b ∈ as
inductive Ars (G : Nat → Option Addr) (Z : Set1) (as0 : List Addr) (H : Hp) : List Bool → List D → List V → List Addr → Prop
  | nil : Ars G Z as0 H [] [] [] []
  | val {d : D} {v : V} {bs : List Bool} {ds : List D} {vs : List V} {as : List Addr} : Rp G (also Z (inA as0)) H d v → Ars G Z as0 H bs ds vs as → Ars G Z as0 H (false :: bs) (d :: ds) (v :: vs) as
  | chg {d : D} {a : Addr} {bs : List Bool} {ds : List D} {vs : List V} {as : List Addr} : Bx G (also Z (inA as0)) H a d → ¬ Z a → a ∉ as → Ars G Z as0 H bs ds vs as → Ars G Z as0 H (true :: bs) (d :: ds) (.ref a :: vs) (a :: as)
def Outs (G : Nat → Option Addr) (Z : Set1) (H : Hp) : List Addr → List D → Prop
  | [], [] => True
  | a :: as, d :: ds => Bx G Z H a d ∧ Outs G Z H as ds
  | _, _ => False
/-- what a call leaves as it was -/
structure Left (as : List Addr) (H H' : Hp) : Prop where
  keep : ∀ b o, H b = some o → b ∉ as → H' b = some o
  tup : ∀ b xs, Tu H b xs → Tu H' b xs
  dom : ∀ b, H b ≠ none → H' b ≠ none
/-- what a def promises -/
def prom (G : Nat → Option Addr) (XR : XRel) (C : Calls) (f : Nat) (io : List Bool) : Sp := fun vs H Q E => ∃ (Z : Set1) (ds : List D) (as : List Addr), Ars G Z as H io ds vs as ∧ (∀ b, Z b → H b ≠ none) ∧ match C f ds with
  | .rt fr d outs => ∀ v H', Left as H H' → (match fr with
      | false => Rp G (also Z (inA as)) H' d v ∧ Outs G (also Z (inA as)) H' as outs
      | true => ∃ a, v = .ref a ∧ H a = none ∧ Bx G (also (plus Z a) (inA as)) H' a d ∧ Outs G (also (plus Z a) (inA as)) H' as outs) → Q v H'
  | .ex x => ∀ cls dx H', Left as H H' → XR x cls dx H' → E cls dx H'
  | .st => False
end
end Lt
end
section
set_option maxRecDepth 100000
namespace Lt
open PySem PySem.Spec PyProof.Rows L2
section
variable {X : Cx} {G : Nat → Option Addr} {Z Z' : Set1} {XR : XRel} {W : WX} {C : Calls} {pos : Pos} {e e1 e2 : Env} {σ σ1 : L2.St} {H H1 H2 : Hp}
/-- the address in a slot -/
def adr (σ : L2.St) (i : Nat) : Option Addr := match σ[i]? with
  | some (some (.ref a)) => some a
  | _ => none
theorem adr_of {σ : L2.St} {i : Nat} {a : Addr} (h : σ[i]? = some (some (.ref a))) : adr σ i = some a := by unfold adr; rw [h]
/-- the addresses of the arguments that may be changed -/
def chgA (σ : L2.St) (as : List Ar) : List Addr := (chgs as).filterMap (adr σ)
theorem chgA_val {d : D} {as : List Ar} : chgA σ (.val d :: as) = chgA σ as := rfl
theorem chgA_bor {i : Nat} {d : D} {as : List Ar} : chgA σ (.bor i d :: as) = chgA σ as := rfl
theorem chgA_chg {i : Nat} {d : D} {as : List Ar} {a : Addr} (h : σ[i]? = some (some (.ref a))) : chgA σ (.chg i d :: as) = a :: chgA σ as := by
  show (i :: chgs as).filterMap (adr σ) = _
  rw [List.filterMap_cons, adr_of h]
  rfl
theorem mem_chgA {as : List Ar} {b : Addr} (h : b ∈ chgA σ as) : ∃ i ∈ chgs as, adr σ i = some b := by
  obtain ⟨i, h1, h2⟩ := List.mem_filterMap.mp h
  exact ⟨i, h1, h2⟩
theorem adr_at {σ : L2.St} {i : Nat} {a : Addr} (h : adr σ i = some a) : σ[i]? = some (some (.ref a)) := by
  unfold adr at h
  split at h
  · next q => cases h; exact q
  · cases h
/-- what arguments came of -/
theorem arg_chg {io : Bool} {r : R} {i : Nat} {d : D} (h : arg e io r = some (.chg i d)) : io = true ∧ r = .s i ∧ ∃ o, slot e i = .mu o false d := by
  cases io with
  | false =>
    cases r with
    | v d => cases h
    | f d => cases h
    | s j =>
      have h' : (match slot e j with | .mu _ _ d => some (Ar.bor j d) | _ => none) = some (.chg i d) := h
      split at h' <;> cases h'
  | true =>
    cases r with
    | v d => cases h
    | f d' =>
      have h' : (if boxed d' then some (Ar.tmp d') else none) = some (.chg i d) := h
      split at h' <;> cases h'
    | s j =>
      have h' : (match slot e j with | .mu _ false d => some (Ar.chg j d) | _ => none) = some (.chg i d) := h
      split at h'
      · next o d' q => cases h'; exact ⟨rfl, rfl, o, q⟩
      · cases h'
theorem arg_bor {io : Bool} {r : R} {i : Nat} {d : D} (h : arg e io r = some (.bor i d)) : io = false ∧ r = .s i ∧ ∃ o l, slot e i = .mu o l d := by
  cases io with
  | false =>
    cases r with
    | v d => cases h
    | f d => cases h
    | s j =>
      have h' : (match slot e j with | .mu _ _ d => some (Ar.bor j d) | _ => none) = some (.bor i d) := h
      split at h'
      · next o l d' q => cases h'; exact ⟨rfl, rfl, o, l, q⟩
      · cases h'
  | true =>
    cases r with
    | v d => cases h
    | f d' =>
      have h' : (if boxed d' then some (Ar.tmp d') else none) = some (.bor i d) := h
      split at h' <;> cases h'
    | s j =>
      have h' : (match slot e j with | .mu _ false d => some (Ar.chg j d) | _ => none) = some (.bor i d) := h
      split at h' <;> cases h'
theorem arg_val {io : Bool} {r : R} {d : D} (h : arg e io r = some (.val d)) : io = false ∧ (r = .v d ∨ r = .f d) := by
  cases io with
  | false =>
    cases r with
    | v d' => cases h; exact ⟨rfl, .inl rfl⟩
    | f d' => cases h; exact ⟨rfl, .inr rfl⟩
    | s j =>
      have h' : (match slot e j with | .mu _ _ d => some (Ar.bor j d) | _ => none) = some (.val d) := h
      split at h' <;> cases h'
  | true =>
    cases r with
    | v d => cases h
    | f d' =>
      have h' : (if boxed d' then some (Ar.tmp d') else none) = some (.val d) := h
      split at h' <;> cases h'
    | s j =>
      have h' : (match slot e j with | .mu _ false d => some (Ar.chg j d) | _ => none) = some (.val d) := h
      split at h' <;> cases h'
theorem arg_tmp {io : Bool} {r : R} {d : D} (h : arg e io r = some (.tmp d)) : io = true ∧ r = .f d := by
  cases io with
  | false =>
    cases r with
    | v d => cases h
    | f d => cases h
    | s j =>
      have h' : (match slot e j with | .mu _ _ d => some (Ar.bor j d) | _ => none) = some (.tmp d) := h
      split at h' <;> cases h'
  | true =>
    cases r with
    | v d => cases h
    | f d' =>
      have h' : (if boxed d' then some (Ar.tmp d') else none) = some (.tmp d) := h
      split at h'
      · cases h'; exact ⟨rfl, rfl⟩
      · cases h'
    | s j =>
      have h' : (match slot e j with | .mu _ false d => some (Ar.chg j d) | _ => none) = some (.tmp d) := h
      split at h' <;> cases h'
theorem args_cons {b : Bool} {bs : List Bool} {r : R} {rs : List R} {as : List Ar} (h : args e (b :: bs) (r :: rs) = some as) : ∃ a as', as = a :: as' ∧ arg e b r = some a ∧ args e bs rs = some as' := by
  rw [args] at h
  cases h1 : arg e b r with
  | none => rw [h1] at h; cases h
  | some a =>
    rw [h1] at h
    cases h2 : args e bs rs with
    | none => rw [h2] at h; cases h
    | some as' => rw [h2] at h; cases h; exact ⟨a, as', rfl, rfl, rfl⟩
theorem args_nil {b : Bool} {bs : List Bool} {r : R} {rs : List R} : args e (b :: bs) [] = none ∧ args e [] (r :: rs) = none := ⟨rfl, rfl⟩
theorem nodup_cons {i : Nat} {is : List Nat} (h : nodup (i :: is) = true) : i ∉ is ∧ nodup is = true := by
  unfold nodup at h
  rw [Bool.and_eq_true] at h
  exact ⟨by simpa using h.1, h.2⟩
/-- every argument that is changed or borrowed stands in its slot -/
theorem args_slots : ∀ {io : List Bool} {rs : List R} {as : List Ar}, args e io rs = some as → (∀ i ∈ chgs as, ∃ o d, slot e i = .mu o false d) ∧ ∀ i ∈ bors as, ∃ o l d, slot e i = .mu o l d
  | [], [], as, h => by cases h; exact ⟨fun _ z => (nomatch z), fun _ z => (nomatch z)⟩
  | [], _ :: _, _, h => by cases h
  | _ :: _, [], _, h => by cases h
  | b :: io, r :: rs, as, h => by
    obtain ⟨a, as', rfl, h1, h2⟩ := args_cons h
    obtain ⟨c, b'⟩ := args_slots h2
    cases a with
    | val d => exact ⟨c, b'⟩
    | tmp d => exact ⟨c, b'⟩
    | bor i d =>
      obtain ⟨_, _, o, l, hs⟩ := arg_bor h1
      refine ⟨c, fun j hj => ?_⟩
      rcases List.mem_cons.mp hj with rfl | hj
      · exact ⟨o, l, d, hs⟩
      · exact b' j hj
    | chg i d =>
      obtain ⟨_, _, o, hs⟩ := arg_chg h1
      refine ⟨fun j hj => ?_, b'⟩
      rcases List.mem_cons.mp hj with rfl | hj
      · exact ⟨o, d, hs⟩
      · exact c j hj
theorem args_ars (rel : Rel G Z e σ H1) {Zc : Set1} {A0 : List Addr} (c1 : ∀ b, also Zc (inA A0) b → also Z (own e σ) b) :
    ∀ {io : List Bool} {rs : List R} {as : List Ar} {vs : List V}, args e io rs = some as → RWs G Z e σ H H1 rs vs → anyTmp as = false → nodup (chgs as) = true → (∀ b ∈ chgA σ as, ¬ Zc b) →
      (∀ i ∈ bors as, ∀ b, adr σ i = some b → ¬ Zc b ∧ b ∉ A0) → Ars G Zc A0 H1 io (as.map Ar.d) vs (chgA σ as)
  | [], [], as, [], h, _, _, _, _, _ => by cases h; exact .nil
  | [], [], as, _ :: _, h, q, _, _, _, _ => q.elim
  | [], _ :: _, _, _, h, _, _, _, _, _ => by cases h
  | _ :: _, [], _, _, h, _, _, _, _, _ => by cases h
  | _ :: _, _ :: _, _, [], h, q, _, _, _, _ => q.elim
  | b :: io, r :: rs, as, v :: vs, h, q, nt, nd, hc, hb => by
    obtain ⟨a, as', rfl, h1, h2⟩ := args_cons h
    cases a with
    | tmp d => cases nt
    | val d =>
      obtain ⟨rfl, hr⟩ := arg_val h1
      refine .val ?_ (args_ars rel c1 h2 q.2 nt nd hc hb)
      rcases hr with rfl | rfl
      · exact Rp.anti c1 q.1
      · obtain ⟨a, k1, _, k3, k4⟩ := q.1
        subst k1
        exact Rp.anti c1 (Bx.rp k3 k4)
    | bor i d =>
      obtain ⟨rfl, rfl, o, l, hs⟩ := arg_bor h1
      obtain ⟨a, k1, k2⟩ := rel.box hs
      have ev : some (some v) = some (some (V.ref a)) := (show σ[i]? = some (some v) from q.1).symm.trans k1
      cases ev
      obtain ⟨n1, n2⟩ := hb i List.mem_cons_self a (adr_of k1)
      exact .val ((Bx.anti k2 c1).rp fun z => z.elim n1 n2) (args_ars rel c1 h2 q.2 nt nd hc fun j hj => hb j (List.mem_cons_of_mem _ hj))
    | chg i d =>
      obtain ⟨rfl, rfl, o, hs⟩ := arg_chg h1
      obtain ⟨a, k1, k2, k3⟩ := rel.mu i o d hs
      have ev : some (some v) = some (some (V.ref a)) := (show σ[i]? = some (some v) from q.1).symm.trans k1
      cases ev
      rw [chgA_chg k1] at hc ⊢
      obtain ⟨ni, nd'⟩ := nodup_cons nd
      have na : a ∉ chgA σ as' := fun hm => by
        obtain ⟨j, hj, ej⟩ := mem_chgA hm
        obtain ⟨o', d', hs'⟩ := (args_slots h2).1 j hj
        have := rel.inj i j o d o' d' a hs hs' k1 (adr_at ej)
        exact ni (this ▸ hj)
      exact .chg (Bx.anti k2 c1) (hc a List.mem_cons_self) na (args_ars rel c1 h2 q.2 nt nd' (fun b hm => hc b (List.mem_cons_of_mem _ hm)) hb)
/-- what stands in the slots behind a call -/
theorem putBack_ok {S0 : Set1} : ∀ {as : List Ar} {outs : List D} {e e2 : Env}, putBack e as outs = some e2 → nodup (chgs as) = true → Outs G S0 H2 (chgA σ as) outs → (∀ i ∈ chgs as, ∃ a, σ[i]? = some (some (.ref a))) →
    e2.length = e.length ∧ (∀ i, i ∉ chgs as → slot e2 i = slot e i) ∧ ∀ i ∈ chgs as, ∃ o d d' a, slot e i = .mu o false d ∧ slot e2 i = .mu o false d' ∧ σ[i]? = some (some (.ref a)) ∧ Bx G S0 H2 a d' ∧ d' ∈ outs
  | [], [], e, e2, h, _, _, _ => by cases h; exact ⟨rfl, fun _ _ => rfl, fun _ z => (nomatch z)⟩
  | [], _ :: _, _, _, h, _, _, _ => by cases h
  | .val d :: as, outs, e, e2, h, nd, ho, ha => putBack_ok (as := as) (by cases outs <;> exact h) nd ho ha
  | .bor i d :: as, outs, e, e2, h, nd, ho, ha => putBack_ok (as := as) (by cases outs <;> exact h) nd ho ha
  | .tmp d :: as, [], e, e2, h, _, _, _ => by cases h
  | .tmp d :: as, _ :: _, e, e2, h, _, _, _ => by cases h
  | .chg i d :: as, [], e, e2, h, _, _, _ => by cases h
  | .chg i d :: as, dn :: outs, e, e2, h, nd, ho, ha => by
    obtain ⟨a, k1⟩ := ha i List.mem_cons_self
    rw [chgA_chg k1] at ho
    obtain ⟨ni, nd'⟩ := nodup_cons nd
    have h' : (match slot e i with
      | .mu o false _ => putBack (e.set i (.mu o false dn)) as outs
      | _ => none) = some e2 := h
    cases hs : slot e i with
    | mu o l d0 =>
      rw [hs] at h'
      cases l with
      | true => cases h'
      | false =>
        obtain ⟨p1, p2, p3⟩ := putBack_ok (as := as) h' nd' ho.2 fun j hj => ha j (List.mem_cons_of_mem _ hj)
        have hi : i < e.length := slot_lt hs fun z => nomatch z
        refine ⟨by rw [p1, List.length_set], fun j hj => ?_, fun j hj => ?_⟩
        · have ij : i ≠ j := fun z => hj (z ▸ List.mem_cons_self)
          rw [p2 j fun z => hj (List.mem_cons_of_mem _ z), slot_set_ne ij]
        · rcases List.mem_cons.mp hj with rfl | hj
          · exact ⟨o, d0, dn, a, hs, by rw [p2 j ni, slot_set_same hi], k1, ho.1, List.mem_cons_self⟩
          · obtain ⟨o', d1, d', a', q1, q2, q3, q4, q5⟩ := p3 j hj
            have ij : i ≠ j := fun z => ni (z ▸ hj)
            rw [slot_set_ne ij] at q1
            exact ⟨o', d1, d', a', q1, q2, q3, q4, List.mem_cons_of_mem _ q5⟩
    | _ => rw [hs] at h'; cases h'
theorem Bx.flat {S0 S1 : Set1} {a : Addr} {d : D} (b : Bx G S0 H a d) (f : flat1 d = true) : Bx G S1 H a d := by
  cases d with
  | lst ds => obtain ⟨xs, h, r⟩ := b; exact ⟨xs, h, r.fixed f⟩
  | _ => exact b.elim
theorem loose_slot : ∀ {as : List Ar} {e : Env} {i : Nat}, slot (loose e as) i = if i ∈ chgs as then .no else slot e i
  | [], e, i => by simp [loose, chgs]
  | .val _ :: as, e, i => loose_slot (as := as)
  | .bor _ _ :: as, e, i => loose_slot (as := as)
  | .tmp _ :: as, e, i => loose_slot (as := as)
  | .chg j d :: as, e, i => by
    have : loose e (.chg j d :: as) = loose (e.set j .no) as := rfl
    rw [this, loose_slot (as := as)]
    have c : chgs (.chg j d :: as) = j :: chgs as := rfl
    rw [c]
    by_cases h : i ∈ chgs as
    · rw [if_pos h, if_pos (List.mem_cons_of_mem _ h)]
    · rw [if_neg h]
      by_cases ij : j = i
      · subst ij
        rw [if_pos List.mem_cons_self]
        by_cases hl : j < e.length
        · rw [slot_set_same hl]
        · rw [set_ge hl]
          exact Classical.byContradiction fun z => hl (slot_lt rfl z)
      · rw [slot_set_ne ij, if_neg (fun z => (List.mem_cons.mp z).elim (fun q => ij q.symm) h)]
theorem loose_len : ∀ {as : List Ar} {e : Env}, (loose e as).length = e.length
  | [], e => rfl
  | .val _ :: as, e => loose_len (as := as)
  | .bor _ _ :: as, e => loose_len (as := as)
  | .tmp _ :: as, e => loose_len (as := as)
  | .chg j d :: as, e => (loose_len (as := as)).trans (List.length_set ..)
theorem Outs.anti {S0 S1 : Set1} (hs : ∀ b, S1 b → S0 b) : ∀ {as : List Addr} {outs : List D}, Outs G S0 H as outs → Outs G S1 H as outs
  | [], [], q => q
  | _ :: _, _ :: _, q => ⟨q.1.anti hs, Outs.anti hs q.2⟩
  | [], _ :: _, q => q
  | _ :: _, [], q => q
theorem Outs.flat {S0 S1 : Set1} : ∀ {as : List Addr} {outs : List D}, outs.all flat1 = true → Outs G S0 H as outs → Outs G S1 H as outs
  | [], [], _, q => q
  | _ :: _, d :: ds, f, q => by
    rw [List.all_cons, Bool.and_eq_true] at f
    exact ⟨q.1.flat f.1, Outs.flat f.2 q.2⟩
  | [], _ :: _, _, q => q
  | _ :: _, [], _, q => q
theorem Left.stp {as : List Addr} (l : Left as H1 H2) (h : ∀ b ∈ as, own e σ b) : Stp e σ H1 e σ H2 := ⟨⟨fun b u hb n => ⟨l.keep b u hb fun z => n (h b z), n⟩, l.tup⟩, l.dom, fun i d h => ⟨⟨d, h⟩, rfl⟩, fun i o d h => ⟨h, rfl⟩⟩
/-- the state behind a call: Y new addresses that are set apart -/
theorem afterCall {as : List Ar} {outs : List D} {Y : Set1} (rel : Rel G Z e1 σ H1) (l : Left (chgA σ as) H1 H2) (nA : ∀ b ∈ chgA σ as, ¬ Z b ∧ own e1 σ b ∧ ∀ j o d, slot e1 j = .mu o false d → σ[j]? = some (some (.ref b)) → j ∈ chgs as)
    (hY : ∀ b, Y b → H1 b = none ∧ H2 b ≠ none) (ho : Outs G (also (also Z Y) (own e1 σ)) H2 (chgA σ as) outs) (nd : nodup (chgs as) = true) (ac : ∀ i ∈ chgs as, ∃ a, σ[i]? = some (some (.ref a))) (hp : putBack e1 as outs = some e2) :
    Rel G (also Z Y) e2 σ H2 ∧ Stp e1 σ H1 e2 σ H2 ∧ ∀ b, own e2 σ b ↔ own e1 σ b := by
  obtain ⟨p1, p2, p3⟩ := putBack_ok hp nd ho ac
  have kind : ∀ {i o d}, slot e2 i = .mu o false d → ∃ d', slot e1 i = .mu o false d' := fun {i o d} h => by
    by_cases hi : i ∈ chgs as
    · obtain ⟨o', d1, d', a, q1, q2, _⟩ := p3 i hi
      rw [q2] at h
      cases h
      exact ⟨d1, q1⟩
    · rw [p2 i hi] at h; exact ⟨d, h⟩
  have kind' : ∀ {i o d}, slot e1 i = .mu o false d → ∃ d', slot e2 i = .mu o false d' := fun {i o d} h => by
    by_cases hi : i ∈ chgs as
    · obtain ⟨o', d1, d', a, q1, q2, _⟩ := p3 i hi
      rw [q1] at h
      cases h
      exact ⟨d', q2⟩
    · exact ⟨d, by rw [p2 i hi]; exact h⟩
  have ow : ∀ b, own e2 σ b ↔ own e1 σ b := fun b => ⟨fun ⟨i, o, d, h, q⟩ => let ⟨d', h'⟩ := kind h; ⟨i, o, d', h', q⟩, fun ⟨i, o, d, h, q⟩ => let ⟨d', h'⟩ := kind' h; ⟨i, o, d', h', q⟩⟩
  have low : ∀ {i x}, slot e2 i = x → (∀ o d, x ≠ .mu o false d) → i ∉ chgs as ∧ slot e1 i = x := fun {i x} h hx => by
    by_cases hi : i ∈ chgs as
    · obtain ⟨o', d1, d', a, q1, q2, _⟩ := p3 i hi
      rw [q2] at h
      exact absurd h.symm (hx _ _)
    · rw [p2 i hi] at h; exact ⟨hi, h⟩
  have wd : ∀ b, also (also Z Y) (own e1 σ) b → also Z (own e1 σ) b ∨ H1 b = none := fun b z => z.elim (fun z => z.elim (fun z => .inl (.inl z)) fun z => .inr (hY b z).1) fun z => .inl (.inr z)
  have kp : Keeps (also (also Z Y) (own e1 σ)) (also (also Z Y) (own e2 σ)) H1 H2 := ⟨fun b u hb n => ⟨l.keep b u hb fun z => n (.inr (nA b z).2.1), fun z => n (z.elim .inl fun z => .inr ((ow b).mp z))⟩, l.tup⟩
  have sub : ∀ b, also (also Z Y) (own e2 σ) b → also (also Z Y) (own e1 σ) b := fun b z => z.elim .inl fun z => .inr ((ow b).mp z)
  refine ⟨⟨p1.trans rel.len, fun i d h => ?_, fun i o d h => ?_, fun i o d h => ?_, fun i j o d o' d' b h h' q q' => ?_, fun b z => z.elim (fun z => l.dom b (rel.dom b z)) fun z => (hY b z).2⟩, ⟨⟨fun b u hb n => ⟨l.keep b u hb fun z => n (nA b z).2.1, fun z => n ((ow b).mp z)⟩, l.tup⟩, l.dom, fun i d h => ?_, fun i o d h => ?_⟩, ow⟩
  · obtain ⟨_, h⟩ := low h (fun _ _ z => nomatch z)
    obtain ⟨v, h1, h2⟩ := rel.pu i d h
    exact ⟨v, h1, (h2.wide wd).step kp⟩
  · by_cases hi : i ∈ chgs as
    · obtain ⟨o', d1, d', a, q1, q2, q3, q4, _⟩ := p3 i hi
      rw [q2] at h
      cases h
      obtain ⟨a', k1, k2, k3⟩ := rel.mu i o d1 q1
      rw [q3] at k1
      cases k1
      obtain ⟨u, hu, _⟩ := k2.there
      exact ⟨a, q3, q4.anti sub, fun z => z.elim k3 fun z => by rw [(hY a z).1] at hu; cases hu⟩
    · rw [p2 i hi] at h
      obtain ⟨a, k1, k2, k3⟩ := rel.mu i o d h
      obtain ⟨u, hu, _⟩ := k2.there
      exact ⟨a, k1, (k2.wide wd).step kp fun u hu => l.keep a u hu fun z => hi ((nA a z).2.2 i o d h k1), fun z => z.elim k3 fun z => by rw [(hY a z).1] at hu; cases hu⟩
  · obtain ⟨_, h⟩ := low h (fun _ _ z => nomatch z)
    obtain ⟨a, k1, k2, k3⟩ := rel.lk i o d h
    exact ⟨a, k1, (k2.wide wd).step kp fun u hu => l.keep a u hu fun z => (nA a z).1 k3, .inl k3⟩
  · obtain ⟨d1, h1⟩ := kind h
    obtain ⟨d2, h2⟩ := kind h'
    exact rel.inj i j o d1 o' d2 b h1 h2 q q'
  · obtain ⟨d1, h1⟩ := kind h
    exact ⟨⟨d1, h1⟩, rfl⟩
  · exact ⟨(low h (fun _ _ z => nomatch z)).2, rfl⟩
/-- a call's outcome: from what the def promises -/
theorem call_ok {f : Nat} {io : List Bool} {rs : List R} {vs : List V} {Q : VK} (rel : Rel G Z e σ H) (rel1 : Rel G Z e1 σ H1) (st1 : Stp e σ H e1 σ H1) (rr : RWs G Z e1 σ H H1 rs vs) (as : List Ar) (has : args e1 io rs = some as) (nt : anyTmp as = false)
    (q : Fin G Z XR W e σ H (callR C f io rs e1) Q) : prom G XR C f io vs H1 Q fun cls d H' => W cls d σ H' := by
  unfold callR at q
  rw [has] at q
  have q' : Fin G Z XR W e σ H (if anyTmp as then (if tmpOk as then (match C f (as.map Ar.d) with
      | .rt fresh d outs => if (if fresh then flat1 d else d.fixed) && decide (outs.length = 1) then .ok (if fresh then .f d else .v d) e1 else .st
      | .ex x => .ex x e1
      | .st => .st) else .st)
    else if apartB as then (match C f (as.map Ar.d) with
      | .rt fresh d outs => if okBack as fresh d outs then (match putBack e1 as outs with
        | some e1 => .ok (if fresh then .f d else .v d) e1
        | none => .st) else .st
      | .ex x => .ex x (loose e1 as)
      | .st => .st) else .st) Q := q
  rw [nt, if_neg Bool.false_ne_true] at q'
  by_cases hap : apartB as = true
  · rw [if_pos hap] at q'
    unfold apartB at hap
    rw [Bool.and_eq_true] at hap
    obtain ⟨nd, bo⟩ := hap
    have bo' : ∀ i ∈ bors as, i ∉ chgs as := fun i hi hc => by
      have := List.all_eq_true.mp bo i hi
      simp [hc] at this
    obtain ⟨sc, sb⟩ := args_slots has
    have ac : ∀ i ∈ chgs as, ∃ a, σ[i]? = some (some (.ref a)) := fun i hi => by
      obtain ⟨o, d, hs⟩ := sc i hi
      obtain ⟨a, h, _⟩ := rel1.mu i o d hs
      exact ⟨a, h⟩
    have nZ : ∀ b ∈ chgA σ as, ¬ Z b ∧ own e1 σ b ∧ ∀ j o d, slot e1 j = .mu o false d → σ[j]? = some (some (.ref b)) → j ∈ chgs as := fun b hb => by
      obtain ⟨i, hi, ha⟩ := mem_chgA hb
      obtain ⟨o, d, hs⟩ := sc i hi
      obtain ⟨a, h1, _, h3⟩ := rel1.mu i o d hs
      rw [adr_at ha] at h1
      cases h1
      exact ⟨h3, ⟨i, o, d, hs, adr_at ha⟩, fun j o' d' hj qj => (rel1.inj i j o d o' d' b hs hj (adr_at ha) qj) ▸ hi⟩
    -- what is set apart from the def
    let Bo : Set1 := fun b => ∃ i ∈ bors as, adr σ i = some b
    let Zc : Set1 := fun b => also Z (own e1 σ) b ∧ b ∉ chgA σ as ∧ ¬ Bo b
    have c1 : ∀ b, also Zc (inA (chgA σ as)) b → also Z (own e1 σ) b := fun b z => z.elim (fun z => z.1) fun z => .inr (nZ b z).2.1
    have hars : Ars G Zc (chgA σ as) H1 io (as.map Ar.d) vs (chgA σ as) := args_ars rel1 c1 has rr nt nd (fun b hb z => z.2.1 hb) fun i hi b hb => ⟨fun z => z.2.2 ⟨i, hi, hb⟩, fun hm => by
      obtain ⟨j, hj, ej⟩ := mem_chgA hm
      obtain ⟨o, d, hs⟩ := sc j hj
      obtain ⟨o', l, d', hs'⟩ := sb i hi
      cases l with
      | false =>
        have := rel1.inj i j o' d' o d b hs' hs (adr_at hb) (adr_at ej)
        exact bo' i hi (this ▸ hj)
      | true =>
        obtain ⟨b', b1, _, b3⟩ := rel1.lk i o' d' hs'
        rw [adr_at hb] at b1
        cases b1
        exact (nZ b hm).1 b3⟩
    refine ⟨Zc, as.map Ar.d, chgA σ as, hars, fun b z => rel1.zdom b z.1, ?_⟩
    -- what is kept
    have kp : ∀ {H'}, Left (chgA σ as) H1 H' → ∀ b u, H1 b = some u → ¬ own e1 σ b → H' b = some u := fun {H'} l b u hb n => l.keep b u hb fun z => n (nZ b z).2.1
    cases hC : C f (as.map Ar.d) with
    | st => rw [hC] at q'; exact q'.elim
    | ex x =>
      rw [hC] at q'
      intro cls dx H' l xr
      have q2 : Fin G Z XR W e σ H (.ex x (loose e1 as)) Q := q'
      have osub : ∀ b, own (loose e1 as) σ b → own e1 σ b ∧ b ∉ chgA σ as := by
        rintro b ⟨i, o, d, hs, qs⟩
        rw [loose_slot] at hs
        by_cases hi : i ∈ chgs as
        · rw [if_pos hi] at hs; cases hs
        · rw [if_neg hi] at hs
          exact ⟨⟨i, o, d, hs, qs⟩, fun hm => hi ((nZ b hm).2.2 i o d hs qs)⟩
      have other : ∀ {i x}, slot (loose e1 as) i = x → x ≠ .no → i ∉ chgs as ∧ slot e1 i = x := fun {i x} hs hx => by
        rw [loose_slot] at hs
        by_cases hi : i ∈ chgs as
        · rw [if_pos hi] at hs; exact absurd hs.symm hx
        · rw [if_neg hi] at hs; exact ⟨hi, hs⟩
      have kz : Keeps (also Z (own e1 σ)) (also Z (own (loose e1 as) σ)) H1 H' := ⟨fun b u hb n => ⟨kp l b u hb fun z => n (.inr z), fun z => n (z.elim .inl fun z => .inr (osub b z).1)⟩, l.tup⟩
      have relL : Rel G Z (loose e1 as) σ H' := by
        refine ⟨loose_len.trans rel1.len, fun i d hs => ?_, fun i o d hs => ?_, fun i o d hs => ?_, fun i j o d o' d' b hs hs' qi qj => ?_, fun b z => l.dom b (rel1.dom b z)⟩
        · obtain ⟨_, hs⟩ := other hs (fun z => nomatch z)
          obtain ⟨v, h1, h2⟩ := rel1.pu i d hs
          exact ⟨v, h1, h2.step kz⟩
        · obtain ⟨hi, hs⟩ := other hs (fun z => nomatch z)
          obtain ⟨a, h1, h2, h3⟩ := rel1.mu i o d hs
          exact ⟨a, h1, h2.step kz fun u hu => l.keep a u hu fun hm => hi ((nZ a hm).2.2 i o d hs h1), h3⟩
        · obtain ⟨hi, hs⟩ := other hs (fun z => nomatch z)
          obtain ⟨a, h1, h2, h3⟩ := rel1.lk i o d hs
          exact ⟨a, h1, h2.step kz fun u hu => l.keep a u hu fun hm => (nZ a hm).1 h3, h3⟩
        · exact rel1.inj i j o d o' d' b (other hs (fun z => nomatch z)).2 (other hs' (fun z => nomatch z)).2 qi qj
      refine q2 cls dx H' relL (st1.trans ⟨⟨fun b u hb n => ⟨kp l b u hb n, fun z => n (osub b z).1⟩, l.tup⟩, l.dom, fun i d hs => ?_, fun i o d hs => ?_⟩) xr
      · exact ⟨⟨d, (other hs (fun z => nomatch z)).2⟩, rfl⟩
      · exact ⟨(other hs (fun z => nomatch z)).2, rfl⟩
    | rt fr d outs =>
      rw [hC] at q'
      have q2 : Fin G Z XR W e σ H (if okBack as fr d outs then (match putBack e1 as outs with
        | some e1 => .ok (if fr then .f d else .v d) e1
        | none => .st) else .st) Q := q'
      by_cases hok : okBack as fr d outs = true
      · rw [if_pos hok] at q2
        cases hpb : putBack e1 as outs with
        | none => rw [hpb] at q2; exact q2.elim
        | some e2 =>
          rw [hpb] at q2
          have q3 : Fin G Z XR W e σ H (.ok (if fr then .f d else .v d) e2) Q := q2
          intro v H' l hres
          -- what the def has set apart is enough
          have wide : ∀ Y : Set1, (∀ b, Y b → H1 b = none) → (bors as).isEmpty = true → ∀ b, also (also Z Y) (own e1 σ) b → also (also Zc Y) (inA (chgA σ as)) b := fun Y hY he b z => by
            have nb : ¬ Bo b := by
              rintro ⟨i, hi, _⟩
              rw [List.isEmpty_iff.mp he] at hi
              cases hi
            by_cases hm : b ∈ chgA σ as
            · exact .inr hm
            · rcases z with (z | z) | z
              · exact .inl (.inl ⟨.inl z, hm, nb⟩)
              · exact .inl (.inr z)
              · exact .inl (.inl ⟨.inr z, hm, nb⟩)
          unfold okBack at hok
          rw [Bool.or_eq_true] at hok
          have outs' : ∀ Y : Set1, (∀ b, Y b → H1 b = none) → Outs G (also (also Zc Y) (inA (chgA σ as))) H' (chgA σ as) outs → Outs G (also (also Z Y) (own e1 σ)) H' (chgA σ as) outs := fun Y hY ho => by
            rcases hok with he | hf
            · exact ho.anti (wide Y hY he)
            · rw [Bool.and_eq_true] at hf
              exact Outs.flat hf.2 ho
          cases fr with
          | false =>
            obtain ⟨hv, ho⟩ := hres
            have no : ∀ b, (fun _ => False : Set1) b → H1 b = none := fun _ z => z.elim
            have ho' := outs' (fun _ => False) no (by rw [also_none]; exact ho)
            obtain ⟨rel2, st2, ow⟩ := afterCall (Y := fun _ => False) rel1 l nZ (fun _ z => z.elim) ho' nd ac hpb
            rw [also_none] at rel2
            refine q3 v H' rel2 (st1.trans st2) ?_
            rcases hok with he | hf
            · have := wide (fun _ => False) no he
              rw [also_none, also_none] at this
              exact Rp.anti (fun b z => this b (z.elim .inl fun z => .inr ((ow b).mp z))) hv
            · rw [Bool.and_eq_true] at hf
              exact Rp.fixed hv hf.1
          | true =>
            obtain ⟨a, e0, h0, hb, ho⟩ := hres
            have hY : ∀ b, (fun b => b = a : Set1) b → H1 b = none := fun b z => z ▸ h0
            have ha' : H' a ≠ none := by
              obtain ⟨u, hu, _⟩ := hb.there
              rw [hu]
              exact fun z => nomatch z
            have ho' := outs' (fun b => b = a) hY ho
            obtain ⟨rel2, st2, ow⟩ := afterCall (Y := fun b => b = a) rel1 l nZ (fun b z => ⟨hY b z, by rw [show b = a from z]; exact ha'⟩) ho' nd ac hpb
            have hn0 : H a = none := Classical.byContradiction fun z => st1.dom a z h0
            have lessZ : Rel G Z e2 σ H' := rel2.less (fun b z => .inl z) (rel1.lkZ st2)
            refine q3 v H' lessZ (st1.trans st2) ⟨a, e0, hn0, fun z => rel.dom a z hn0, ?_, rel2⟩
            rcases hok with he | hf
            · exact hb.anti fun b z => wide (fun b => b = a) hY he b (z.elim .inl fun z => .inr ((ow b).mp z))
            · rw [Bool.and_eq_true] at hf
              exact hb.flat hf.1
      · rw [if_neg hok] at q2
        exact q2.elim
  · rw [if_neg hap] at q'
    exact q'.elim
/-- one new list is lent -/
theorem fixed_ars {Zc : Set1} {A0 : List Addr} : ∀ {io : List Bool} {rs : List R} {as : List Ar} {vs : List V}, args e io rs = some as → RWs G Z e σ H H1 rs vs → allFixed as = true → Ars G Zc A0 H1 io (as.map Ar.d) vs []
  | [], [], as, [], h, _, _ => by cases h; exact .nil
  | [], [], as, _ :: _, h, q, _ => q.elim
  | [], _ :: _, _, _, h, _, _ => by cases h
  | _ :: _, [], _, _, h, _, _ => by cases h
  | _ :: _, _ :: _, _, [], h, q, _ => q.elim
  | b :: io, r :: rs, as, v :: vs, h, q, f => by
    obtain ⟨a, as', rfl, h1, h2⟩ := args_cons h
    cases a with
    | val d =>
      obtain ⟨rfl, hr⟩ := arg_val h1
      have f' : (d.fixed && allFixed as') = true := f
      rw [Bool.and_eq_true] at f'
      refine .val ?_ (fixed_ars h2 q.2 f'.2)
      rcases hr with rfl | rfl
      · exact Rp.fixed q.1 f'.1
      · obtain ⟨a, k1, _, k3, k4⟩ := q.1
        subst k1
        exact Rp.fixed (Bx.rp k3 k4) f'.1
    | _ => cases f
theorem tmp_ars {Zc Zf : Set1} : ∀ {io : List Bool} {rs : List R} {as : List Ar} {vs : List V} {Z0 : Set1}, (∀ b, Z b → Z0 b) → args e io rs = some as → RRs G e σ H H1 Zf Z0 rs vs → tmpOk as = true →
    ∃ a Zp, H a = none ∧ H1 a ≠ none ∧ Zp a ∧ (∀ b, Z b → Zp b) ∧ Rel G Zp e σ H1 ∧ ((¬ Zc a) → Ars G Zc [a] H1 io (as.map Ar.d) vs [a])
  | [], [], as, _, _, _, h, q, f => by cases h; cases f
  | [], _ :: _, _, _, _, _, h, _, _ => by cases h
  | _ :: _, [], _, _, _, _, h, _, _ => by cases h
  | _ :: _, .v _ :: _, _, [], _, _, h, q, _ => q.elim
  | _ :: _, .f _ :: _, _, [], _, _, h, q, _ => q.elim
  | _ :: _, .s _ :: _, _, [], _, _, h, q, _ => q.elim
  | b :: io, .v d0 :: rs, as, v :: vs, Z0, sz, h, q, f => by
    obtain ⟨a, as', rfl, h1, h2⟩ := args_cons h
    cases a with
    | val d =>
      obtain ⟨rfl, hr⟩ := arg_val h1
      have f' : (d.fixed && tmpOk as') = true := f
      rw [Bool.and_eq_true] at f'
      obtain ⟨a, Zp, k0, k1, k2, k3, k4, k5⟩ := tmp_ars (Zc := Zc) sz h2 q.2 f'.2
      refine ⟨a, Zp, k0, k1, k2, k3, k4, fun n => .val ?_ (k5 n)⟩
      rcases hr with e1 | e1
      · cases e1; exact Rp.fixed q.1 f'.1
      · cases e1
    | tmp d => obtain ⟨_, e1⟩ := arg_tmp h1; cases e1
    | _ => cases f
  | b :: io, .s j :: rs, as, v :: vs, Z0, sz, h, q, f => by
    obtain ⟨a, as', rfl, h1, h2⟩ := args_cons h
    cases a with
    | val d =>
      obtain ⟨rfl, hr⟩ := arg_val h1
      rcases hr with e1 | e1 <;> cases e1
    | tmp d => obtain ⟨_, e1⟩ := arg_tmp h1; cases e1
    | _ => cases f
  | b :: io, .f d0 :: rs, as, v :: vs, Z0, sz, h, q, f => by
    obtain ⟨a0, as', rfl, h1, h2⟩ := args_cons h
    obtain ⟨p, e0, e1, e2, ez, e3, e4⟩ := q
    cases a0 with
    | val d =>
      obtain ⟨rfl, hr⟩ := arg_val h1
      have f' : (d.fixed && tmpOk as') = true := f
      rw [Bool.and_eq_true] at f'
      rcases hr with z | z
      · cases z
      · cases z
        cases d0 with
        | lst ds => cases f'.1
        | _ => exact e3.elim
    | tmp d =>
      obtain ⟨rfl, z⟩ := arg_tmp h1
      cases z
      have f' : (flat1 d0 && allFixed as') = true := f
      rw [Bool.and_eq_true] at f'
      obtain ⟨rel', s'⟩ := RRs.sub e4
      have w' := RRs.all e4
      subst e0
      obtain ⟨u, hu, _⟩ := e3.there
      refine ⟨p, Zf, e1, by rw [hu]; exact (fun z => nomatch z), s' p (.inr rfl), fun b z => s' b (.inl (sz b z)), rel', fun n => ?_⟩
      exact .chg (e3.flat f'.1) n (by simp) (fixed_ars h2 w' f'.2)
    | _ => cases f
theorem call_tmp {f : Nat} {io : List Bool} {rs : List R} {vs : List V} {Q : VK} (rel : Rel G Z e σ H) (rel1 : Rel G Z e1 σ H1) (st1 : Stp e σ H e1 σ H1) (rr : ∃ Zf, (∀ b, Zf b → Z b ∨ H b = none) ∧ RRs G e1 σ H H1 Zf Z rs vs) (as : List Ar) (has : args e1 io rs = some as) (nt : anyTmp as = true)
    (q : Fin G Z XR W e σ H (callR C f io rs e1) Q) : prom G XR C f io vs H1 Q fun cls d H' => W cls d σ H' := by
  unfold callR at q
  rw [has] at q
  have q' : Fin G Z XR W e σ H (if anyTmp as then (if tmpOk as then (match C f (as.map Ar.d) with
      | .rt fresh d outs => if (if fresh then flat1 d else d.fixed) && decide (outs.length = 1) then .ok (if fresh then .f d else .v d) e1 else .st
      | .ex x => .ex x e1
      | .st => .st) else .st)
    else if apartB as then (match C f (as.map Ar.d) with
      | .rt fresh d outs => if okBack as fresh d outs then (match putBack e1 as outs with
        | some e1 => .ok (if fresh then .f d else .v d) e1
        | none => .st) else .st
      | .ex x => .ex x (loose e1 as)
      | .st => .st) else .st) Q := q
  rw [nt, if_pos rfl] at q'
  by_cases ht : tmpOk as = true
  · rw [if_pos ht] at q'
    obtain ⟨Zf, _, rr⟩ := rr
    obtain ⟨a, Zp, h0, h1, za, sz, relp, hars⟩ := tmp_ars (Z := Z) (Zc := also Z (own e1 σ)) (fun _ h => h) has rr ht
    have na : ¬ also Z (own e1 σ) a := fun z => z.elim (fun z => rel.dom a z h0) fun z => by
      obtain ⟨i, o, d, k1, k2⟩ := z
      obtain ⟨b, b1, _, b3⟩ := relp.mu i o d k1
      rw [k2] at b1
      cases b1
      exact b3 za
    refine ⟨also Z (own e1 σ), as.map Ar.d, [a], hars na, fun b z => rel1.zdom b z, ?_⟩
    -- the state behind
    have after : ∀ {H'} (Y : Set1), Left [a] H1 H' → (∀ b, Y b → H1 b = none ∧ H' b ≠ none) → Rel G (also Z Y) e1 σ H' ∧ Stp e σ H e1 σ H' := fun {H'} Y l hY => by
      have ka : ∀ b u, H1 b = some u → b ≠ a → H' b = some u := fun b u hb n => l.keep b u hb (by simpa using n)
      have wd : ∀ b, also (also Zp Y) (own e1 σ) b → also Zp (own e1 σ) b ∨ H1 b = none := fun b z => z.elim (fun z => z.elim (fun z => .inl (.inl z)) fun z => .inr (hY b z).1) fun z => .inl (.inr z)
      have kp : Keeps (also (also Zp Y) (own e1 σ)) (also (also Zp Y) (own e1 σ)) H1 H' := ⟨fun b u hb n => ⟨ka b u hb fun z => n (.inl (.inl (z ▸ za))), n⟩, l.tup⟩
      have sub : ∀ b, also (also Z Y) (own e1 σ) b → also (also Zp Y) (own e1 σ) b := fun b z => z.elim (fun z => z.elim (fun z => .inl (.inl (sz b z))) fun z => .inl (.inr z)) .inr
      refine ⟨⟨rel1.len, fun i d h => ?_, fun i o d h => ?_, fun i o d h => ?_, rel1.inj, fun b z => z.elim (fun z => l.dom b (rel1.dom b z)) fun z => (hY b z).2⟩, ⟨⟨fun b u hb n => ?_, fun b xs hb => l.tup b xs (st1.keep.tup b xs hb)⟩, fun b hb => l.dom b (st1.dom b hb), st1.io, st1.lk⟩⟩
      · obtain ⟨v, h1, h2⟩ := relp.pu i d h
        exact ⟨v, h1, ((h2.wide wd).step kp).anti sub⟩
      · obtain ⟨b, h1, h2, h3⟩ := relp.mu i o d h
        obtain ⟨u, hu, _⟩ := h2.there
        exact ⟨b, h1, ((h2.wide wd).step kp fun u hu => ka b u hu fun z => h3 (z ▸ za)).anti sub, fun z => z.elim (fun z => h3 (sz b z)) fun z => by rw [(hY b z).1] at hu; cases hu⟩
      · obtain ⟨b, h1, h2, _⟩ := relp.lk i o d h
        obtain ⟨b', h1', _, h3⟩ := rel1.lk i o d h
        rw [h1] at h1'
        cases h1'
        exact ⟨b, h1, ((h2.wide wd).step kp fun u hu => ka b u hu fun z => na (.inl (z ▸ h3))).anti sub, .inl h3⟩
      · obtain ⟨k1, k2⟩ := st1.keep.keep b u hb n
        exact ⟨ka b u k1 (fun z => by subst z; rw [h0] at hb; exact (nomatch hb)), k2⟩
    cases hC : C f (as.map Ar.d) with
    | st => rw [hC] at q'; exact q'.elim
    | ex x =>
      rw [hC] at q'
      intro cls dx H' l xr
      obtain ⟨r1, s1⟩ := after (fun _ => False) l (fun _ z => z.elim)
      rw [also_none] at r1
      exact q' cls dx H' r1 s1 xr
    | rt fr d outs =>
      rw [hC] at q'
      have q2 : Fin G Z XR W e σ H (if (if fr then flat1 d else d.fixed) && decide (outs.length = 1) then .ok (if fr then .f d else .v d) e1 else .st) Q := q'
      by_cases hok : ((if fr then flat1 d else d.fixed) && decide (outs.length = 1)) = true
      · rw [if_pos hok] at q2
        rw [Bool.and_eq_true] at hok
        intro v H' l hres
        cases fr with
        | false =>
          obtain ⟨r1, s1⟩ := after (fun _ => False) l (fun _ z => z.elim)
          rw [also_none] at r1
          exact q2 v H' r1 s1 (Rp.fixed hres.1 hok.1)
        | true =>
          obtain ⟨b, e0, b0, hb, _⟩ := hres
          have hb' : H' b ≠ none := by
            obtain ⟨u, hu, _⟩ := hb.there
            rw [hu]
            exact (fun z => nomatch z)
          obtain ⟨r1, s1⟩ := after (fun x => x = b) l (fun x z => by rw [show x = b from z]; exact ⟨b0, hb'⟩)
          obtain ⟨r2, _⟩ := after (fun _ => False) l (fun _ z => z.elim)
          rw [also_none] at r2
          have hn0 : H b = none := Classical.byContradiction fun z => st1.dom b z b0
          exact q2 v H' r2 s1 ⟨b, e0, hn0, fun z => rel.dom b z hn0, hb.flat hok.1, r1⟩
      · rw [if_neg hok] at q2
        exact q2.elim
  · rw [if_neg ht] at q'
    exact q'.elim
theorem call_all {f : Nat} {io : List Bool} {rs : List R} {vs : List V} {Q : VK} (rel : Rel G Z e σ H) (rel1 : Rel G Z e1 σ H1) (st1 : Stp e σ H e1 σ H1) (rr : ∃ Zf, (∀ b, Zf b → Z b ∨ H b = none) ∧ RRs G e1 σ H H1 Zf Z rs vs)
    (q : Fin G Z XR W e σ H (callR C f io rs e1) Q) : prom G XR C f io vs H1 Q fun cls d H' => W cls d σ H' := by
  cases has : args e1 io rs with
  | none =>
    unfold callR at q
    rw [has] at q
    exact q.elim
  | some as =>
    cases nt : anyTmp as with
    | false => exact call_ok rel rel1 st1 (RRs.weak rr) as has nt q
    | true => exact call_tmp rel rel1 st1 rr as has nt q
theorem sE_call {f : Nat} {io : List Bool} {x : Expr} {es' : List Expr} {l : E} (hc : ∀ t, PA X es' t → PE X x (tCallS (prom G XR C f io) (WE W) t)) (ha : PA X es' (tL G Z XR W (evl C l))) : PE X x (tE G Z XR W (ev C (.call f io l))) := by
  refine pe_imp (hc _ ha) fun σ H Q ⟨e, rel, q⟩ => ?_
  unfold ev at q
  exact ⟨e, rel, (FinL.bindR q).imp fun vs H1 ⟨rs, e1, _, rel1, st1, rr1, q1⟩ => call_all rel rel1 st1 rr1 q1⟩
end
end Lt
end
section
set_option maxRecDepth 100000
namespace Lt
open PySem PySem.Spec PyProof.Rows L2
section
variable {X : Cx} {G : Nat → Option Addr} {Z Z' : Set1} {XR : XRel} {W : WX} {C : Calls} {pos : Pos} {e e1 e2 : Env} {σ σ1 : L2.St} {H H1 H2 : Hp}
/-! x[i] = v -/
theorem mu_atS {e : Env} {i : Nat} {k : Bool → List D → Fl} {σ : L2.St} {H : Hp} {e0 : Env} {D : Ends} (q : FinS G Z XR W e0 σ H (match slot e i with
      | .mu o false (.lst l) => k o l
      | _ => .st) D) : ∃ o ds, slot e i = .mu o false (.lst ds) ∧ FinS G Z XR W e0 σ H (k o ds) D := by
  cases hs : slot e i with
  | mu o lck dd =>
    rw [hs] at q
    cases lck with
    | true => cases dd <;> exact q.elim
    | false =>
      cases dd with
      | lst ds => exact ⟨o, ds, rfl, q⟩
      | _ => exact q.elim
  | _ => rw [hs] at q; exact q.elim
theorem sS_six {i : Nat} {st : Stmt} {x y : Expr} {a b : E} (hp : ∀ te ti, PE X x te → PE X y ti → PS X st (tAsg te (gSub (tVar i) ti rSetL))) (hx : PE X x (tE G Z XR W (ev C b))) (hy : PE X y (tE G Z XR W (ev C a))) :
    PS X st (tS G Z XR W (es C (.six i a b))) := by
  refine ps_imp (hp _ _ hx hy) fun D σ H ⟨e, rel, q⟩ => ?_
  unfold es at q
  refine ⟨e, rel, (Fin.fl q).imp fun v H1 ⟨r, e1, _, rel1, st1, rr1, q1⟩ => ?_⟩
  cases hk : keep e1 r with
  | none => rw [hk] at q1; exact q1.elim
  | some p =>
    obtain ⟨d, e2⟩ := p
    rw [hk] at q1
    obtain ⟨rel2, st2, rp, _⟩ := keep_ok rel1 rr1.weak hk
    by_cases hb : isBox e2 i = true
    · dsimp only at q1
      rw [if_pos hb] at q1
      obtain ⟨o, l, ds, hs⟩ := isBox_at hb
      obtain ⟨p, xs, h1, _, _⟩ := list_at rel2 hs
      refine ⟨.ref p, h1, e2, rel2, (Fin.fl (FinS.from q1 (st1.trans st2))).imp fun w H2 ⟨s, e3, _, rel3, st3, rr3, q3⟩ => ?_⟩
      cases hl : look e3 s with
      | none => rw [hl] at q3; exact q3.elim
      | some dk =>
        rw [hl] at q3
        cases dk with
        | int k =>
          obtain ⟨o2, ds2, hs2, q4⟩ := mu_atS (k := fun o l => match place l.length k with
            | some j => .nx (e3.set i (.mu o false (.lst (l.set j d))))
            | none => .st) q3
          cases hpl : place ds2.length k with
          | none => rw [hpl] at q4; exact q4.elim
          | some j =>
            rw [hpl] at q4
            obtain ⟨p2, xs2, k1, k2, k3⟩ := list_at rel3 hs2
            rw [h1] at k1
            cases k1
            have ew := (rr3.look rel3 hl).int
            obtain ⟨rel4, st4⟩ := list_upd rel3 hs2 h1 k2 (k3.set (rp.step (st3.also Z)) j)
            refine ⟨p, xs2, k, j, rfl, ew, k2, by rw [← k3.length]; exact hpl, ?_⟩
            exact q4 σ _ rel4 (st3.trans st4)
        | _ => exact q3.elim
    · dsimp only at q1
      rw [if_neg hb] at q1
      exact q1.elim
/-! n += e -/
theorem sS_aug {i : Nat} {st : Stmt} {x : Expr} {o : Op} {a : E} (hp : ∀ te, PE X x te → PS X st (tAug i te fun x y H Q => ∃ p q z, x = .int p ∧ y = .int q ∧ augI o p q = some z ∧ Q (.int z) H)) (ha : PE X x (tE G Z XR W (ev C a))) :
    PS X st (tS G Z XR W (es C (.aug i o a))) := by
  refine ps_imp (hp _ ha) fun D σ H ⟨e, rel, q⟩ => ?_
  unfold es at q
  cases hs : slot e i with
  | pu d =>
    rw [hs] at q
    cases d with
    | int p =>
      obtain ⟨v, h1, h2⟩ := rel.pu i _ hs
      cases h2
      have q' : FinS G Z XR W e σ H ((ev C a e).fl fun r e1 => match look e1 r with
        | some (.int q) => (match augI o p q with
          | some z => .nx (e1.set i (.pu (.int z)))
          | none => .st)
        | _ => .st) D := q
      refine ⟨.int p, h1, e, rel, (Fin.fl q').imp fun w H1 ⟨r, e1, _, rel1, st1, rr1, q1⟩ => ?_⟩
      cases hl : look e1 r with
      | none => rw [hl] at q1; exact q1.elim
      | some d =>
        rw [hl] at q1
        cases d with
        | int m =>
          have q2 : FinS G Z XR W e σ H (match augI o p m with
            | some z => .nx (e1.set i (.pu (.int z)))
            | none => .st) D := q1
          cases hz : augI o p m with
          | none => rw [hz] at q2; exact q2.elim
          | some z =>
            rw [hz] at q2
            obtain ⟨rel2, st2⟩ := set_low (i := i) (x := .pu (.int z)) (y := some (.int z)) rel1 (.inr ⟨_, _, rfl, rfl, .int z⟩)
            exact ⟨p, m, z, rfl, (rr1.look rel1 hl).int, hz, q2 _ H1 rel2 (st1.trans st2)⟩
        | _ => exact q1.elim
    | _ => exact q.elim
  | _ => rw [hs] at q; exact q.elim
/-! x[i] += e -/
/-- the whole number at a place -/
def rGetI : V → V → Hp → VK → Prop := fun o i H Q => ∃ p xs k j y, o = .ref p ∧ i = .int k ∧ H p = some (.lst xs) ∧ ixN xs.length k = some j ∧ xs[j]? = some (.int y) ∧ Q (.int y) H
theorem sS_aix {i : Nat} {st : Stmt} {x y : Expr} {o : Op} {a b : E} (hp : ∀ te ti, PE X x te → PE X y ti → PS X st (tAugS (tVar i) ti te rGetI (fun x y H Q => ∃ p q z, x = .int p ∧ y = .int q ∧ augI o p q = some z ∧ Q (.int z) H) rSetL))
    (hx : PE X x (tE G Z XR W (ev C b))) (hy : PE X y (tE G Z XR W (ev C a))) : PS X st (tS G Z XR W (es C (.aix i a o b))) := by
  refine ps_imp (hp _ _ hx hy) fun D σ H ⟨e, rel, q⟩ => ?_
  unfold es at q
  by_cases hb : isBox e i = true
  · rw [if_pos hb] at q
    obtain ⟨o1, l1, ds1, hs1⟩ := isBox_at hb
    obtain ⟨p, xs, h1, _, _⟩ := list_at rel hs1
    refine ⟨.ref p, h1, e, rel, (Fin.fl q).imp fun v H1 ⟨r, e1, _, rel1, st1, rr1, q1⟩ => ?_⟩
    cases hl : look e1 r with
    | none => rw [hl] at q1; exact q1.elim
    | some d =>
      rw [hl] at q1
      cases d with
      | int k =>
        have ev' := (rr1.look rel1 hl).int
        have q2 : FinS G Z XR W e σ H (match intAt e1 i k with
          | some y => (ev C b e1).fl fun r e2 => match look e2 r with
            | some (.int z) => (match augI o y z with
              | some z' => (match slot e2 i with
                | .mu o2 false (.lst l2) => (match place l2.length k with
                  | some j2 => .nx (e2.set i (.mu o2 false (.lst (l2.set j2 (.int z')))))
                  | none => .st)
                | _ => .st)
              | none => .st)
            | _ => .st
          | none => .st) D := q1
        cases hi : intAt e1 i k with
        | none => rw [hi] at q2; exact q2.elim
        | some y =>
          rw [hi] at q2
          -- the old number
          have old : ∃ xs1 j, H1 p = some (.lst xs1) ∧ ixN xs1.length k = some j ∧ xs1[j]? = some (.int y) := by
            unfold intAt at hi
            cases hs : slot e1 i with
            | mu o3 l3 d3 =>
              rw [hs] at hi
              cases d3 with
              | lst ds3 =>
                obtain ⟨p3, xs3, k1, k2, k3⟩ := list_at rel1 hs
                rw [h1] at k1
                cases k1
                have hi' : (match place ds3.length k with
                  | some j => (match ds3[j]? with
                    | some (.int y) => some y
                    | _ => none)
                  | none => none) = some y := hi
                cases hpl : place ds3.length k with
                | none => rw [hpl] at hi'; cases hi'
                | some j =>
                  rw [hpl] at hi'
                  have hi2 : (match ds3[j]? with
                    | some (.int y) => some y
                    | _ => none) = some y := hi'
                  cases hg : ds3[j]? with
                  | none => rw [hg] at hi2; cases hi2
                  | some dj =>
                    rw [hg] at hi2
                    cases dj with
                    | int y' =>
                      cases hi2
                      obtain ⟨w, hw, rw'⟩ := k3.get hg
                      cases rw'
                      exact ⟨xs3, j, k2, by rw [← k3.length]; exact hpl, hw⟩
                    | _ => cases hi2
              | _ => cases hi
            | _ => rw [hs] at hi; cases hi
          obtain ⟨xs1, j, o1, o2, o3⟩ := old
          refine ⟨p, xs1, k, j, y, rfl, ev', o1, o2, o3, e1, rel1, (Fin.fl (FinS.from q2 st1)).imp fun w H2 ⟨s, e2, _, rel2, st2, rr2, q3⟩ => ?_⟩
          cases hl2 : look e2 s with
          | none => rw [hl2] at q3; exact q3.elim
          | some d2 =>
            rw [hl2] at q3
            cases d2 with
            | int m =>
              have q4 : FinS G Z XR W e1 σ H1 (match augI o y m with
                | some z' => (match slot e2 i with
                  | .mu o2 false (.lst l2) => (match place l2.length k with
                    | some j2 => .nx (e2.set i (.mu o2 false (.lst (l2.set j2 (.int z')))))
                    | none => .st)
                  | _ => .st)
                | none => .st) D := q3
              cases hz : augI o y m with
              | none => rw [hz] at q4; exact q4.elim
              | some z =>
                rw [hz] at q4
                refine ⟨y, m, z, rfl, (rr2.look rel2 hl2).int, hz, ?_⟩
                obtain ⟨o4, ds4, hs4, q5⟩ := mu_atS (k := fun o2 l2 => match place l2.length k with
                  | some j2 => .nx (e2.set i (.mu o2 false (.lst (l2.set j2 (.int z)))))
                  | none => .st) q4
                cases hpl : place ds4.length k with
                | none => rw [hpl] at q5; exact q5.elim
                | some j2 =>
                  rw [hpl] at q5
                  obtain ⟨p4, xs4, k1, k2, k3⟩ := list_at rel2 hs4
                  rw [h1] at k1
                  cases k1
                  obtain ⟨rel4, st4⟩ := list_upd rel2 hs4 h1 k2 (k3.set (.int z) j2)
                  exact ⟨p, xs4, k, j2, rfl, ev', k2, by rw [← k3.length]; exact hpl, q5 σ _ rel4 (st2.trans st4)⟩
            | _ => exact q3.elim
      | _ => exact q1.elim
  · rw [if_neg hb] at q
    exact q.elim
/-! raise -/
theorem sS_rais {c : Nat} {x : Expr} {es' : List Expr} {l : E} (hp : ∀ t, PA X es' t → PS X (.Raise (some x) none pos) (fun _ σ H => t σ H fun vs H1 => ∃ Zr ds, Rps G Zr H1 ds vs ∧ excOk ds = true ∧ ∀ cls dx H', New H1 H' → XR ⟨c, ds⟩ cls dx H' → W cls dx σ H'))
    (ha : PA X es' (tL G Z XR W (evl C l))) : PS X (.Raise (some x) none pos) (tS G Z XR W (es C (.rais c l))) := by
  refine ps_imp (hp _ ha) fun D σ H ⟨e, rel, q⟩ => ?_
  unfold es at q
  refine ⟨e, rel, (FinL.fl q).imp fun vs H1 ⟨rs, e1, _, rel1, st1, rr1, q1⟩ => ?_⟩
  cases hk : keeps e1 rs with
  | none => rw [hk] at q1; exact q1.elim
  | some p =>
    obtain ⟨ds, e2⟩ := p
    rw [hk] at q1
    obtain ⟨rel2, st2, r2⟩ := keeps_ok rel1 (RRs.weak rr1) hk
    have q2 : FinS G Z XR W e σ H (if excOk ds then .ex ⟨c, ds⟩ e2 else .st) D := q1
    by_cases ok : excOk ds = true
    · rw [if_pos ok] at q2
      exact ⟨_, ds, r2, ok, fun cls dx H' n xr => q2 cls dx σ H' (rel2.new n) ((st1.trans st2).trans (Stp.new n)) xr⟩
    · rw [if_neg ok] at q2
      exact q2.elim
end
end Lt
end
section
set_option maxRecDepth 100000
namespace Lt
open PySem PySem.Spec PyProof.Rows L2
section
variable {X : Cx} {G : Nat → Option Addr} {Z Z' : Set1} {XR : XRel} {W : WX} {C : Calls} {pos : Pos} {e e1 e2 : Env} {σ σ1 : L2.St} {H H1 H2 : Hp}
/-! a, b = x, y -/
def sets : L2.St → List (Nat × Bool) → List V → L2.St
  | σ, (i, _) :: ts, v :: vs => sets (σ.set i (some v)) ts vs
  | σ, _, _ => σ
/-- no new list of these is at a -/
def Off (a : Addr) : List R → List V → Prop
  | .f _ :: rs, v :: vs => v ≠ .ref a ∧ Off a rs vs
  | _ :: rs, _ :: vs => Off a rs vs
  | _, _ => True
/-- the values still to be stored; Zr: what is set apart by now -/
def Pend (G : Nat → Option Addr) (Z Zr : Set1) (M : Set1) (H H1 : Hp) : List R → List V → Prop
  | [], [] => True
  | .v d :: rs, v :: vs => Rp G M H1 d v ∧ Pend G Z Zr M H H1 rs vs
  | .f d :: rs, v :: vs => ∃ a, v = .ref a ∧ H a = none ∧ ¬ Z a ∧ Zr a ∧ Bx G M H1 a d ∧ Off a rs vs ∧ Pend G Z Zr M H H1 rs vs
  | _, _ => False
theorem RRs.off {e : Env} {Zf : Set1} {a : Addr} : ∀ {rs : List R} {vs : List V} {Z1 : Set1}, Z1 a → RRs G e σ H H1 Zf Z1 rs vs → Off a rs vs
  | [], _, _, _, _ => trivial
  | .f _ :: rs, v :: vs, Z1, za, ⟨b, h1, h2, h3, h4, h5, h6⟩ => ⟨fun k => by rw [h1] at k; cases k; exact h3 za, RRs.off (rs := rs) (.inl za) h6⟩
  | .v _ :: rs, v :: vs, Z1, za, q => RRs.off (rs := rs) za q.2
  | .s _ :: rs, v :: vs, Z1, za, q => RRs.off (rs := rs) za q.2
  | .f _ :: _, [], _, _, _ => trivial
  | .v _ :: _, [], _, _, _ => trivial
  | .s _ :: _, [], _, _, _ => trivial
theorem RRs.pend {e : Env} {Zf : Set1} : ∀ {rs : List R} {vs : List V} {Z1 : Set1}, calmRs rs = true → (∀ b, Z b → Z1 b) → RRs G e σ H H1 Zf Z1 rs vs → Pend G Z Zf (also Zf (own e σ)) H H1 rs vs
  | [], [], _, _, _, _ => trivial
  | .f _ :: rs, v :: vs, Z1, c, s, ⟨a, h1, h2, h3, h4, h5, h6⟩ => ⟨a, h1, h2, fun k => h3 (s a k), h4, h5, RRs.off (rs := rs) (.inr rfl) h6, RRs.pend (rs := rs) c (fun b k => .inl (s b k)) h6⟩
  | .v _ :: rs, v :: vs, Z1, c, s, q => ⟨q.1, RRs.pend (rs := rs) c s q.2⟩
  | .s _ :: _, _, _, c, _, _ => by cases c
  | [], _ :: _, _, _, _, q => q.elim
  | .f _ :: _, [], _, _, _, q => q.elim
  | .v _ :: _, [], _, _, _, q => q.elim
theorem Pend.sub {Zr Z2 M M2 : Set1} (m : ∀ b, M2 b → M b) : ∀ {rs : List R} {vs : List V}, Pend G Z Zr M H H1 rs vs → (∀ b, Zr b → ¬ Z2 b → Off b rs vs) → Pend G Z Z2 M2 H H1 rs vs
  | [], [], q, _ => trivial
  | .v _ :: rs, v :: vs, q, o => ⟨q.1.anti m, Pend.sub m q.2 fun b z n => o b z n⟩
  | .f _ :: rs, v :: vs, ⟨a, h1, h2, h3, h4, h5, h6, h7⟩, o => ⟨a, h1, h2, h3, Classical.byContradiction fun n => (o a h4 n).1 h1, h5.anti m, h6, Pend.sub m h7 fun b z n => (o b z n).2⟩
  | [], _ :: _, q, _ => q.elim
  | .s _ :: _, _, q, _ => by cases q
  | .f _ :: _, [], q, _ => q.elim
  | .v _ :: _, [], q, _ => q.elim
def less (Z : Set1) (a : Addr) : Set1 := fun b => Z b ∧ b ≠ a
theorem less_plus {Z : Set1} {a : Addr} (h : Z a) : plus (less Z a) a = Z := funext fun b => propext
  ⟨fun k => k.elim And.left fun k => k ▸ h, fun k => (Classical.em (b = a)).elim .inr fun n => .inl ⟨k, n⟩⟩
theorem putRs_ok {e0 : Env} {σ0 : L2.St} : ∀ {ts : List (Nat × Bool)} {rs : List R} {vs : List V} {e e2 : Env} {σ : L2.St} {Zr : Set1}, Rel G Z e0 σ0 H → (∀ b, Z b → Zr b) → Rel G Zr e σ H1 → Pend G Z Zr (also Zr (own e σ)) H H1 rs vs → Stp e0 σ0 H e σ H1 → putRs e ts rs = some e2 →
    Rel G Z e2 (sets σ ts vs) H1 ∧ Stp e0 σ0 H e2 (sets σ ts vs) H1 ∧ ts.length = vs.length
  | [], [], [], e, e2, σ, Zr, r0, sz, rel, q, st, h => by
    cases h
    refine ⟨rel.less sz fun i o d b hs hq => ?_, st, rfl⟩
    obtain ⟨h1, h2⟩ := st.lk i o d hs
    obtain ⟨a, a1, _, a3⟩ := r0.lk i o d h1
    rw [h2, a1] at hq
    cases hq
    exact a3
  | [], [], _ :: _, e, e2, σ, Zr, r0, sz, rel, q, st, h => q.elim
  | [], _ :: _, _, e, e2, σ, Zr, r0, sz, rel, q, st, h => by cases h
  | _ :: _, [], _, e, e2, σ, Zr, r0, sz, rel, q, st, h => by cases h
  | _ :: _, .s _ :: _, _, e, e2, σ, Zr, r0, sz, rel, q, st, h => by cases q
  | _ :: _, .v _ :: _, [], e, e2, σ, Zr, r0, sz, rel, q, st, h => q.elim
  | _ :: _, .f _ :: _, [], e, e2, σ, Zr, r0, sz, rel, q, st, h => q.elim
  | (i, ann) :: ts, .v d :: rs, v :: vs, e, e2, σ, Zr, r0, sz, rel, q, st, h => by
    have hp : putR e i ann (.v d) = some (e.set i (.pu d)) := by cases ann <;> rfl
    rw [putRs, hp] at h
    obtain ⟨l1, l2⟩ := set_low (i := i) (x := .pu d) (y := some v) rel (.inr ⟨d, v, rfl, rfl, q.1⟩)
    have sub := own_drop (e := e) (σ := σ) (i := i) (x := .pu d) (y := some v) fun _ _ z => nomatch z
    obtain ⟨k1, k2, k3⟩ := putRs_ok (ts := ts) r0 sz l1 (q.2.sub (fun b k => k.elim .inl fun k => .inr (sub b k)) fun b z n => absurd z n) (st.trans l2) h
    exact ⟨k1, k2, congrArg (· + 1) k3⟩
  | (i, ann) :: ts, .f d :: rs, v :: vs, e, e2, σ, Zr, r0, sz, rel, ⟨a, h1, h2, h3, h4, h5, h6, h7⟩, st, h => by
    subst h1
    have lk : ∀ i o d b, slot e i = .mu o true d → σ[i]? = some (some (.ref b)) → less Zr a b := fun i o d b hs hq => by
      obtain ⟨k1, k2⟩ := st.lk i o d hs
      obtain ⟨c, a1, _, a3⟩ := r0.lk i o d k1
      rw [k2, a1] at hq
      cases hq
      exact ⟨sz _ a3, fun k => h3 (k ▸ a3)⟩
    have rel1 : Rel G (less Zr a) e σ H1 := rel.less (fun _ k => k.1) lk
    have sz' : ∀ b, Z b → less Zr a b := fun b k => ⟨sz b k, fun n => h3 (n ▸ k)⟩
    have off : ∀ b, Zr b → ¬ less Zr a b → Off b rs vs := fun b z n => by
      have : b = a := Classical.byContradiction fun m => n ⟨z, m⟩
      rw [this]; exact h6
    have apart : ¬ own e σ a := by
      rw [← less_plus h4] at rel
      exact rel.apart
    have low : Rel G Z e2 (sets (σ.set i (some (.ref a))) ts vs) H1 ∧ Stp e0 σ0 H e2 (sets (σ.set i (some (.ref a))) ts vs) H1 ∧ ts.length = vs.length ∨ putR e i ann (.f d) ≠ some (e.set i (.pu d)) := by
      refine (Classical.em (putR e i ann (.f d) = some (e.set i (.pu d)))).imp (fun hp => ?_) id
      rw [putRs, hp] at h
      have rp : Rp G (also (less Zr a) (own e σ)) H1 d (.ref a) := (h5.anti fun b k => k.elim (fun k => .inl k.1) .inr).rp fun k => k.elim (fun k => k.2 rfl) apart
      obtain ⟨l1, l2⟩ := set_low (i := i) (x := .pu d) (y := some (.ref a)) rel1 (.inr ⟨d, .ref a, rfl, rfl, rp⟩)
      have sub := own_drop (e := e) (σ := σ) (i := i) (x := .pu d) (y := some (.ref a)) fun _ _ z => nomatch z
      exact putRs_ok (ts := ts) r0 sz' l1 (h7.sub (fun b k => k.elim (fun k => .inl k.1) fun k => .inr (sub b k)) off) (st.trans l2) h
    rcases low with ⟨k1, k2, k3⟩ | low
    · exact ⟨k1, k2, congrArg (· + 1) k3⟩
    · have hp : putR e i ann (.f d) = some (e.set i (.mu true false d)) := by
        cases hd : boxed d with
        | true => cases ann with
          | false => exact absurd (by rw [putR, if_neg Bool.false_ne_true]; rfl) low
          | true => rw [putR, if_pos rfl]; show (if boxed d = true then _ else _) = _; rw [if_pos hd]
        | false => cases ann with
          | false => exact absurd (by rw [putR, if_neg Bool.false_ne_true]; rfl) low
          | true => refine absurd ?_ low; rw [putR, if_pos rfl]; show (if boxed d = true then _ else _) = _; rw [hd]; rfl
      rw [putRs, hp] at h
      have relp : Rel G (plus (less Zr a) a) e σ H1 := by rw [less_plus h4]; exact rel
      have bxp : Bx G (also (plus (less Zr a) a) (own e σ)) H1 a d := by rw [less_plus h4]; exact h5
      obtain ⟨l1, l2⟩ := set_high (i := i) rel1 relp (fun k => k.2 rfl) bxp st fun u hu => by rw [h2] at hu; cases hu
      have sub : ∀ b, own (e.set i (.mu true false d)) (σ.set i (some (.ref a))) b → own e σ b ∨ b = a := by
        rintro b ⟨j, o, d', hs, hq⟩
        by_cases ij : i = j
        · subst ij
          by_cases hi : i < σ.length
          · rw [List.getElem?_set_self hi] at hq; cases hq; exact .inr rfl
          · rw [set_ge hi] at hq
            rw [List.getElem?_eq_none (by omega)] at hq; cases hq
        · rw [slot_set_ne ij] at hs
          rw [get_set_ne ij] at hq
          exact .inl ⟨j, o, d', hs, hq⟩
      obtain ⟨k1, k2, k3⟩ := putRs_ok (ts := ts) r0 sz' l1 (h7.sub (fun b k => k.elim (fun k => .inl k.1) fun k => (sub b k).elim .inr fun k => .inl (k ▸ h4)) off) l2 h
      exact ⟨k1, k2, congrArg (· + 1) k3⟩
/-- .. as a whole -/
theorem parS {ts : List (Nat × Bool)} {rs : List R} {vs : List V} (rel : Rel G Z e σ H) (rel1 : Rel G Z e1 σ H1) (st : Stp e σ H e1 σ H1) (rr : ∃ Zf, (∀ b, Zf b → Z b ∨ H b = none) ∧ RRs G e1 σ H H1 Zf Z rs vs) (c : calmRs rs = true) (h : putRs e1 ts rs = some e2) :
    Rel G Z e2 (sets σ ts vs) H1 ∧ Stp e σ H e2 (sets σ ts vs) H1 ∧ ts.length = vs.length := by
  obtain ⟨Zf, z, q⟩ := rr
  obtain ⟨r, s⟩ := RRs.sub q
  exact putRs_ok rel s r (q.pend c fun _ k => k) st h
theorem sets_two {i j : Nat} {a b : Bool} {v w : V} : sets σ [(i, a), (j, b)] [v, w] = (σ.set i (some v)).set j (some w) := rfl
/-- the pair's values, tracked -/
theorem par_imp {ts : List (Nat × Bool)} {l : E} {D : Ends} (q : tS G Z XR W (es C (.par ts l)) D σ H) : tL G Z XR W (evl C l) σ H fun vs H1 => vs.length = ts.length ∧ ∀ H', New H1 H' → D.nx (sets σ ts vs) H' := by
  obtain ⟨e, rel, q⟩ := q
  unfold es at q
  refine ⟨e, rel, (FinL.fl q).imp fun vs H1 ⟨rs, e1, _, rel1, st1, rr, q1⟩ => ?_⟩
  by_cases c : calmRs rs = true
  · rw [if_pos c] at q1
    cases hp : putRs e1 ts rs with
    | none => rw [hp] at q1; exact q1.elim
    | some e2 =>
      rw [hp] at q1
      obtain ⟨r2, s2, l2⟩ := parS rel rel1 st1 rr c hp
      exact ⟨l2.symm, fun H' n => q1 _ H' (r2.new n) (s2.trans (Stp.new n))⟩
  · rw [if_neg c] at q1
    exact q1.elim
theorem sS_par2 {i j : Nat} {ba bb : Bool} {x y : Str} {a b : Expr} {l : E} {px py pt : Pos} {kt k2 pt2} (hc : X.calm = true) (hN : X.N.Nodup) (hi : X.N[i]? = some x) (hj : X.N[j]? = some y) (hij : i ≠ j)
    (hx : X.env.scope.names.lookup x = some .local) (hy : X.env.scope.names.lookup y = some .local) (ha : PA X [a, b] (tL G Z XR W (evl C l)))
    (hw : swappedStores [.Tuple [.Name x px, .Name y py] kt pt] (.Tuple [a, b] k2 pt2) X.env = pure (some [x, y]))
    (hs : swapsWithSole [.Tuple [.Name x px, .Name y py] kt pt] (.Tuple [a, b] k2 pt2) pos.line X.env = pure false) :
    PS X (.Assign [.Tuple [.Name x px, .Name y py] kt pt] (.Tuple [a, b] k2 pt2) pos) (tS G Z XR W (es C (.par [(i, ba), (j, bb)] l))) := by
  refine ps_imp (ps_par hc hN hi hj hij hx hy ha hw hs) fun D σ H q => ?_
  obtain ⟨e, rel, q⟩ := par_imp q
  refine ⟨e, rel, q.imp fun vs H1 ⟨h1, h2⟩ => ?_⟩
  match vs, h1, h2 with
  | [v, w], _, h2 => exact ⟨v, w, rfl, h2 H1 (.refl _)⟩
theorem sS_par3 {i j m : Nat} {ba bb bc : Bool} {x y z : Str} {a b c : Expr} {l : E} {px py pz pt : Pos} {kt k2 pt2} (hc : X.calm = true) (hN : X.N.Nodup) (hi : X.N[i]? = some x) (hj : X.N[j]? = some y) (hl : X.N[m]? = some z) (hij : i ≠ j) (him : i ≠ m) (hjm : j ≠ m)
    (hx : X.env.scope.names.lookup x = some .local) (hy : X.env.scope.names.lookup y = some .local) (hz : X.env.scope.names.lookup z = some .local) (ha : PA X [a, b, c] (tL G Z XR W (evl C l)))
    (hw : swappedStores [.Tuple [.Name x px, .Name y py, .Name z pz] kt pt] (.Tuple [a, b, c] k2 pt2) X.env = pure (some [x, y, z]))
    (hs : swapsWithSole [.Tuple [.Name x px, .Name y py, .Name z pz] kt pt] (.Tuple [a, b, c] k2 pt2) pos.line X.env = pure false) :
    PS X (.Assign [.Tuple [.Name x px, .Name y py, .Name z pz] kt pt] (.Tuple [a, b, c] k2 pt2) pos) (tS G Z XR W (es C (.par [(i, ba), (j, bb), (m, bc)] l))) := by
  refine ps_imp (ps_par3 hc hN hi hj hl hij him hjm hx hy hz ha hw hs) fun D σ H q => ?_
  obtain ⟨e, rel, q⟩ := par_imp q
  refine ⟨e, rel, q.imp fun vs H1 ⟨h1, h2⟩ => ?_⟩
  match vs, h1, h2 with
  | [u, v, w], _, h2 => exact ⟨u, v, w, rfl, h2 H1 (.refl _)⟩
end
end Lt
end
section
set_option maxRecDepth 100000
namespace Lt
open PySem PySem.Spec PyProof.Rows L2
/-! what a reading tells -/
section
variable {G : Nat → Option Addr} {Z Z' : Set1} {H H' : Hp} {v : V} {K : PySem.W.Frag}
theorem Rt.toInt {i : Int} (h : Rt G Z H (.int i) v) : v = .int i := by
  rcases h with h | ⟨_, h⟩
  · cases h; rfl
  · exact h.elim
theorem Rt.toBl {b : Bool} (h : Rt G Z H (.bl b) v) : v = .bl b := by
  rcases h with h | ⟨_, h⟩
  · cases h; rfl
  · exact h.elim
theorem Rt.toStr {x : Str} (h : Rt G Z H (.str x) v) : v = .str x ∧ PyData.strOk x = true := by
  rcases h with h | ⟨_, h⟩
  · cases h; exact ⟨rfl, ‹_›⟩
  · exact h.elim
theorem Rt.toNon (h : Rt G Z H .non v) : v = .non := by
  rcases h with h | ⟨_, h⟩
  · cases h; rfl
  · exact h.elim
theorem Rt.toLst {ds : List D} (h : Rt G Z H (.lst ds) v) : ∃ a xs, v = .ref a ∧ Rd H a (.lst xs) ∧ Rps G Z H ds xs := by
  rcases h with h | ⟨e, h⟩
  · cases h with
    | lst h1 h2 h3 => exact ⟨_, _, rfl, h1, h3⟩
  · obtain ⟨xs, h1, h2⟩ := h
    exact ⟨_, xs, e, .inl h1, h2⟩
theorem Rt.toTup {ds : List D} (h : Rt G Z H (.tup ds) v) : ∃ a xs, v = .ref a ∧ Tu H a xs ∧ Rps G Z H ds xs := by
  rcases h with h | ⟨_, h⟩
  · cases h with
    | tup h1 h2 => exact ⟨_, _, rfl, h1, h2⟩
  · exact h.elim
/-- a list or a tuple -/
theorem Rt.toSq {d : D} {ds : List D} (h : Rt G Z H d v) (e : items d = some ds) : ∃ a xs, v = .ref a ∧ (SqL K H a xs ∨ SqT K H a xs) ∧ Rps G Z H ds xs := by
  cases d with
  | tup l =>
    cases e
    obtain ⟨a, xs, h1, h2, h3⟩ := h.toTup
    exact ⟨a, xs, h1, .inr (.inl h2.rd), h3⟩
  | lst l =>
    cases e
    obtain ⟨a, xs, h1, h2, h3⟩ := h.toLst
    exact ⟨a, xs, h1, .inl (.inl h2), h3⟩
  | _ => cases e
theorem RN.val {d : D} (h : Rp G Z H' d v) : RN G Z H H' (.v d) v := h
/-- a tuple that was just laid -/
abbrev tuO (us : List Value) : Obj := { cls := .type "tuple", data := .seq us.toArray }
theorem RN.newT {ds : List D} {xs : List V} {p : Addr} {us : List Value} (hp : H p = none) (h : Rps G Z H ds xs) : RN G Z H (upd H p (.frz (tuO us) (.tup xs))) (.v (.tup ds)) (.ref p) :=
  Rp.tup ⟨_, upd_same, rfl⟩ (h.step ((New.upd hp).keeps _))
theorem RN.newL {ds : List D} {xs : List V} {p : Addr} (hp : H p = none) (h : Rps G Z H ds xs) : RN G Z H (upd H p (.lst xs)) (.f (.lst ds)) (.ref p) :=
  ⟨p, rfl, hp, ⟨xs, upd_same, (h.away hp).step ((New.upd hp).keeps _)⟩, trivial⟩
theorem Rps.toInts : ∀ {ds : List D} {xs : List V} {is : List Int}, Rps G Z H ds xs → Lt.intz ds = some is → xs = is.map V.int
  | [], _, _, .nil, e => by cases e; rfl
  | .int i :: r, _, is, .cons h t, e => by
    cases h
    have e' : (Lt.intz r).map (i :: ·) = some is := e
    cases hr : Lt.intz r with
    | none => rw [hr] at e'; cases e'
    | some js =>
      rw [hr] at e'
      cases e'
      rw [Rps.toInts t hr]
      rfl
theorem Rps.toBools : ∀ {ds : List D} {xs : List V} {is : List Bool}, Rps G Z H ds xs → Lt.bools ds = some is → xs = is.map V.bl
  | [], _, _, .nil, e => by cases e; rfl
  | .bl i :: r, _, is, .cons h t, e => by
    cases h
    have e' : (Lt.bools r).map (i :: ·) = some is := e
    cases hr : Lt.bools r with
    | none => rw [hr] at e'; cases e'
    | some js =>
      rw [hr] at e'
      cases e'
      rw [Rps.toBools t hr]
      rfl
theorem Rps.ofInts : ∀ (is : List Int), Rps G Z H (is.map D.int) (is.map V.int)
  | [] => .nil
  | i :: r => .cons (.int i) (Rps.ofInts r)
end
/-! ### operators -/
section
variable {X : Cx} {G : Nat → Option Addr}
theorem rdL {pins : List (Addr × Obj)} {σ : L2.St} {H : Hp} {s : Shared} {a : Addr} {xs : List V} (I : Inv X pins σ H s) (h : Rd H a (.lst xs)) :
    xs.length ≤ sizeLine ∧ ∃ (its : List Value) (n : Nat), Vals xs its ∧ xs.length = its.length ∧ s.heap.get? a = some { cls := .type "list", data := .seq its.toArray n } := by
  obtain ⟨z, its, n, r, e⟩ := h.ok I.hok
  exact ⟨z, its, n, r, r.length, e⟩
theorem laidT {pins : List (Addr × Obj)} {σ : L2.St} {H : Hp} {s : Shared} {us : List Value} {xs : List V} {t' : Nat} (I : Inv X pins σ H s) (r : Vals xs us) (hz : xs.length ≤ sizeLine) :
    Inv X pins σ (upd H s.heap.objs.size (.frz (tuO us) (.tup xs))) { s with heap := s.heap.push (tuO us), toks := t' } :=
  I.laid (o := .frz (tuO us) (.tup xs)) (fun b u e => Heap.get?_push_of_some _ e) (Nat.le_refl _) ⟨Heap.get?_push_size _ rfl, hz, us, r, ⟨_, Heap.get?_push_size _ rfl, rfl, _, rfl⟩⟩
theorem strOk_app {x y : Str} (hx : PyData.strOk x = true) (hy : PyData.strOk y = true) : PyData.strOk (x ++ y) = true := by
  show ((x.cps ++ y.cps).all fun c => decide (c < 0x110000)) = true
  rw [Array.all_append]
  exact Bool.and_eq_true_iff.mpr ⟨hx, hy⟩
theorem sumOk {α β : Type} {a b : List α} {xs ys : List β} (l1 : a.length = xs.length) (l2 : b.length = ys.length) (h : a.length + b.length ≤ lim) : xs.length + ys.length ≤ sizeLine := by
  rw [← lim_eq]; omega
theorem smallOk {i j : Int} (h : (small64 i || small64 j) = true) : CMul i j := by
  rcases Bool.or_eq_true_iff.mp h with h | h
  · obtain ⟨a, b⟩ := Bool.and_eq_true_iff.mp h
    exact .inl ⟨by have := of_decide_eq_true a; omega, by have := of_decide_eq_true b; omega⟩
  · obtain ⟨a, b⟩ := Bool.and_eq_true_iff.mp h
    exact .inr ⟨by have := of_decide_eq_true a; omega, by have := of_decide_eq_true b; omega⟩
theorem oAdd : OpR X (binaryOp .Add) (r2 G (binD .add)) := by
  intro pins s σ H x y v u Q I rx ry ⟨Z, d, d', h, h', r, e, k⟩
  cases d with
  | int i =>
    cases d' with
    | int j =>
      cases e
      exact op_add pins s σ H x y v u Q I rx ry ⟨i, j, h.toInt, h'.toInt, k _ H (.refl _) (Rp.int _)⟩
    | _ => cases e
  | str a =>
    cases d' with
    | str b =>
      have e' : (if a.length + b.length ≤ lim then some (R.v (.str (a ++ b))) else none) = some r := e
      by_cases hl : a.length + b.length ≤ lim
      · rw [if_pos hl] at e'
        cases e'
        obtain ⟨rfl, ox⟩ := h.toStr
        obtain ⟨rfl, oy⟩ := h'.toStr
        exact op_add_str pins s σ H _ _ v u Q I rx ry ⟨a, b, rfl, rfl, by rw [← lim_eq]; exact hl, k _ H (.refl _) (Rp.str _ (strOk_app ox oy))⟩
      · rw [if_neg hl] at e'; cases e'
    | _ => cases e
  | tup a =>
    cases d' with
    | tup b =>
      have e' : (if a.length + b.length ≤ lim then some (R.v (.tup (a ++ b))) else none) = some r := e
      by_cases hl : a.length + b.length ≤ lim
      · rw [if_pos hl] at e'
        cases e'
        obtain ⟨p, xs, rfl, hp, hxs⟩ := h.toTup
        obtain ⟨q, ys, rfl, hq, hys⟩ := h'.toTup
        have l1 := hxs.length
        have l2 := hys.length
        have hz : xs.length + ys.length ≤ sizeLine := sumOk l1 l2 hl
        cases rx
        cases ry
        obtain ⟨its, r1, p1, _⟩ := I.tuple (.inl hp.rd)
        obtain ⟨its2, r2, p2, _⟩ := I.tuple (.inl hq.rd)
        by_cases hx : xs = []
        · subst hx
          cases r1
          cases hxs
          exact cat_tup0 p1 p2 ⟨.ref q, H, I, rfl, k _ H (.refl _) (Rp.tup hq hys)⟩
        · refine HT.cat_tup p1 p2 (fun z => hx (r1.nil_iff.mp z)) (fun z => ⟨.ref p, H, I, rfl, ?_⟩) (fun z => ?_) (by rw [← r1.length, ← r2.length]; exact hz)
          · have := r2.nil_iff.mp z
            subst this
            cases hys
            rw [List.append_nil] at k
            exact k _ H (.refl _) (Rp.tup hp hxs)
          · exact ⟨.ref s.heap.objs.size, _, laidT (t' := s.toks) I (r1.append r2) (by rw [List.length_append]; exact hz), rfl, k _ _ (New.upd I.fresh) (RN.newT I.fresh (hxs.append hys))⟩
      · rw [if_neg hl] at e'; cases e'
    | _ => cases e
  | lst a =>
    cases d' with
    | lst b =>
      have e' : (if a.length + b.length ≤ lim then some (R.f (.lst (a ++ b))) else none) = some r := e
      by_cases hl : a.length + b.length ≤ lim
      · rw [if_pos hl] at e'
        cases e'
        obtain ⟨p, xs, rfl, hp, hxs⟩ := h.toLst
        obtain ⟨q, ys, rfl, hq, hys⟩ := h'.toLst
        have l1 := hxs.length
        have l2 := hys.length
        cases rx
        cases ry
        obtain ⟨z, its, n, r1, hl1, e1⟩ := rdL I hp
        obtain ⟨z2, its2, n2, r2, hl2, e2⟩ := rdL I hq
        have hz : xs.length + ys.length ≤ sizeLine := sumOk l1 l2 hl
        refine PySem.P.add_list e1 e2 ?_ (by rw [List.size_toArray, List.size_toArray]; omega)
        have ea : its.toArray ++ its2.toArray = (its ++ its2).toArray := by simp
        rw [ea]
        exact ⟨.ref _, _, I.lnew (t' := s.toks) (r1.append r2) (by rw [List.length_append]; omega), rfl, k _ _ (New.upd I.fresh) (RN.newL I.fresh (hxs.append hys))⟩
      · rw [if_neg hl] at e'; cases e'
    | _ => cases e
  | _ => cases e
theorem oSub : OpR X (binaryOp .Sub) (r2 G (binD .sub)) := by
  intro pins s σ H x y v u Q I rx ry ⟨Z, d, d', h, h', r, e, k⟩
  cases d with
  | int i =>
    cases d' with
    | int j =>
      cases e
      exact op_sub pins s σ H x y v u Q I rx ry ⟨i, j, h.toInt, h'.toInt, k _ H (.refl _) (Rp.int _)⟩
    | _ => cases e
  | _ => cases e
theorem oDiv : OpR X (binaryOp .FloorDiv) (r2 G (binD .fdiv)) := by
  intro pins s σ H x y v u Q I rx ry ⟨Z, d, d', h, h', r, e, k⟩
  cases d with
  | int i =>
    cases d' with
    | int j =>
      have e' : (if 0 < j ∧ j < 1073741824 then some (R.v (.int (i / j))) else none) = some r := e
      by_cases hj : 0 < j ∧ j < 1073741824
      · rw [if_pos hj] at e'
        cases e'
        exact op_fdiv pins s σ H x y v u Q I rx ry ⟨i, j, h.toInt, h'.toInt, hj, k _ H (.refl _) (Rp.int _)⟩
      · rw [if_neg hj] at e'; cases e'
    | _ => cases e
  | _ => cases e
theorem oMod : OpR X (binaryOp .Mod) (r2 G (binD .mod)) := by
  intro pins s σ H x y v u Q I rx ry ⟨Z, d, d', h, h', r, e, k⟩
  cases d with
  | int i =>
    cases d' with
    | int j =>
      have e' : (if 0 < j then some (R.v (.int (i % j))) else none) = some r := e
      by_cases hj : 0 < j
      · rw [if_pos hj] at e'
        cases e'
        exact op_mod pins s σ H x y v u Q I rx ry ⟨i, j, h.toInt, h'.toInt, hj, k _ H (.refl _) (Rp.int _)⟩
      · rw [if_neg hj] at e'; cases e'
    | _ => cases e
  | _ => cases e
theorem oPow : OpR X (binaryOp .Pow) (r2 G (binD .pow)) := by
  intro pins s σ H x y v u Q I rx ry ⟨Z, d, d', h, h', r, e, k⟩
  cases d with
  | int i =>
    cases d' with
    | int j =>
      have e' : (if 0 ≤ j ∧ j ≤ 1000 ∧ i.natAbs < 18446744073709551616 then some (R.v (.int (i ^ j.toNat))) else none) = some r := e
      by_cases hj : 0 ≤ j ∧ j ≤ 1000 ∧ i.natAbs < 18446744073709551616
      · rw [if_pos hj] at e'
        cases e'
        exact op_pow pins s σ H x y v u Q I rx ry ⟨i, j, h.toInt, h'.toInt, ⟨hj.1, by omega, by omega⟩, k _ H (.refl _) (Rp.int _)⟩
      · rw [if_neg hj] at e'; cases e'
    | _ => cases e
  | _ => cases e
theorem tuple_mul1 (l : Addr) (items : Array Value) (n : Nat) (dd : Option Addr) (sl : Array (Option Value)) (x : Int) (u : Tok) (c0 : (decide (x < -(2 ^ 63)) || decide (x ≥ 2 ^ 63)) = false) (c1 : (items.isEmpty || x == 1) = true) :
    Meets (Builtin.«tuple.__mul__» ⟨[.ref l, .int x u], []⟩) (fun _ R s => s.heap.get? l = some { cls := .type "tuple", dict := dd, data := .seq items n, slots := sl } ∧ R (.ok (.ret (.ref l))) s) :=
  .of_wp fun prog w A R s h => by
    obtain ⟨hp, g, d, tk, os⟩ := s
    obtain ⟨hl, h⟩ := h
    have f1 := AutoSeq1.idx_int
    wp_walk using wpAny_loadPart' hl
    repeat (first
      | (refine wpAny_ite_false (decide_eq_false (by rw [c0]; exact Bool.false_ne_true)) ?_; wp_walk using wpAny_loadPart' hl)
      | (refine wpAny_ite_true (decide_eq_true c1) ?_; wp_walk using wpAny_loadPart' hl))
    exact ⟨_, rfl, h⟩
/-- a tuple times 1, or an empty one -/
theorem op_rep1 {l : Addr} {k : Int} {xs : List V} {pins : List (Addr × Obj)} {s : Shared} {σ : L2.St} {H : Hp} {v u : Value} {Q : VK} (I : Inv X pins σ H s) (rx : RelV (.ref l) v) (ry : RelV (.int k) u) (hT : SqT X.K H l xs) (h : (xs.isEmpty || k == 1) = true) (h1 : -(2 ^ 63) ≤ k) (h2 : k < 2 ^ 63) (q : Q (.ref l) H) :
    wpAny (model X.prog X.w) X.A (binaryOp .Mult v u) (EP X pins σ Q) X.xe s := by
  cases rx
  obtain ⟨t, rfl⟩ := ry
  obtain ⟨its, r, ⟨⟨cls, dd, data, sl⟩, ho, hc, n, hd⟩, hs⟩ := I.tuple hT
  simp only at hc hd
  subst hc hd
  have c0 : (decide (k < -(2 ^ 63)) || decide (k ≥ 2 ^ 63)) = false := by
    rw [decide_eq_false (by omega), decide_eq_false (by omega)] <;> rfl
  have c1 : (its.toArray.isEmpty || k == 1) = true := by
    cases r with
    | nil => exact h
    | cons a b => exact h
  refine wpAny_binaryOp_repeat_ref (T := "tuple") (U := "int") (by decide) ⟨_, ho, rfl⟩ (fun s' => typeIs_int s' k t) noFill_tuple_mul F.fills_int_mul F.slot_int_rmul repeat_tuple F.slot_int_index.lookup
    (call_meets F.slot_int_rmul (typeIs_int s k t) F.entry_int_rmul (F.args_int_rmul_2 _ _) (int_rmul_tuple k t l its.toArray n dd sl)
      ⟨ho, rfl, ⟨_, ho, rfl⟩, call_meets F.slot_tuple_mul ⟨_, ho, rfl⟩ F.entry_tuple_mul (F.args_tuple_mul_2 _ _) (tuple_mul1 l its.toArray n dd sl k t c0 c1) ⟨ho, ?_⟩⟩)
  exact ⟨.ref l, H, I, rfl, q⟩
theorem op_repF {l : Addr} {k : Int} {xs : List V} {pins : List (Addr × Obj)} {s : Shared} {σ : L2.St} {H : Hp} {v u : Value} {Q : VK} (I : Inv X pins σ H s) (rx : RelV (.ref l) v) (ry : RelV (.int k) u) (hT : SqT X.K H l xs) (hne : xs ≠ []) (h1 : 2 ≤ k) (h2 : k ≤ 1000) (hz : xs.length ≤ 1000)
    (q : ∀ us : List Value, H s.heap.objs.size = none → Q (.ref s.heap.objs.size) (upd H s.heap.objs.size (.frz (tuO us) (.tup (List.replicate k.toNat xs).flatten)))) : wpAny (model X.prog X.w) X.A (binaryOp .Mult v u) (EP X pins σ Q) X.xe s := by
  cases rx
  obtain ⟨t, rfl⟩ := ry
  obtain ⟨its, r, ⟨⟨cls, dd, data, sl⟩, ho, hc, n, hd⟩, hs⟩ := I.tuple hT
  simp only at hc hd
  subst hc hd
  have hle : its.length = xs.length := r.length.symm
  have hi : its.toArray.isEmpty = false := by
    cases r with
    | nil => exact absurd rfl hne
    | cons _ _ => rfl
  have hsz0 : its.toArray.size = xs.length := by rw [List.size_toArray, hle]
  have hm : ((its.toArray.size : Nat) : Int) * k ≤ 1000000 := by
    rw [hsz0]
    have a1 : ((xs.length : Nat) : Int) * k ≤ 1000 * k := Int.mul_le_mul_of_nonneg_right (by omega) (by omega)
    omega
  have rlen : (List.replicate k.toNat xs).flatten.length ≤ sizeLine := by
    rw [PyProof.Rows.lm_len_rep_flat, sizeLine_eq]
    have a1 : k.toNat * xs.length ≤ 1000 * 1000 := Nat.mul_le_mul (by omega) hz
    omega
  have flen : (List.replicate k.toNat its).flatten.length ≤ sizeLine := by rw [← (r.rep k.toNat).length]; exact rlen
  have c0 : (decide (k < -(2 ^ 63)) || decide (k ≥ 2 ^ 63)) = false := by
    rw [decide_eq_false (by omega), decide_eq_false (by omega)] <;> rfl
  have c1 : (its.toArray.isEmpty || k == 1) = false := by rw [hi]; exact beq_eq_false_iff_ne.mpr (by omega)
  have c2 : (decide (k ≤ 0) || its.toArray.isEmpty) = false := by rw [hi, Bool.or_false]; exact decide_eq_false (by omega)
  have c4 : Builtin.Tuple.tupleTooMany (((its.toArray.size : Nat) : Int) * k) = false := by
    unfold Builtin.Tuple.tupleTooMany
    rw [sizeLine_eq]
    exact decide_eq_false (by omega)
  refine wpAny_binaryOp_repeat_ref (T := "tuple") (U := "int") (by decide) ⟨_, ho, rfl⟩ (fun s' => typeIs_int s' k t) noFill_tuple_mul F.fills_int_mul F.slot_int_rmul repeat_tuple F.slot_int_index.lookup
    (call_meets F.slot_int_rmul (typeIs_int s k t) F.entry_int_rmul (F.args_int_rmul_2 _ _) (int_rmul_tuple k t l its.toArray n dd sl)
      ⟨ho, rfl, ⟨_, ho, rfl⟩, call_meets F.slot_tuple_mul ⟨_, ho, rfl⟩ F.entry_tuple_mul (F.args_tuple_mul_2 _ _) (tuple_mulW l its.toArray n dd sl k t c0 c1 c2 (by omega) c4 (by rw [size_rep, List.size_toArray]; exact flen)) ⟨ho, ?_⟩⟩)
  rw [size_rep]
  exact ⟨.ref s.heap.objs.size, _, laidT (t' := s.toks) I (r.rep k.toNat) rlen, rfl, q _ I.fresh⟩
theorem rep_one {α : Type} (l : List α) : rep l 1 = l := by
  show (List.replicate 1 l).flatten = l
  simp
theorem rep_nil {α : Type} (k : Int) : rep ([] : List α) k = [] := by
  unfold rep
  simp
theorem oMul : OpR X (binaryOp .Mult) (r2 G (binD .mul)) := by
  intro pins s σ H x y v u Q I rx ry ⟨Z, d, d', h, h', r, e, k⟩
  cases d with
  | int i =>
    cases d' with
    | int j =>
      have e' : (if (small64 i || small64 j) = true then some (R.v (.int (i * j))) else none) = some r := e
      by_cases hj : (small64 i || small64 j) = true
      · rw [if_pos hj] at e'
        cases e'
        exact op_mul pins s σ H x y v u Q I rx ry ⟨i, j, h.toInt, h'.toInt, smallOk hj, k _ H (.refl _) (Rp.int _)⟩
      · rw [if_neg hj] at e'; cases e'
    | _ => cases e
  | tup a =>
    cases d' with
    | int j =>
      have e' : (if a.length ≤ 1000 ∧ 1 ≤ j ∧ j ≤ 1000 then some (R.v (.tup (rep a j))) else none) = some r := e
      by_cases hj : a.length ≤ 1000 ∧ 1 ≤ j ∧ j ≤ 1000
      · rw [if_pos hj] at e'
        cases e'
        obtain ⟨p, xs, rfl, hp, hxs⟩ := h.toTup
        cases h'.toInt
        have l1 := hxs.length
        by_cases one : (xs.isEmpty || j == 1) = true
        · refine op_rep1 I rx ry (.inl hp.rd) one (by omega) (by omega) (k _ H (.refl _) (Rp.tup hp ?_))
          rcases Bool.or_eq_true_iff.mp one with o | o
          · cases hxs with
            | nil => rw [rep_nil]; exact .nil
            | cons _ _ => cases o
          · rw [eq_of_beq o, rep_one]; exact hxs
        · have ne : xs ≠ [] := fun z => one (by rw [z]; rfl)
          have n1 : j ≠ 1 := fun z => one (by rw [z]; simp)
          exact op_repF I rx ry (.inl hp.rd) ne (by omega) hj.2.2 (by omega) fun us hw => k _ _ (New.upd hw) (RN.newT hw (hxs.rep j.toNat))
      · rw [if_neg hj] at e'; cases e'
    | _ => cases e
  | lst a =>
    cases d' with
    | int j =>
      have e' : (if a.length * j.toNat ≤ lim ∧ j < 16777216 ∧ -16777216 < j then some (R.f (.lst (rep a j))) else none) = some r := e
      by_cases hj : a.length * j.toNat ≤ lim ∧ j < 16777216 ∧ -16777216 < j
      · rw [if_pos hj] at e'
        cases e'
        obtain ⟨p, xs, rfl, hp, hxs⟩ := h.toLst
        cases h'.toInt
        have l1 := hxs.length
        have hz : xs.length * j.toNat ≤ sizeLine := by rw [← lim_eq, ← l1]; exact hj.1
        have h1 : -(2 ^ 63) ≤ j := by omega
        have h2 : j < 2 ^ 63 := by omega
        cases rx
        obtain ⟨t, rfl⟩ := ry
        obtain ⟨z, its, n, r, hl, e⟩ := rdL I hp
        have hlen : its.toArray.size * j.toNat ≤ sizeLine := by rw [List.size_toArray, ← hl]; exact hz
        have hcap : ¬ its.toArray.size * j.toNat > (2 ^ 63 - 1) / 8 := by
          have : (sizeLine : Nat) ≤ (2 ^ 63 - 1) / 8 := by decide
          omega
        have hfit : ¬ (!Builtin.List.listFitsIndex j) = true := by
          rw [fitsIndex_both h1 h2]
          exact Bool.false_ne_true
        have hlong : ¬ Builtin.List.listTooLong (its.toArray.size * j.toNat) = true := by
          rw [notLongL hlen]
          exact Bool.false_ne_true
        have hnew : List.foldl (fun x1 x2 => x1 ++ x2) #[] (List.replicate (if its.toArray.isEmpty = true then 0 else j.toNat) its.toArray) = (List.replicate j.toNat its).flatten.toArray := by
          rw [size_rep]
          cases its with
          | nil => simp
          | cons a r' => rw [if_neg (by simp)]
        refine wpAny_binaryOp_repeat_ref (T := "list") (U := "int") (by decide) ⟨_, e, rfl⟩ (fun s' => typeIs_int s' j t) noFill_list_mul F.fills_int_mul F.slot_int_rmul repeat_list F.slot_int_index.lookup
          (call_meets F.slot_int_rmul (typeIs_int s j t) F.entry_int_rmul (F.args_int_rmul_2 _ _) (int___rmul___int_list j t p its.toArray n)
            ⟨e, rfl, ⟨_, e, rfl⟩, call_meets F.slot_list_mul ⟨_, e, rfl⟩ F.entry_list_mul (F.args_list_mul_2 _ _) (AutoListH.list___mul___list_int_3 p its.toArray n j t hfit hcap hlong) ⟨e, ?_⟩⟩)
        rw [hnew]
        exact ⟨.ref _, _, I.lnew (t' := s.toks) (r.rep j.toNat) (by rw [PyProof.Rows.lm_len_rep_flat, Nat.mul_comm]; exact hz), rfl, k _ _ (New.upd I.fresh) (RN.newL I.fresh (hxs.rep j.toNat))⟩
      · rw [if_neg hj] at e'; cases e'
    | _ => cases e
  | _ => cases e
end
end Lt
end
section
set_option maxRecDepth 100000
namespace Lt
open PySem PySem.Spec PyProof.Rows L2
/-! plain values as data -/
mutual
def D.pd : D → PyData
  | .bl b => .bool b
  | .int i => .int i
  | .str x => .str x
  | .lst l => .list (D.pds l)
  | .tup l => .tuple (D.pds l)
  | _ => .none
def D.pds : List D → List PyData
  | [] => []
  | x :: xs => D.pd x :: D.pds xs
end
mutual
theorem pd_depth : ∀ d : D, d.pd.depth = d.depth
  | .non => rfl
  | .bl _ => rfl
  | .int _ => rfl
  | .str _ => rfl
  | .lst l => by
    show PyData.depth (.list (D.pds l)) = D.depths l + 1
    rw [PyData.depth, pds_depth l]
  | .tup l => by
    show PyData.depth (.tuple (D.pds l)) = D.depths l + 1
    rw [PyData.depth, pds_depth l]
  | .dic _ => rfl
  | .fn _ => rfl
  | .exc _ _ => rfl
theorem pds_depth : ∀ l : List D, PyData.depthAll (D.pds l) = D.depths l
  | [] => rfl
  | x :: xs => by
    show PyData.depthAll (D.pd x :: D.pds xs) = max (D.depth x) (D.depths xs)
    rw [PyData.depthAll, pd_depth x, pds_depth xs]
end
mutual
theorem pd_eqv : ∀ {a b : D}, a.plain = true → b.plain = true → PyData.eqv a.pd b.pd = a.eqv b
  | .non, .non, _, _ => rfl
  | .non, .bl _, _, _ => rfl
  | .non, .int _, _, _ => rfl
  | .non, .str _, _, _ => rfl
  | .non, .lst _, _, _ => rfl
  | .non, .tup _, _, _ => rfl
  | .bl _, .non, _, _ => rfl
  | .bl _, .bl _, _, _ => rfl
  | .bl _, .int _, _, _ => rfl
  | .bl _, .str _, _, _ => rfl
  | .bl _, .lst _, _, _ => rfl
  | .bl _, .tup _, _, _ => rfl
  | .int _, .non, _, _ => rfl
  | .int _, .bl _, _, _ => rfl
  | .int _, .int _, _, _ => rfl
  | .int _, .str _, _, _ => rfl
  | .int _, .lst _, _, _ => rfl
  | .int _, .tup _, _, _ => rfl
  | .str _, .non, _, _ => rfl
  | .str _, .bl _, _, _ => rfl
  | .str _, .int _, _, _ => rfl
  | .str _, .str _, _, _ => rfl
  | .str _, .lst _, _, _ => rfl
  | .str _, .tup _, _, _ => rfl
  | .lst _, .non, _, _ => rfl
  | .lst _, .bl _, _, _ => rfl
  | .lst _, .int _, _, _ => rfl
  | .lst _, .str _, _, _ => rfl
  | .lst _, .tup _, _, _ => rfl
  | .tup _, .non, _, _ => rfl
  | .tup _, .bl _, _, _ => rfl
  | .tup _, .int _, _, _ => rfl
  | .tup _, .str _, _, _ => rfl
  | .tup _, .lst _, _, _ => rfl
  | .lst x, .lst y, p, q => pds_eqv (a := x) (b := y) p q
  | .tup x, .tup y, p, q => pds_eqv (a := x) (b := y) p q
theorem pds_eqv : ∀ {a b : List D}, D.plains a = true → D.plains b = true → PyData.eqvAll (D.pds a) (D.pds b) = D.eqvs a b
  | [], [], _, _ => rfl
  | [], _ :: _, _, _ => rfl
  | _ :: _, [], _, _ => rfl
  | x :: xs, y :: ys, p, q => by
    obtain ⟨p1, p2⟩ := Bool.and_eq_true_iff.mp p
    obtain ⟨q1, q2⟩ := Bool.and_eq_true_iff.mp q
    show (PyData.eqv x.pd y.pd && PyData.eqvAll (D.pds xs) (D.pds ys)) = (x.eqv y && D.eqvs xs ys)
    rw [pd_eqv p1 q1, pds_eqv p2 q2]
end
section
variable {G : Nat → Option Addr} {Z : Set1} {H : Hp} {K : PySem.W.Frag}
mutual
theorem Rp.dp : ∀ {d : D} {v : V}, Rp G Z H d v → d.plain = true → Dp K H v d.pd ∧ d.pd.canLay0 = true
  | .non, _, .non, _ => ⟨.non, rfl⟩
  | .bl _, _, .bl b, _ => ⟨.bl b, rfl⟩
  | .int _, _, .int i, _ => ⟨.int i, rfl⟩
  | .str _, _, .str x ok, _ => ⟨.str x, ok⟩
  | .lst ds, _, .lst h1 h2 h3, p => by
    obtain ⟨q1, q2⟩ := Rps.dp h3 p
    exact ⟨.lst (.inl h1) q1, q2⟩
  | .tup ds, _, .tup h1 h3, p => by
    obtain ⟨q1, q2⟩ := Rps.dp h3 p
    exact ⟨.tup (.inl h1.rd) q1, q2⟩
theorem Rps.dp : ∀ {ds : List D} {vs : List V}, Rps G Z H ds vs → D.plains ds = true → DpAll K H vs (D.pds ds) ∧ PyData.canLayAll0 (D.pds ds) = true
  | [], _, .nil, _ => ⟨.nil, rfl⟩
  | x :: xs, _, .cons h t, p => by
    obtain ⟨p1, p2⟩ := Bool.and_eq_true_iff.mp p
    obtain ⟨a1, a2⟩ := Rp.dp h p1
    obtain ⟨b1, b2⟩ := Rps.dp t p2
    exact ⟨.cons a1 b1, Bool.and_eq_true_iff.mpr ⟨a2, b2⟩⟩
end
theorem Rt.dp {d : D} {v : V} (h : Rt G Z H d v) (p : d.plain = true) : Dp K H v d.pd ∧ d.pd.canLay0 = true := by
  rcases h with h | ⟨e, h⟩
  · exact h.dp p
  · cases d with
    | lst ds =>
      obtain ⟨xs, h1, h2⟩ := h
      obtain ⟨q1, q2⟩ := Rps.dp (K := K) h2 p
      subst e
      exact ⟨.lst (.inl (.inl h1)) q1, q2⟩
    | _ => exact h.elim
end
theorem depth_ok {a b : D} {n : Nat} (h : eqOk a b = true) (hu : n + 64 < cLine) : a.plain = true ∧ b.plain = true ∧ n + min a.pd.depth b.pd.depth < cLine := by
  obtain ⟨h1, h2⟩ := Bool.and_eq_true_iff.mp h
  obtain ⟨h3, h4⟩ := Bool.and_eq_true_iff.mp h1
  refine ⟨h3, h4, ?_⟩
  rw [pd_depth, pd_depth]
  rcases Bool.or_eq_true_iff.mp h2 with h | h
  · have := of_decide_eq_true h; omega
  · have := of_decide_eq_true h; omega
section
variable {X : Cx} {G : Nat → Option Addr}
theorem oEq (hu : X.A.units + 65 < cLine) : OpR X (compareOp .Eq) (r2B G (cmpD .eq)) := by
  intro pins s σ H x y v u Q I rx ry ⟨Z, d, d', h, h', b, e, k⟩
  have e' : (if eqOk d d' = true then some (d.eqv d') else none) = some b := e
  by_cases ok : eqOk d d' = true
  · rw [if_pos ok] at e'
    cases e'
    obtain ⟨p1, p2, p3⟩ := depth_ok (n := X.A.units) ok (by omega)
    obtain ⟨a1, a2⟩ := h.dp (K := X.K) p1
    obtain ⟨b1, b2⟩ := h'.dp (K := X.K) p2
    obtain ⟨as, r1⟩ := Dp.reads I _ x v a1 rx
    obtain ⟨bs, r2⟩ := Dp.reads I _ y u b1 ry
    exact SeqAt.compareEq_reads r1 r2 a2 b2 p3 (by rw [pd_eqv p1 p2]; exact ⟨.bl _, H, I, rfl, k⟩)
  · rw [if_neg ok] at e'; cases e'
theorem oNe (hu : X.A.units + 65 < cLine) : OpR X (compareOp .NotEq) (r2B G (cmpD .ne)) := by
  intro pins s σ H x y v u Q I rx ry ⟨Z, d, d', h, h', b, e, k⟩
  have e' : (if eqOk d d' = true then some (d.eqv d') else none).map (!·) = some b := e
  by_cases ok : eqOk d d' = true
  · rw [if_pos ok] at e'
    cases e'
    obtain ⟨p1, p2, p3⟩ := depth_ok (n := X.A.units) ok (by omega)
    obtain ⟨a1, a2⟩ := h.dp (K := X.K) p1
    obtain ⟨b1, b2⟩ := h'.dp (K := X.K) p2
    obtain ⟨as, r1⟩ := Dp.reads I _ x v a1 rx
    obtain ⟨bs, r2⟩ := Dp.reads I _ y u b1 ry
    exact SeqAt.compareNe_reads r1 r2 a2 b2 p3 (by rw [pd_eqv p1 p2]; exact ⟨.bl _, H, I, rfl, k⟩)
  · rw [if_neg ok] at e'; cases e'
theorem intsOf {c : Cm} {f : Int → Int → Bool} {x y : V} {H : Hp} {Z : Set1} {d d' : D} {b : Bool} (hf : ∀ i j, cmpD c (.int i) (.int j) = some (f i j)) (hn : ∀ d d', (∀ i j, ¬ (d = .int i ∧ d' = .int j)) → cmpD c d d' = none) (h : Rt G Z H d x) (h' : Rt G Z H d' y) (e : cmpD c d d' = some b) :
    ∃ i j, x = .int i ∧ y = .int j ∧ b = f i j := by
  by_cases z : ∃ i j, d = .int i ∧ d' = .int j
  · obtain ⟨i, j, rfl, rfl⟩ := z
    rw [hf] at e
    cases e
    exact ⟨i, j, h.toInt, h'.toInt, rfl⟩
  · rw [hn d d' fun i j k => z ⟨i, j, k⟩] at e
    cases e
theorem oLt : OpR X (compareOp .Lt) (r2B G (cmpD .lt)) := by
  intro pins s σ H x y v u Q I rx ry ⟨Z, d, d', h, h', b, e, k⟩
  obtain ⟨i, j, h1, h2, h3⟩ := intsOf (f := fun i j => decide (i < j)) (fun _ _ => rfl) (fun d d' n => by cases d <;> cases d' <;> first | rfl | exact absurd ⟨rfl, rfl⟩ (n _ _)) h h' e
  subst h3
  exact op_lt pins s σ H x y v u Q I rx ry ⟨i, j, h1, h2, k⟩
theorem oLe : OpR X (compareOp .LtE) (r2B G (cmpD .le)) := by
  intro pins s σ H x y v u Q I rx ry ⟨Z, d, d', h, h', b, e, k⟩
  obtain ⟨i, j, h1, h2, h3⟩ := intsOf (f := fun i j => decide (i ≤ j)) (fun _ _ => rfl) (fun d d' n => by cases d <;> cases d' <;> first | rfl | exact absurd ⟨rfl, rfl⟩ (n _ _)) h h' e
  subst h3
  exact op_le pins s σ H x y v u Q I rx ry ⟨i, j, h1, h2, k⟩
theorem oGt : OpR X (compareOp .Gt) (r2B G (cmpD .gt)) := by
  intro pins s σ H x y v u Q I rx ry ⟨Z, d, d', h, h', b, e, k⟩
  obtain ⟨i, j, h1, h2, h3⟩ := intsOf (f := fun i j => decide (j < i)) (fun _ _ => rfl) (fun d d' n => by cases d <;> cases d' <;> first | rfl | exact absurd ⟨rfl, rfl⟩ (n _ _)) h h' e
  subst h3
  exact op_gt pins s σ H x y v u Q I rx ry ⟨i, j, h1, h2, k⟩
theorem oGe : OpR X (compareOp .GtE) (r2B G (cmpD .ge)) := by
  intro pins s σ H x y v u Q I rx ry ⟨Z, d, d', h, h', b, e, k⟩
  obtain ⟨i, j, h1, h2, h3⟩ := intsOf (f := fun i j => decide (j ≤ i)) (fun _ _ => rfl) (fun d d' n => by cases d <;> cases d' <;> first | rfl | exact absurd ⟨rfl, rfl⟩ (n _ _)) h h' e
  subst h3
  exact op_ge pins s σ H x y v u Q I rx ry ⟨i, j, h1, h2, k⟩
theorem all_plain {l : List D} {x : D} (h : (l.all fun y => eqOk y x) = true) : D.plains l = true ∧ (D.depths l ≤ 60 ∨ x.depth ≤ 60) := by
  induction l with
  | nil => exact ⟨rfl, .inl (Nat.zero_le _)⟩
  | cons y r ih =>
    obtain ⟨h1, h2⟩ := Bool.and_eq_true_iff.mp (show (eqOk y x && r.all fun y => eqOk y x) = true from h)
    obtain ⟨i1, i2⟩ := ih h2
    obtain ⟨a1, a2⟩ := Bool.and_eq_true_iff.mp h1
    obtain ⟨a3, a4⟩ := Bool.and_eq_true_iff.mp a1
    refine ⟨Bool.and_eq_true_iff.mpr ⟨a3, i1⟩, ?_⟩
    rcases Bool.or_eq_true_iff.mp a2 with k | k
    · rcases i2 with i | i
      · exact .inl (Nat.max_le.mpr ⟨of_decide_eq_true k, i⟩)
      · exact .inr i
    · exact .inr (of_decide_eq_true k)
theorem pds_any {x : D} (hx : x.plain = true) : ∀ {l : List D}, D.plains l = true → ((D.pds l).any fun y => PyData.eqv y x.pd) = l.any fun y => y.eqv x
  | [], _ => rfl
  | y :: r, p => by
    obtain ⟨p1, p2⟩ := Bool.and_eq_true_iff.mp p
    show (PyData.eqv y.pd x.pd || (D.pds r).any fun y => PyData.eqv y x.pd) = (y.eqv x || r.any fun y => y.eqv x)
    rw [pd_eqv p1 hx, pds_any hx p2]
/-- what is told of an item and a list or a tuple -/
theorem seq_reads {Z : Set1} {H : Hp} {σ : L2.St} {s : Shared} {pins : List (Addr × Obj)} {d c : D} {l : List D} {v u : Value} {x y : V} (I : Inv X pins σ H s) (hu : X.A.units + 65 < cLine) (h : Rt G Z H d x) (h' : Rt G Z H c y) (rx : RelV x v) (ry : RelV y u) (e : items c = some l) (p : (d.plain && l.all fun y => eqOk y d) = true) :
    D.plains l = true ∧ d.plain = true ∧ (∃ as bs, (Reads s.heap u (.list (D.pds l)) as ∨ Reads s.heap u (.tuple (D.pds l)) as) ∧ Reads s.heap v d.pd bs) ∧ PyData.canLayAll0 (D.pds l) = true ∧ d.pd.canLay0 = true ∧ X.A.units + 1 + min (PyData.depthAll (D.pds l)) d.pd.depth < cLine := by
  obtain ⟨p1, p2⟩ := Bool.and_eq_true_iff.mp p
  obtain ⟨q1, q2⟩ := all_plain p2
  obtain ⟨a1, a2⟩ := h.dp (K := X.K) p1
  obtain ⟨bs, r1⟩ := Dp.reads I _ x v a1 rx
  have dep : X.A.units + 1 + min (PyData.depthAll (D.pds l)) d.pd.depth < cLine := by
    rw [pds_depth, pd_depth]
    omega
  cases c with
  | lst ds =>
    cases e
    obtain ⟨b1, b2⟩ := Rt.dp (K := X.K) h' (show D.plain (.lst l) = true from q1)
    obtain ⟨as, r2⟩ := Dp.reads I _ y u b1 ry
    exact ⟨q1, p1, ⟨as, bs, .inl r2, r1⟩, b2, a2, dep⟩
  | tup ds =>
    cases e
    obtain ⟨b1, b2⟩ := Rt.dp (K := X.K) h' (show D.plain (.tup l) = true from q1)
    obtain ⟨as, r2⟩ := Dp.reads I _ y u b1 ry
    exact ⟨q1, p1, ⟨as, bs, .inr r2, r1⟩, b2, a2, dep⟩
  | _ => cases e
theorem inD_at {d c : D} {b : Bool} (e : inD d c = some b) : ∃ l, items c = some l ∧ (d.plain && l.all fun y => eqOk y d) = true ∧ b = l.any fun y => y.eqv d := by
  unfold inD at e
  cases hc : items c with
  | none => rw [hc] at e; cases e
  | some l =>
    rw [hc] at e
    have e' : (if (d.plain && l.all fun y => eqOk y d) = true then some (l.any fun y => y.eqv d) else none) = some b := e
    by_cases ok : (d.plain && l.all fun y => eqOk y d) = true
    · rw [if_pos ok] at e'; cases e'; exact ⟨l, rfl, ok, rfl⟩
    · rw [if_neg ok] at e'; cases e'
theorem oIn (hu : X.A.units + 65 < cLine) : OpR X (compareOp .In) (r2B G (cmpD .isin)) := by
  intro pins s σ H x y v u Q I rx ry ⟨Z, d, d', h, h', b, e, k⟩
  obtain ⟨l, e1, e2, rfl⟩ := inD_at e
  obtain ⟨q1, p1, ⟨as, bs, r2, r1⟩, b2, a2, dep⟩ := seq_reads I hu h h' rx ry e1 e2
  rcases r2 with r2 | r2
  · exact SeqAt.in_list_reads r2 r1 b2 a2 dep (by rw [pds_any p1 q1]; exact ⟨.bl _, H, I, rfl, k⟩)
  · exact SeqAt.in_tuple_reads r2 r1 b2 a2 dep (by rw [pds_any p1 q1]; exact ⟨.bl _, H, I, rfl, k⟩)
theorem oNin (hu : X.A.units + 65 < cLine) : OpR X (compareOp .NotIn) (r2B G (cmpD .notin)) := by
  intro pins s σ H x y v u Q I rx ry ⟨Z, d, d', h, h', b, e, k⟩
  have e' : (inD d d').map (!·) = some b := e
  cases hi : inD d d' with
  | none => rw [hi] at e'; cases e'
  | some b0 =>
    rw [hi] at e'
    cases e'
    obtain ⟨l, e1, e2, rfl⟩ := inD_at hi
    obtain ⟨q1, p1, ⟨as, bs, r2, r1⟩, b2, a2, dep⟩ := seq_reads I hu h h' rx ry e1 e2
    rcases r2 with r2 | r2
    · exact SeqAt.notIn_list_reads r2 r1 b2 a2 dep (by rw [pds_any p1 q1]; exact ⟨.bl _, H, I, rfl, k⟩)
    · exact SeqAt.notIn_tuple_reads r2 r1 b2 a2 dep (by rw [pds_any p1 q1]; exact ⟨.bl _, H, I, rfl, k⟩)
theorem Rt.isNon {Z : Set1} {H : Hp} {d : D} {v : V} (h : Rt G Z H d v) (n : ∀ c l, d ≠ .exc c l) : decide (v = .non) = (match d with | .non => true | _ => false) := by
  rcases h with h | ⟨e, h⟩
  · cases h <;> first | rfl | exact decide_eq_false fun z => nomatch z
  · subst e
    cases d with
    | lst ds => exact decide_eq_false fun z => nomatch z
    | _ => exact h.elim
theorem oIs : OpR X (compareOp .Is) (r2B G (cmpD .isn)) := by
  intro pins s σ H x y v u Q I rx ry ⟨Z, d, d', h, h', b, e, k⟩
  cases d' with
  | non =>
    refine op_isN pins s σ H x y v u Q I rx ry ⟨h'.toNon, ?_⟩
    rw [h.isNon fun c l z => by subst z; cases e]
    cases d <;> cases e <;> exact k
  | _ => cases e
theorem oIsn : OpR X (compareOp .IsNot) (r2B G (cmpD .notn)) := by
  intro pins s σ H x y v u Q I rx ry ⟨Z, d, d', h, h', b, e, k⟩
  cases d' with
  | non =>
    refine op_notN pins s σ H x y v u Q I rx ry ⟨h'.toNon, ?_⟩
    rw [h.isNon fun c l z => by subst z; cases e]
    cases d <;> cases e <;> exact k
  | _ => cases e
end
end Lt
end
section
set_option maxRecDepth 100000
namespace PyProof.Rows
open PySem PySem.Spec
section
variable {prog : Program} {w : World} {A : Around} {E : Value → Shared → Prop} {s : Shared}
/-- what is gathered from a tuple -/
theorem gather_tuple {l : Addr} {vs : List Value} {Q : List Value → Shared → Prop} (hl : s.heap.IsTuple l vs.toArray)
    (h : Q vs { s with heap := (s.heap.push (seqObj "list" #[] 0)).update s.heap.objs.size (Obj.mapSeq (· ++ vs.toArray)) }) (hsz : vs.length ≤ sizeLine) :
    wpAny (model prog w) A (collect (.ref l)) Q E s := by
  obtain ⟨o, ho, hc, n, hd⟩ := id hl
  unfold collect
  refine wpAny_bind (wpAny_runValue (codeAny_builtin entry_proto_collect' ?_))
  show wpAny _ _ (do again (.builtin "list.__iadd__" ⟨[← newList [], .ref l], []⟩)) _ _ s
  refine wpAny_bind (wpAny_newList (wpAny_pure ⟨Code.quiet_builtin _ (by decide +kernel), codeAny_builtin entry_list_iadd' ?_⟩))
  show wpAny _ _ (Builtin.List.listExtendWith (.ref s.heap.objs.size) (.ref l) (.ref s.heap.objs.size)) _ _ { s with heap := s.heap.push (seqObj "list" #[] 0) }
  unfold Builtin.List.listExtendWith
  have ho' : (s.heap.push (seqObj "list" #[] 0)).get? l = some o := Heap.get?_push_of_some _ ho
  refine wpAny_bind (wpAny_typeOf (T := "tuple") ⟨o, ho', hc⟩ ?_)
  have ht : (Value.type "tuple" == Value.type "tuple") = true := by rfl
  rw [if_pos (by rw [ht]; simp)]
  refine wpAny_bind (listItems_at ho' hd ?_)
  refine wpAny_bind (listItems_at (xs := #[]) (n := 0) (Heap.get?_push_size _ rfl) rfl ?_)
  rw [if_neg (by simp)]
  refine wpAny_bind (listUpdate_at (xs := #[]) (n := 0) (Heap.get?_push_size _ rfl) rfl ?_ (Nat.zero_le _) (by show (#[] ++ vs.toArray).size ≤ sizeLine + 1; simp only [Array.size_append, List.size_toArray, List.length_nil]; omega))
  refine wpAny_pure ?_
  show wpAny (model prog w) A (do
      let o ← load s.heap.objs.size
      match o.data with
      | .seq xs _ => pure xs.toList
      | _ => unsupported "internal:collect") Q E { s with heap := (s.heap.push (seqObj "list" #[] 0)).update s.heap.objs.size (Obj.mapSeq (· ++ vs.toArray)) }
  refine wpAny_bind (wpAny_load (get?_update_seq (Heap.get?_push_size _ rfl) _) ?_)
  show wpAny _ _ (pure ((#[] : Array Value) ++ vs.toArray).toList) Q E _
  rw [show ((#[] : Array Value) ++ vs.toArray).toList = vs by simp]
  exact wpAny_pure h
end
end PyProof.Rows
namespace Lt
open PySem PySem.Spec PyProof.Rows L2
section
variable {X : Cx} {G : Nat → Option Addr}
theorem place_ixN (n : Nat) (i : Int) : place n i = ixN n i := rfl
theorem Rps.at {Z : Set1} {H : Hp} {ds : List D} {xs : List V} {i : Int} {d : D} (h : Rps G Z H ds xs) (e : ((place ds.length i).bind fun j => ds[j]?) = some d) : ∃ v, atI xs i = some v ∧ Rp G Z H d v := by
  unfold atI
  rw [← h.length, ← place_ixN]
  cases hp : place ds.length i with
  | none => rw [hp] at e; cases e
  | some j =>
    rw [hp] at e
    exact h.get e
theorem xIx : IxR X (r2 G fun x y => (ixD x y).map .v) := by
  intro value slice pins s σ H x y v u Q I rx ry ⟨Z, d, d', h, h', r, e, k⟩ hs
  cases d' with
  | int i =>
    have hi := h'.toInt
    cases d with
    | tup l =>
      obtain ⟨p, xs, rfl, hp, hxs⟩ := h.toTup
      have e' : (((place l.length i).bind fun j => l[j]?).map R.v) = some r := e
      cases hd : ((place l.length i).bind fun j => l[j]?) with
      | none => rw [hd] at e'; cases e'
      | some d =>
        rw [hd] at e'
        cases e'
        obtain ⟨w, hw, rw'⟩ := hxs.at hd
        exact ix_tup value slice pins s σ H _ _ v u Q I rx ry ⟨p, xs, i, w, rfl, hi, .inl hp.rd, hw, k w H (.refl _) rw'⟩ hs
    | lst l =>
      obtain ⟨p, xs, rfl, hp, hxs⟩ := h.toLst
      have e' : (((place l.length i).bind fun j => l[j]?).map R.v) = some r := e
      cases hd : ((place l.length i).bind fun j => l[j]?) with
      | none => rw [hd] at e'; cases e'
      | some d =>
        rw [hd] at e'
        cases e'
        obtain ⟨w, hw, rw'⟩ := hxs.at hd
        exact ix_list value slice pins s σ H _ _ v u Q I rx ry ⟨p, xs, i, w, rfl, hi, .inl hp, hw, k w H (.refl _) rw'⟩ hs
    | _ => cases e
  | _ => cases d <;> cases e
theorem cutAt_sIx (n d : Nat) (o : Option Int) : cutAt n d o = HT.sIx n d o := by
  cases o <;> rfl
theorem Rps.cut {Z : Set1} {H : Hp} {ds : List D} {xs : List V} (h : Rps G Z H ds xs) (lo hi : Option Int) : Rps G Z H (Lt.cut ds lo hi) (cutV xs lo hi) := by
  unfold Lt.cut cutV
  rw [cutAt_sIx, cutAt_sIx, h.length]
  exact (h.drop _).take _
theorem cutV_whole {xs : List V} {lo hi : Option Int} (h : HT.sIx xs.length 0 lo = 0 ∧ HT.sIx xs.length xs.length hi = xs.length) : cutV xs lo hi = xs := by
  unfold cutV
  rw [h.1, h.2]
  simp
theorem xSl : SlR X (rSl G) := by
  intro pins s σ H x v vl vu lo hi sl Q I rx hs pl pu ⟨Z, d, h, r, e, k⟩
  cases d with
  | tup l =>
    cases e
    obtain ⟨p, xs, rfl, hp, hxs⟩ := h.toTup
    cases rx
    obtain ⟨its, r1, ht, hz⟩ := I.tuple (.inl hp.rd)
    have hlen : its.toArray.size = xs.length := by rw [List.size_toArray]; exact r1.length.symm
    refine ⟨"tuple", _, PyProof.Rows.slot_tuple_getitem.lookup, ht.typeIs, ?_⟩
    by_cases hw : HT.sIx xs.length 0 lo = 0 ∧ HT.sIx xs.length xs.length hi = xs.length
    · have z := hxs.cut lo hi
      rw [cutV_whole hw] at z
      exact getItem_tuple_whole ht hs pl pu (by rw [hlen]; exact hw) ⟨.ref p, H, I, rfl, k _ H (.refl _) (Rp.tup hp z)⟩
    · refine HT.getItem_tuple_cut ht hs pl pu (by rw [hlen]; exact hw) ?_ (by rw [hlen]; exact hz)
      rw [hlen]
      exact ⟨.ref s.heap.objs.size, _, laidT (t' := s.toks) I ((r1.drop (HT.sIx xs.length 0 lo)).take (HT.sIx xs.length xs.length hi - HT.sIx xs.length 0 lo)) (Nat.le_trans (cutV_length xs lo hi) hz), rfl, k _ _ (New.upd I.fresh) (RN.newT I.fresh (hxs.cut lo hi))⟩
  | lst l =>
    cases e
    obtain ⟨p, xs, rfl, hp, hxs⟩ := h.toLst
    exact sl_list pins s σ H _ v vl vu lo hi sl Q I rx hs pl pu ⟨p, xs, rfl, .inl hp, fun q hq => k _ _ (New.upd hq) (RN.newL hq (hxs.cut lo hi))⟩
  | _ => cases e

/-! ### calls of built-in things -/
theorem Rts.one {Z : Set1} {H : Hp} {d : D} {vs : List V} (h : Rts G Z H [d] vs) : ∃ v, vs = [v] ∧ Rt G Z H d v := by
  cases h with
  | cons a t => cases t; exact ⟨_, rfl, a⟩
theorem Rts.two {Z : Set1} {H : Hp} {d d' : D} {vs : List V} (h : Rts G Z H [d, d'] vs) : ∃ v w, vs = [v, w] ∧ Rt G Z H d v ∧ Rt G Z H d' w := by
  cases h with
  | cons a t =>
    cases t with
    | cons b t => cases t; exact ⟨_, _, rfl, a, b⟩
theorem bLen : CallR X (.builtin "len") (rN G (bltD .len)) := by
  intro pins s σ H xs us Q I rv ⟨Z, ds, h, r, e, k⟩
  match ds, h, e with
  | [.tup l], h, e =>
    cases e
    obtain ⟨v, rfl, hv⟩ := h.one
    obtain ⟨p, ys, rfl, hp, hys⟩ := hv.toTup
    refine call_len pins s σ H _ us Q I rv ⟨_, ys.length, rfl, .inr ⟨ys, .inl hp.rd, rfl⟩, ?_⟩
    rw [← hys.length]
    exact k _ H (.refl _) (Rp.int _)
  | [.lst l], h, e =>
    cases e
    obtain ⟨v, rfl, hv⟩ := h.one
    obtain ⟨p, ys, rfl, hp, hys⟩ := hv.toLst
    refine call_len pins s σ H _ us Q I rv ⟨_, ys.length, rfl, .inl ⟨ys, .inl hp, rfl⟩, ?_⟩
    rw [← hys.length]
    exact k _ H (.refl _) (Rp.int _)
  | [.dic l], h, e =>
    obtain ⟨v, rfl, hv⟩ := h.one
    rcases hv with hv | ⟨_, hv⟩
    · cases hv
    · exact hv.elim
theorem bAll (hc : X.calm = true) : CallR X (.builtin "all") (rN G (bltD .all)) := by
  intro pins s σ H xs us Q I rv ⟨Z, ds, h, r, e, k⟩
  match ds, h, e with
  | [.lst l], h, e =>
    have e' : (Lt.bools l).map (fun bs => R.v (.bl (bs.all id))) = some r := e
    cases hb : Lt.bools l with
    | none => rw [hb] at e'; cases e'
    | some bs =>
      rw [hb] at e'
      cases e'
      obtain ⟨v, rfl, hv⟩ := h.one
      obtain ⟨p, ys, rfl, hp, hys⟩ := hv.toLst
      have ey := hys.toBools hb
      subst ey
      exact cr_all hc pins s σ H _ us Q I rv ⟨p, bs, rfl, .inl hp, k _ H (.refl _) (Rp.bl _)⟩
theorem bAny (hc : X.calm = true) : CallR X (.builtin "any") (rN G (bltD .any)) := by
  intro pins s σ H xs us Q I rv ⟨Z, ds, h, r, e, k⟩
  match ds, h, e with
  | [.lst l], h, e =>
    have e' : (Lt.bools l).map (fun bs => R.v (.bl (bs.any id))) = some r := e
    cases hb : Lt.bools l with
    | none => rw [hb] at e'; cases e'
    | some bs =>
      rw [hb] at e'
      cases e'
      obtain ⟨v, rfl, hv⟩ := h.one
      obtain ⟨p, ys, rfl, hp, hys⟩ := hv.toLst
      have ey := hys.toBools hb
      subst ey
      exact cr_any hc pins s σ H _ us Q I rv ⟨p, bs, rfl, .inl hp, k _ H (.refl _) (Rp.bl _)⟩
theorem bSum (hc : X.calm = true) : CallR X (.builtin "sum") (rN G (bltD .sum)) := by
  intro pins s σ H xs us Q I rv ⟨Z, ds, h, r, e, k⟩
  match ds, h, e with
  | [.lst l], h, e =>
    have e' : (Lt.intz l).map (fun is => R.v (.int is.sum)) = some r := e
    cases hb : Lt.intz l with
    | none => rw [hb] at e'; cases e'
    | some bs =>
      rw [hb] at e'
      cases e'
      obtain ⟨v, rfl, hv⟩ := h.one
      obtain ⟨p, ys, rfl, hp, hys⟩ := hv.toLst
      have ey := hys.toInts hb
      subst ey
      exact cr_sum hc pins s σ H _ us Q I rv ⟨p, bs, rfl, .inl hp, k _ H (.refl _) (Rp.int _)⟩
theorem bTuple : CallR X (.type "tuple") (rN G (bltD .tuple)) := by
  intro pins s σ H xs us Q I rv ⟨Z, ds, h, r, e, k⟩
  match ds, h, e with
  | [.tup l], h, e =>
    cases e
    obtain ⟨v, rfl, hv⟩ := h.one
    obtain ⟨p, ys, rfl, hp, hys⟩ := hv.toTup
    exact call_tuple_of pins s σ H _ us Q I rv ⟨p, ys, rfl, .inr ⟨.inl hp.rd, k _ H (.refl _) (Rp.tup hp hys)⟩⟩
  | [.lst l], h, e =>
    cases e
    obtain ⟨v, rfl, hv⟩ := h.one
    obtain ⟨p, ys, rfl, hp, hys⟩ := hv.toLst
    rw [Vals.ref1 rv]
    obtain ⟨its, r', pl, hz⟩ := I.list (.inl hp)
    have hlen := r'.length
    refine call_tuple_list pl.isList (fun h' kp => ?_) (by simp only [List.size_toArray] <;> omega)
    have I1 : Inv X pins σ H { s with heap := h' } := I.kept (t' := s.toks) kp
    exact ⟨.ref h'.objs.size, _, laidT (t' := s.toks) I1 r' hz, rfl, k _ _ (New.upd I1.fresh) (RN.newT I1.fresh hys)⟩
theorem bList : CallR X (.type "list") (rN G (bltD .list)) := by
  intro pins s σ H xs us Q I rv ⟨Z, ds, h, r, e, k⟩
  match ds, h, e with
  | [.tup l], h, e =>
    cases e
    obtain ⟨v, rfl, hv⟩ := h.one
    obtain ⟨p, ys, rfl, hp, hys⟩ := hv.toTup
    exact call_list_of pins s σ H _ us Q I rv ⟨p, ys, rfl, .inr (.inl hp.rd), fun q hq => k _ _ (New.upd hq) (RN.newL hq hys)⟩
  | [.lst l], h, e =>
    cases e
    obtain ⟨v, rfl, hv⟩ := h.one
    obtain ⟨p, ys, rfl, hp, hys⟩ := hv.toLst
    exact call_list_of pins s σ H _ us Q I rv ⟨p, ys, rfl, .inl (.inl hp), fun q hq => k _ _ (New.upd hq) (RN.newL hq hys)⟩
theorem bInt : CallR X (.type "int") (rN G (bltD .int)) := by
  intro pins s σ H xs us Q I rv ⟨Z, ds, h, r, e, k⟩
  match ds, h, e with
  | [.int i], h, e =>
    cases e
    obtain ⟨v, rfl, hv⟩ := h.one
    cases hv.toInt
    exact call_int1 pins s σ H _ us Q I rv (.inl ⟨i, rfl, k _ H (.refl _) (Rp.int _)⟩)
  | [.bl b], h, e =>
    cases e
    obtain ⟨v, rfl, hv⟩ := h.one
    cases hv.toBl
    exact call_int1 pins s σ H _ us Q I rv (.inr ⟨b, rfl, k _ H (.refl _) (Rp.int _)⟩)
theorem bAbs : CallR X (.builtin "abs") (rN G (bltD .abs)) := by
  intro pins s σ H xs us Q I rv ⟨Z, ds, h, r, e, k⟩
  match ds, h, e with
  | [.int i], h, e =>
    cases e
    obtain ⟨v, rfl, hv⟩ := h.one
    cases hv.toInt
    exact call_abs pins s σ H _ us Q I rv ⟨i, rfl, k _ H (.refl _) (Rp.int _)⟩
theorem bMin2 (hc : X.calm = true) : CallR X (.builtin "min") (rN G (bltD .min2)) := by
  intro pins s σ H xs us Q I rv ⟨Z, ds, h, r, e, k⟩
  match ds, h, e with
  | [.int i, .int j], h, e =>
    cases e
    obtain ⟨v, w, rfl, hv, hw⟩ := h.two
    cases hv.toInt
    cases hw.toInt
    exact call_min2 hc pins s σ H _ us Q I rv ⟨i, j, rfl, k _ H (.refl _) (Rp.int _)⟩
theorem bMax2 (hc : X.calm = true) : CallR X (.builtin "max") (rN G (bltD .max2)) := by
  intro pins s σ H xs us Q I rv ⟨Z, ds, h, r, e, k⟩
  match ds, h, e with
  | [.int i, .int j], h, e =>
    cases e
    obtain ⟨v, w, rfl, hv, hw⟩ := h.two
    cases hv.toInt
    cases hw.toInt
    exact call_max2 hc pins s σ H _ us Q I rv ⟨i, j, rfl, k _ H (.refl _) (Rp.int _)⟩
end
end Lt
end
section
set_option maxRecDepth 100000
namespace Lt
open PySem PySem.Spec PyProof.Rows L2
section
variable {X : Cx} {G : Nat → Option Addr} {Z : Set1} {XR : XRel} {W : WX} {C : Calls} {pos : Pos}
/-- a call of one argument that is written out -/
theorem sE_blt1 {b : Bl} {x y : Expr} {a : E} (hc : ∀ te, PE X y te → PE X x (fun σ H Q => te σ H fun v H1 => rN G (bltD b) [v] H1 Q)) (ha : PE X y (tE G Z XR W (ev C a))) : PE X x (tE G Z XR W (ev C (.blt b (.cons a .nil)))) := by
  refine pe_imp (hc _ ha) fun σ H Q ⟨e, rel, q⟩ => ?_
  unfold ev at q
  refine ⟨e, rel, ?_⟩
  revert q
  unfold evl
  cases hv : ev C a e with
  | st => exact fun q => q
  | ex z e1 => exact fun q => q
  | ok r e1 =>
    intro q v H1 rel1 st1 rr1
    have q' : Fin G Z XR W e σ H (match looks e1 [r] with
      | some ds => lift (bltD b ds) e1
      | none => .st) Q := by
      unfold evl at q
      exact q
    cases hl : look e1 r with
    | none =>
      have z : looks e1 [r] = none := by
        show (match look e1 r, some [] with | some d, some ds => some (d :: ds) | _, _ => none) = none
        rw [hl]
      rw [z] at q'
      exact q'.elim
    | some d =>
      have z : looks e1 [r] = some [d] := by
        show (match look e1 r, some [] with | some d, some ds => some (d :: ds) | _, _ => none) = some [d]
        rw [hl]
      rw [z] at q'
      obtain ⟨w, hw, q2⟩ := Fin.lift (q'.from st1) rel1
      exact ⟨_, [d], .cons (rr1.look rel1 hl) .nil, w, hw, q2⟩
theorem items_int {d : D} {l : List D} {is : List Int} {H : Hp} {Z : Set1} {v : V} (h : Rt G Z H d v) (hi : items d = some l) (e : Lt.intz l = some is) : ∃ p, v = .ref p ∧ (SqL X.K H p (is.map V.int) ∨ SqT X.K H p (is.map V.int)) := by
  obtain ⟨p, xs, h1, h2, h3⟩ := Rt.toSq (K := X.K) h hi
  have := h3.toInts e
  subst this
  exact ⟨p, h1, h2⟩
theorem ins_perm (x : Int) : ∀ l : List Int, (ins x l).Perm (x :: l)
  | [] => .refl _
  | y :: r => by
    show (if x ≤ y then x :: y :: r else y :: ins x r).Perm _
    by_cases h : x ≤ y
    · rw [if_pos h]
    · rw [if_neg h]
      exact ((ins_perm x r).cons y).trans (List.Perm.swap x y r)
theorem isort_perm : ∀ l : List Int, (isort l).Perm l
  | [] => .refl _
  | x :: r => (ins_perm x (isort r)).trans ((isort_perm r).cons x)
theorem ins_sorted (x : Int) : ∀ {l : List Int}, l.Pairwise (· ≤ ·) → (ins x l).Pairwise (· ≤ ·)
  | [], _ => List.pairwise_singleton ..
  | y :: r, h => by
    show (if x ≤ y then x :: y :: r else y :: ins x r).Pairwise (· ≤ ·)
    obtain ⟨h1, h2⟩ := List.pairwise_cons.mp h
    by_cases c : x ≤ y
    · rw [if_pos c]
      exact List.pairwise_cons.mpr ⟨fun z hz => by
        rcases List.mem_cons.mp hz with rfl | hz
        · exact c
        · exact Int.le_trans c (h1 z hz), h⟩
    · rw [if_neg c]
      refine List.pairwise_cons.mpr ⟨fun z hz => ?_, ins_sorted x h2⟩
      rcases List.mem_cons.mp ((ins_perm x r).mem_iff.mp hz) with rfl | hz
      · omega
      · exact h1 z hz
theorem isort_sorted : ∀ l : List Int, (isort l).Pairwise (· ≤ ·)
  | [] => List.Pairwise.nil
  | x :: r => ins_sorted x (isort_sorted r)
theorem sort_eq {is ns : List Int} (hp : ns.Perm is) (hs : ns.Pairwise (· ≤ ·)) : ns = isort is :=
  List.Perm.eq_of_pairwise (le := fun a b => a ≤ b) (fun a b _ _ h1 h2 => Int.le_antisymm h1 h2) hs (isort_sorted is) (hp.trans (isort_perm is).symm)
/-- sorted(t), t a tuple of intz -/
theorem sorted_tup {H : Hp} {p : Addr} {ns : List Int} {pins : List (Addr × Obj)} {s : Shared} {σ : L2.St} {Q : VK} (I : Inv X pins σ H s) (hs : SqT X.K H p (ns.map V.int)) (q : ∀ (ns' : List Int) (q : Addr), ns'.Perm ns → ns'.Pairwise (· ≤ ·) → H q = none → Q (.ref q) (upd H q (.lst (ns'.map V.int)))) :
    wpAny (model X.prog X.w) X.A (call (.builtin "sorted") [.ref p]) (EP X pins σ Q) X.xe s := by
  obtain ⟨vs, rv, hl, hz0⟩ := I.tuple hs
  have hi := rv.ints
  have hz : vs.length ≤ sizeLine := by rw [← rv.length]; exact hz0
  have h : ∀ out : List Value, SrtO.Srtd SrtO.ltIv out → SrtO.Stb SrtO.ltIv out vs → EP X pins σ Q (.ref (s.heap.objs.size + 1)) { s with heap := sortedAll s.heap vs out.toArray } := fun out h1 h2 => by
    obtain ⟨k1, k2, k3⟩ := SrtO.ints_out hi h1 h2
    obtain ⟨ep, he'⟩ := PyProof.Rows.sortedAll_at s.heap vs out.toArray
    have hlen : ((out.map SrtO.iv).map V.int).length ≤ sizeLine := by
      rw [List.length_map, k2.length_eq]
      rw [List.length_map] at hz0
      exact hz0
    exact ⟨.ref _, upd H (s.heap.objs.size + 1) (.lst ((out.map SrtO.iv).map V.int)), I.laid (t' := s.toks) (fun _ _ => PyProof.Rows.sortedAll_old) (Nat.le_succ _) ⟨hlen, out, ep, vals_of_ints k1, he'⟩, rfl, q _ _ k2 k3 (I.hok.fresh (Nat.le_succ _))⟩
  refine Calls.call_function_entry kind_sorted plain_sorted entry_sorted (args_sorted1 _) ?_
  unfold Builtin.«sorted»
  refine wpAny_bind (m := checkCount "sorted" 1 1 _) (wpAny_pure ?_)
  refine wpAny_bind (PyProof.Rows.gather_tuple hl ?_ hz)
  refine wpAny_bind (wpAny_newList ?_ hz)
  have hsz : ((s.heap.push (seqObj "list" #[] 0)).update s.heap.objs.size (Obj.mapSeq (· ++ vs.toArray))).objs.size = s.heap.objs.size + 1 := by
    rw [Heap.size_update, PyProof.Rows.size_push']
  have hoL : (((s.heap.push (seqObj "list" #[] 0)).update s.heap.objs.size (Obj.mapSeq (· ++ vs.toArray))).push (seqObj "list" vs.toArray 0)).get? (s.heap.objs.size + 1) = some (seqObj "list" vs.toArray 0) := by
    rw [← hsz]; exact Heap.get?_push_size _ rfl
  show wpAny _ _ _ _ _ { s with heap := ((s.heap.push (seqObj "list" #[] 0)).update s.heap.objs.size (Obj.mapSeq (· ++ vs.toArray))).push (seqObj "list" vs.toArray 0) }
  rw [hsz]
  refine wpAny_bind (wpAny_holding (wpAny_call_entry slot_list_sort ⟨_, hoL, rfl⟩ entry_list_sort (SrtO.list_sort_ord SrtO.swo_int hoL hz (fun h2 => SrtO.ints_sortable hi h2) fun out hs hb => ⟨_, rfl, ?_⟩) (args_list_sort _)))
  exact wpAny_pure ⟨_, rfl, h out hs hb⟩
theorem bSorted : CallR X (.builtin "sorted") (rN G (bltD .sorted)) := by
  intro pins s σ H xs us Q I rv ⟨Z, ds, h, r, e, k⟩
  match ds, h, e with
  | [d], h, e =>
    obtain ⟨v, rfl, hv⟩ := h.one
    have e0 : (match items d with
      | some l => (Lt.intz l).map fun is => R.f (.lst ((isort is).map .int))
      | none => none) = some r := e
    cases hi : items d with
    | none => rw [hi] at e0; cases e0
    | some l =>
      rw [hi] at e0
      have e1 : ((Lt.intz l).map fun is => R.f (.lst ((isort is).map .int))) = some r := e0
      cases hj : Lt.intz l with
      | none => rw [hj] at e1; cases e1
      | some is =>
        rw [hj] at e1
        cases e1
        obtain ⟨p, rfl, hp⟩ := items_int (X := X) hv hi hj
        have fin : ∀ (ns' : List Int) (q : Addr), ns'.Perm is → ns'.Pairwise (· ≤ ·) → H q = none → Q (.ref q) (upd H q (.lst (ns'.map V.int))) := fun ns' q h1 h2 hq => by
          have z := sort_eq h1 h2
          subst z
          exact k _ _ (New.upd hq) (RN.newL hq (Rps.ofInts _))
        rcases hp with hp | hp
        · exact cr_sortedI pins s σ H _ us Q I rv ⟨p, is, rfl, hp, fin⟩
        · rw [Vals.ref1 rv]
          exact sorted_tup I hp fin
/-! the number of different intz -/
theorem distinct_mem : ∀ {l : List Int} {x : Int}, x ∈ distinct l ↔ x ∈ l
  | [], _ => Iff.rfl
  | y :: r, x => by
    unfold distinct
    by_cases h : r.contains y = true
    · rw [if_pos h, distinct_mem]
      refine ⟨fun z => List.mem_cons_of_mem _ z, fun z => (List.mem_cons.mp z).elim (fun z => ?_) id⟩
      rw [z]
      exact List.contains_iff_mem.mp h
    · rw [if_neg h, List.mem_cons, List.mem_cons, distinct_mem]
theorem distinct_nodup : ∀ (l : List Int), (distinct l).Nodup
  | [] => List.nodup_nil
  | y :: r => by
    unfold distinct
    by_cases h : r.contains y = true
    · rw [if_pos h]; exact distinct_nodup r
    · rw [if_neg h]
      refine List.nodup_cons.mpr ⟨fun z => h (List.contains_iff_mem.mpr (distinct_mem.mp z)), distinct_nodup r⟩
theorem nodup_len {α : Type} [DecidableEq α] {a b : List α} (ha : a.Nodup) (hb : b.Nodup) (h : ∀ x, x ∈ a ↔ x ∈ b) : a.length = b.length :=
  ((List.perm_ext_iff_of_nodup ha hb).mpr h).length_eq
theorem firstMet_nd (f : Nat → Int) : ∀ i, (PyProof.Rows.firstMet f i).Nodup
  | 0 => List.nodup_nil
  | i + 1 => by
    rw [PyProof.Rows.firstMet_succ]
    have ih := firstMet_nd f i
    show (if (PyProof.Rows.firstMet f i).any (· == f i) = true then PyProof.Rows.firstMet f i else PyProof.Rows.firstMet f i ++ [f i]).Nodup
    by_cases h : (PyProof.Rows.firstMet f i).any (· == f i) = true
    · rw [if_pos h]; exact ih
    · rw [if_neg h]
      refine List.nodup_append.mpr ⟨ih, List.nodup_cons.mpr ⟨List.not_mem_nil, List.nodup_nil⟩, fun a ha b hb e => h ?_⟩
      rw [List.mem_singleton] at hb
      exact List.any_eq_true.mpr ⟨a, ha, by rw [e, hb]; exact beq_self_eq_true _⟩
theorem firstMet_len {ns : List Int} : (PyProof.Rows.firstMet (fun i => ns.getD i 0) ns.length).length = (distinct ns).length := by
  refine nodup_len (firstMet_nd _ _) (distinct_nodup ns) fun x => ?_
  have h := PyProof.Rows.firstMet_any (fun i => ns.getD i 0) ns.length x
  have e : (List.range ns.length).map (fun i => ns.getD i 0) = ns := by
    apply List.ext_getElem
    · simp
    · intro i h1 h2
      simp [List.getElem?_eq_getElem h2]
  rw [e] at h
  rw [distinct_mem]
  constructor
  · intro hx
    have : (PyProof.Rows.firstMet (fun i => ns.getD i 0) ns.length).any (· == x) = true := List.any_eq_true.mpr ⟨x, hx, beq_self_eq_true x⟩
    rw [h] at this
    obtain ⟨y, hy, e⟩ := List.any_eq_true.mp this
    rw [← eq_of_beq e]; exact hy
  · intro hx
    have : ns.any (· == x) = true := List.any_eq_true.mpr ⟨x, hx, beq_self_eq_true x⟩
    rw [← h] at this
    obtain ⟨y, hy, e⟩ := List.any_eq_true.mp this
    rw [← eq_of_beq e]; exact hy
theorem pe_lenset {y : Expr} {te : TE} {p p2 q pos : Pos} (hc : X.calm = true) (hg : Gl X "len") (hm : X.mg "len" = none) (hg2 : Gl X "set") (hm2 : X.mg "set" = none) (na : starEach [y] X.env = (false, eval y X.env) :: starEach [] X.env) (hne : starEach [.Call (.Name "set" p2) [y] [] q] X.env = (false, eval (.Call (.Name "set" p2) [y] [] q) X.env) :: starEach [] X.env) (ha : PE X y te) :
    PE X (.Call (.Name "len" p) [.Call (.Name "set" p2) [y] [] q] [] pos) (fun σ H Q => te σ H fun v H1 => rN G (bltD .lenset) [v] H1 Q) := by
  refine ⟨fun pins s σ H Q I h => ?_⟩
  refine Call_ (ld_blt I hg hm PySem.boot_len ?_)
  refine PyProof.Rows.callWith_builtin1 (PyProof.Rows.args_cons ?_ hne) hne rfl
  refine Call_ (ld_blt I hg2 hm2 PyProof.Rows.boot_set ?_)
  refine PyProof.Rows.callWith_type1 (PyProof.Rows.args_cons (thn (ha.run pins s σ H _ I h) fun v s1 ⟨x, H1, I1, r1, q1⟩ => PyProof.Rows.args_nil ?_) na) na rfl
  obtain ⟨Z, ds, hr, r, e, k⟩ := q1
  match ds, hr, e with
  | [d], hr, e =>
    obtain ⟨v', e', hv⟩ := hr.one
    cases e'
    have e0 : (match items d with
      | some l => (Lt.intz l).bind fun is => if is.length ≤ 1000 then some (R.v (.int (distinct is).length)) else none
      | none => none) = some r := e
    cases hi : items d with
    | none => rw [hi] at e0; cases e0
    | some l =>
      rw [hi] at e0
      have e1 : ((Lt.intz l).bind fun is => if is.length ≤ 1000 then some (R.v (.int (distinct is).length)) else none) = some r := e0
      cases hj : Lt.intz l with
      | none => rw [hj] at e1; cases e1
      | some is =>
        rw [hj] at e1
        have e2 : (if is.length ≤ 1000 then some (R.v (.int (distinct is).length)) else none) = some r := e1
        by_cases hl : is.length ≤ 1000
        · rw [if_pos hl] at e2
          cases e2
          obtain ⟨p, rfl, hp⟩ := items_int (X := X) hv hi hj
          cases r1
          rcases hp with hp | hp
          · obtain ⟨its, r, pl, hz⟩ := I1.list hp
            have hsz : its.toArray.size = is.length := by rw [List.size_toArray, ← r.length, List.length_map]
            refine call_set_list (I1.ok.hd hc) pl.isList (ns := is) (by simpa using r.ints) (by unfold scanBound; omega) fun h' tk hS hk => ?_
            refine PyProof.Rows.args_nil ?_
            rw [hsz, firstMet_len] at hS
            obtain ⟨o, es, ep, t, ho, hex, hd, _, _, _, hf, hn⟩ := hS
            have I2 : Inv X pins σ H1 { s1 with heap := h', toks := tk } := I1.kept fun b o e => hk b o (Heap.lt_size e) e
            have hb : (distinct is).length < scanBound := by rw [← hn]; assumption
            exact call_len_set ho hex hd hf (by unfold scanBound at hb; omega) ⟨.int (distinct is).length, H1, I2.tok _, ⟨_, by rw [hn]⟩, k _ H1 (.refl _) (Rp.int _)⟩
          · obtain ⟨its, r, pl, hz⟩ := I1.tuple hp
            refine call_set_tupI is (I1.ok.hd hc) pl (by simpa using r.ints) (by unfold scanBound; omega) fun h' tk c R1 hcn hk => ?_
            refine PyProof.Rows.args_nil ?_
            obtain ⟨o, es, ep, t, ho, hex, hd, g, nd, hm2, hb, hf, hn, hr, hl2⟩ := R1
            have I2 : Inv X pins σ H1 { s1 with heap := h', toks := tk } := I1.kept hk
            have hsz : es.size = (distinct is).length := by
              rw [← nodup_len nd (distinct_nodup is) fun x => ?_, List.length_map, Array.length_toList]
              rw [distinct_mem, ← hm2]
              exact ⟨fun z => of_decide_eq_true z, fun z => decide_eq_true z⟩
            exact call_len_set ho hex hd hf (by unfold scanBound at hb; omega) ⟨.int (distinct is).length, H1, I2.tok _, ⟨_, by rw [hsz]⟩, k _ H1 (.refl _) (Rp.int _)⟩
        · rw [if_neg hl] at e2; cases e2
/-- list(range(n)) -/
theorem pe_rlist {y : Expr} {te : TE} {p p2 q pos : Pos} (hc : X.calm = true) (hg : Gl X "list") (hm : X.mg "list" = none) (hg2 : Gl X "range") (hm2 : X.mg "range" = none) (na : starEach [y] X.env = (false, eval y X.env) :: starEach [] X.env) (hne : starEach [.Call (.Name "range" p2) [y] [] q] X.env = (false, eval (.Call (.Name "range" p2) [y] [] q) X.env) :: starEach [] X.env) (ha : PE X y te) :
    PE X (.Call (.Name "list" p) [.Call (.Name "range" p2) [y] [] q] [] pos) (fun σ H Q => te σ H fun v H1 => rN G (bltD .rlist1) [v] H1 Q) := by
  refine ⟨fun pins s σ H Q I h => ?_⟩
  refine Call_ (ld_blt I hg hm PyProof.Rows.boot_list (PyProof.Rows.callWith_type1 (PyProof.Rows.args_cons (Call_ (ld_blt I hg2 hm2 boot_range (PyProof.Rows.callWith_type1 (one_arg ha I h (fun v s1 x H1 I1 r1 q1 => ?_) na) na))) hne) hne))
  obtain ⟨Z, ds, hr, r, e, k⟩ := q1
  match ds, hr, e with
  | [.int n], hr, e =>
    obtain ⟨v', e', hv⟩ := hr.one
    cases e'
    cases hv.toInt
    have e2 : (if n ≤ 16777216 ∧ -16777216 ≤ n then some (R.f (.lst ((List.range n.toNat).map fun (k : Nat) => .int k))) else none) = some r := e
    by_cases hn : n ≤ 16777216 ∧ -16777216 ≤ n
    · rw [if_pos hn] at e2
      cases e2
      obtain ⟨t, rfl⟩ := r1
      refine call_range_1 (PyProof.Rows.args_nil ?_)
      have I2 : L2.Inv X pins σ H1 { s1 with heap := s1.heap.push { cls := .type "range", data := .fields #[.int 0 s1.toks, .int n t, .int 1 (s1.toks + 1)] }, toks := s1.toks + 1 + 1 } := I1.kept fun b u e => Heap.get?_push_of_some _ e
      refine call_list_range (n := (n - 0).toNat) (I2.ok.hd hc) (IsRange.new _ _ _ _ _ _ _) (small_one (by omega) (by omega) (by omega) (by omega)) (rangeSize_nat 0 n) (by omega) fun h' tk acc c' hk e' hi => ?_
      have hf : H1 (s1.heap.push { cls := .type "range", data := .fields #[.int 0 s1.toks, .int n t, .int 1 (s1.toks + 1)] }).objs.size = none := I2.hok.fresh (Nat.le_refl _)
      have hv : rgV 0 n = ((List.range n.toNat).map fun (k : Nat) => Int.ofNat k).map V.int := by
        unfold rgV
        rw [List.map_map, Int.sub_zero]
        exact List.map_congr_left fun a _ => by show V.int (0 + (a : Int)) = V.int (a : Int); rw [Int.zero_add]
      have hd : ((List.range n.toNat).map fun (k : Nat) => D.int k) = ((List.range n.toNat).map fun (k : Nat) => Int.ofNat k).map D.int := by rw [List.map_map]; rfl
      refine ⟨.ref _, upd H1 _ (.lst (rgV 0 n)), I2.laid hk (Nat.le_refl _) (show ObjOk X.prog X.w _ _ _ (.lst (rgV 0 n)) from ⟨?_, acc.toList, c', vals_rg hi, ?_⟩), rfl, ?_⟩
      · rw [rgV_length, sizeLine_eq]; omega
      · rw [Array.toArray_toList]; exact e'
      · refine k _ _ (New.upd hf) ?_
        rw [hv, hd]
        exact RN.newL hf (Rps.ofInts _)
    · rw [if_neg hn] at e2; cases e2
end
end Lt
end
section
set_option maxRecDepth 100000
namespace Lt
open PySem PySem.Spec PyProof.Rows L2
section
variable {X : Cx} {G : Nat → Option Addr} {Z : Set1} {XR : XRel} {W : WX} {C : Calls} {pos : Pos}
theorem least_ok : ∀ {r : List Int} {m k : Int}, (∀ y ∈ m :: r, k ≤ y) → k ∈ m :: r → least m r = k
  | [], m, k, _, h => by
    rw [List.mem_singleton] at h
    exact h.symm
  | x :: r, m, k, a, h => by
    unfold least
    by_cases c : x < m
    · rw [if_pos c]
      refine least_ok (fun y hy => a y (List.mem_cons_of_mem _ hy)) ?_
      rcases List.mem_cons.mp h with e | h
      · have := a x (List.mem_cons_of_mem _ List.mem_cons_self); omega
      · exact h
    · rw [if_neg c]
      refine least_ok (fun y hy => ?_) ?_
      · rcases List.mem_cons.mp hy with e | hy
        · rw [e]; exact a m List.mem_cons_self
        · exact a y (List.mem_cons_of_mem _ (List.mem_cons_of_mem _ hy))
      · rcases List.mem_cons.mp h with e | h
        · rw [e]; exact List.mem_cons_self
        · rcases List.mem_cons.mp h with e | h
          · have := a m List.mem_cons_self
            have : k = m := by omega
            rw [this]; exact List.mem_cons_self
          · exact List.mem_cons_of_mem _ h
theorem greatest_ok : ∀ {r : List Int} {m k : Int}, (∀ y ∈ m :: r, y ≤ k) → k ∈ m :: r → greatest m r = k
  | [], m, k, _, h => by
    rw [List.mem_singleton] at h
    exact h.symm
  | x :: r, m, k, a, h => by
    unfold greatest
    by_cases c : x > m
    · rw [if_pos c]
      refine greatest_ok (fun y hy => a y (List.mem_cons_of_mem _ hy)) ?_
      rcases List.mem_cons.mp h with e | h
      · have := a x (List.mem_cons_of_mem _ List.mem_cons_self); omega
      · exact h
    · rw [if_neg c]
      refine greatest_ok (fun y hy => ?_) ?_
      · rcases List.mem_cons.mp hy with e | hy
        · rw [e]; exact a m List.mem_cons_self
        · exact a y (List.mem_cons_of_mem _ (List.mem_cons_of_mem _ hy))
      · rcases List.mem_cons.mp h with e | h
        · rw [e]; exact List.mem_cons_self
        · rcases List.mem_cons.mp h with e | h
          · have := a m List.mem_cons_self
            have : k = m := by omega
            rw [this]; exact List.mem_cons_self
          · exact List.mem_cons_of_mem _ h
theorem bMin1 (hc : X.calm = true) : CallR X (.builtin "min") (rN G (bltD .min1)) := by
  intro pins s σ H xs us Q I rv ⟨Z, ds, h, r, e, k⟩
  match ds, h, e with
  | [.lst l], h, e =>
    have e' : (match Lt.intz l with
      | some (x :: r) => some (R.v (.int (least x r)))
      | _ => none) = some r := e
    obtain ⟨v, rfl, hv⟩ := h.one
    obtain ⟨p, ys, rfl, hp, hys⟩ := hv.toLst
    cases hb : Lt.intz l with
    | none => rw [hb] at e'; cases e'
    | some bs =>
      rw [hb] at e'
      cases bs with
      | nil => cases e'
      | cons x t =>
        cases e'
        have ey := hys.toInts hb
        subst ey
        refine cr_min hc pins s σ H _ us Q I rv ⟨p, x :: t, rfl, .inl hp, Nat.succ_pos _, fun m hm hle => ?_⟩
        rw [← least_ok hle hm]
        exact k _ H (.refl _) (Rp.int _)
theorem bMax1 (hc : X.calm = true) : CallR X (.builtin "max") (rN G (bltD .max1)) := by
  intro pins s σ H xs us Q I rv ⟨Z, ds, h, r, e, k⟩
  match ds, h, e with
  | [.lst l], h, e =>
    have e' : (match Lt.intz l with
      | some (x :: r) => some (R.v (.int (greatest x r)))
      | _ => none) = some r := e
    obtain ⟨v, rfl, hv⟩ := h.one
    obtain ⟨p, ys, rfl, hp, hys⟩ := hv.toLst
    cases hb : Lt.intz l with
    | none => rw [hb] at e'; cases e'
    | some bs =>
      rw [hb] at e'
      cases bs with
      | nil => cases e'
      | cons x t =>
        cases e'
        have ey := hys.toInts hb
        subst ey
        refine cr_max hc pins s σ H _ us Q I rv ⟨p, x :: t, rfl, .inl hp, Nat.succ_pos _, fun m hm hle => ?_⟩
        rw [← greatest_ok hle hm]
        exact k _ H (.refl _) (Rp.int _)
/-! ### isinstance -/
def Ty.nm : Ty → String
  | .int => "int"
  | .bool => "bool"
  | .str => "str"
  | .list => "list"
  | .tuple => "tuple"
  | .dict => "dict"
def nmO : Option Ty → String
  | some t => t.nm
  | none => "NoneType"
def isO (o : Option Ty) (t : Ty) : Bool := o == some t || (t == .int && o == some .bool)
theorem kit_o (o : Option Ty) (t : Ty) : kitB (nmO o) t.nm = some (isO o t) := by
  cases o with
  | none => cases t <;> exact of_decide_eq_true (by decide +kernel : decide (_ = _) = true)
  | some u => cases u <;> cases t <;> exact of_decide_eq_true (by decide +kernel : decide (_ = _) = true)
theorem kit_all {K : PySem.W.Frag} (o : Option Ty) : ∀ ts : List Ty, PySem.W.kitAny K (.type (nmO o)) (ts.map fun t => .type t.nm) = some (ts.any fun t => isO o t)
  | [] => rfl
  | t :: r => by
    refine kitAny_cons (kit_ty (kit_o o t)) (fun h => ?_) fun h => ?_
    · show PySem.W.kitAny K _ _ = some (isO o t || r.any fun t => isO o t)
      rw [h, Bool.false_or]
      exact kit_all o r
    · show (isO o t || r.any fun t => isO o t) = true
      rw [h]; rfl
theorem tyx {H : Hp} {Z : Set1} {K : PySem.W.Frag} {d : D} {v : V} {ts : List Ty} {b : Bool} (h : Rt G Z H d v) (e : isTy d ts = some b) : TyX K H v (.type (nmO (tyD d))) ∧ b = ts.any fun t => isO (tyD d) t := by
  have rd : ∀ {a : Addr} {xs : List V}, Rd H a (.lst xs) → TyX K H (.ref a) (.type "list") := fun {a xs} h => by
    rcases h with h | ⟨o, h⟩
    · exact .base (.lst h)
    · exact .base (.frz h)
  rcases h with h | ⟨rfl, h⟩
  · cases h with
    | non => cases e; exact ⟨.base .non, rfl⟩
    | bl b => cases e; exact ⟨.base (.bl b), rfl⟩
    | int i => cases e; exact ⟨.base (.int i), rfl⟩
    | str x ok => cases e; exact ⟨.base (.str x), rfl⟩
    | tup h1 h2 => obtain ⟨o, h1, _⟩ := h1; cases e; exact ⟨.fTuple h1, rfl⟩
    | lst h1 h2 h3 => cases e; exact ⟨rd h1, rfl⟩
    | fn _ => cases e
  · cases d with
    | lst ds => obtain ⟨xs, h1, _⟩ := h; cases e; exact ⟨rd (.inl h1), rfl⟩
    | _ => exact h.elim
theorem sE_isi1 {x y : Expr} {a : E} {t : Ty} (hc : ∀ te, PE X y te → PE X x (fun σ H Q => te σ H fun v H1 => rIsi X.K [v, .ty t.nm] H1 Q)) (ha : PE X y (tE G Z XR W (ev C a))) : PE X x (tE G Z XR W (ev C (.isi a [t]))) := by
  refine pe_imp (hc _ ha) fun σ H Q ⟨e, rel, q⟩ => ?_
  unfold ev at q
  refine ⟨e, rel, (Fin.bind q).imp fun v H1 ⟨r, e1, _, rel1, st1, rr1, q1⟩ => ?_⟩
  cases hl : look e1 r with
  | none => rw [hl] at q1; exact q1.elim
  | some d =>
    rw [hl] at q1
    obtain ⟨b, hb, q2⟩ := Fin.liftB (q1.from st1) rel1
    obtain ⟨h1, h2⟩ := tyx (K := X.K) (rr1.look rel1 hl) hb
    refine ⟨v, .ty t.nm, _, _, b, rfl, .ty _, h1, ?_, q2⟩
    rw [h2]
    show PySem.W.kitOne X.K _ _ = some (isO (tyD d) t || false)
    rw [Bool.or_false]
    exact kit_ty (kit_o _ t)
theorem pairedTy : ∀ ts : List Ty, Paired ClsV (ts.map fun t => V.ty t.nm) (ts.map fun t => Value.type t.nm)
  | [] => .nil
  | t :: r => .cons (.ty _) (pairedTy r)
theorem sE_isiT {x y : Expr} {a : E} {ts : List Ty} (hts : (ts.map fun t => V.ty t.nm).length ≤ sizeLine) (hc : ∀ te, PE X y te → PE X x (fun σ H Q => te σ H fun v H1 => (ts.map fun t => V.ty t.nm).length ≤ sizeLine ∧ ∀ p, H1 p = none → rIsiT X.K [v, .ref p] (upd H1 p (.tup (ts.map fun t => V.ty t.nm))) Q)) (ha : PE X y (tE G Z XR W (ev C a))) : PE X x (tE G Z XR W (ev C (.isi a ts))) := by
  refine pe_imp (hc _ ha) fun σ H Q ⟨e, rel, q⟩ => ?_
  unfold ev at q
  refine ⟨e, rel, (Fin.bind q).imp fun v H1 ⟨r, e1, _, rel1, st1, rr1, q1⟩ => ⟨hts, fun p hp => ?_⟩⟩
  cases hl : look e1 r with
  | none => rw [hl] at q1; exact q1.elim
  | some d =>
    rw [hl] at q1
    have n : New H1 (upd H1 p (.tup (ts.map fun t => V.ty t.nm))) := New.upd hp
    have rel2 := rel1.new n
    have st2 := st1.trans (Stp.new (e := e1) (σ := σ) n)
    obtain ⟨b, hb, q2⟩ := Fin.liftB (q1.from st2) rel2
    have lk : Rt G (also Z (own e1 σ)) (upd H1 p (.tup (ts.map fun t => V.ty t.nm))) d v := ((rr1.later (Stp.new n))).look rel2 hl
    obtain ⟨h1, h2⟩ := tyx (K := X.K) lk hb
    refine ⟨v, p, _, _, _, b, rfl, upd_same, pairedTy ts, h1, ?_, q2⟩
    rw [h2]
    exact kit_all _ ts
/-- isinstance(y, T) -/
theorem pe_isi1 {y : Expr} {te : TE} {t : Ty} {n : Str} {p p2 pos : Pos} (hg : Gl X "isinstance") (hm : X.mg "isinstance" = none) (hg2 : Gl X n) (hm2 : X.mg n = none) (hv : bootBuiltins n = some (.type t.nm)) (hn : n ≠ "__name__") (hd : (n == ("__debug__" : Str)) = false)
    (s1 : starEach [y, .Name n p2] X.env = (false, eval y X.env) :: starEach [.Name n p2] X.env) (s2 : starEach [.Name n p2] X.env = (false, eval (.Name n p2) X.env) :: starEach [] X.env) (hpl : (backTo pos (starEach [.Name n p2] X.env)).any (·.1) = false) (ha : PE X y te) :
    PE X (.Call (.Name "isinstance" p) [y, .Name n p2] [] pos) (fun σ H Q => te σ H fun v H1 => rIsi X.K [v, .ty t.nm] H1 Q) :=
  pe_callB call_isi hg hm boot_isinstance (pa_cons ha (pa_cons (pe_bltn (v := .ty t.nm) hg2 hm2 hv (show RelV (.ty _) (.type _) from rfl) hn hd) pa_nil s2) s1) (by decide) (by decide) s1 hpl
theorem pe_isi2 {y : Expr} {te : TE} {t t' : Ty} {n n' : Str} {k : Nat} {p p2 p3 p4 pos : Pos} (hg : Gl X "isinstance") (hm : X.mg "isinstance" = none) (hg2 : Gl X n) (hm2 : X.mg n = none) (hv : bootBuiltins n = some (.type t.nm)) (hn : n ≠ "__name__") (hd : (n == ("__debug__" : Str)) = false)
    (hg3 : Gl X n') (hm3 : X.mg n' = none) (hv3 : bootBuiltins n' = some (.type t'.nm)) (hn3 : n' ≠ "__name__") (hd3 : (n' == ("__debug__" : Str)) = false)
    (s1 : starEach [y, .Tuple [.Name n p2, .Name n' p3] k p4] X.env = (false, eval y X.env) :: starEach [.Tuple [.Name n p2, .Name n' p3] k p4] X.env) (s2 : starEach [.Tuple [.Name n p2, .Name n' p3] k p4] X.env = (false, eval (.Tuple [.Name n p2, .Name n' p3] k p4) X.env) :: starEach [] X.env)
    (s3 : starEach [.Name n p2, .Name n' p3] X.env = (false, eval (.Name n p2) X.env) :: starEach [.Name n' p3] X.env) (s4 : starEach [.Name n' p3] X.env = (false, eval (.Name n' p3) X.env) :: starEach [] X.env)
    (hpl : (backTo pos (starEach [.Tuple [.Name n p2, .Name n' p3] k p4] X.env)).any (·.1) = false) (ha : PE X y te) :
    PE X (.Call (.Name "isinstance" p) [y, .Tuple [.Name n p2, .Name n' p3] k p4] [] pos) (fun σ H Q => te σ H fun v H1 => ([t, t'].map fun t => V.ty t.nm).length ≤ sizeLine ∧ ∀ p, H1 p = none → rIsiT X.K [v, .ref p] (upd H1 p (.tup ([t, t'].map fun t => V.ty t.nm))) Q) :=
  pe_callB call_isiT hg hm boot_isinstance (pa_cons ha (pa_cons (pe_tup (pa_cons (pe_bltn (v := .ty t.nm) hg2 hm2 hv (show RelV (.ty _) (.type _) from rfl) hn hd) (pa_cons (pe_bltn (v := .ty t'.nm) hg3 hm3 hv3 (show RelV (.ty _) (.type _) from rfl) hn3 hd3) pa_nil s4) s3)) pa_nil s2) s1) (by decide) (by decide) s1 hpl
end
end Lt
end
section
set_option maxRecDepth 100000
namespace Lt
open PySem PySem.Spec PyProof.Rows L2
/-! ### walks over a list or a tuple: k = true is a tuple -/
def SqK (K : PySem.W.Frag) (k : Bool) (H : Hp) (a : Addr) (xs : List V) : Prop := match k with
  | true => SqT K H a xs
  | false => SqL K H a xs
def HSq (k : Bool) (h : Heap) (a : Addr) (its : Array Value) : Prop := match k with
  | true => h.IsTuple a its
  | false => h.IsList a its
def HIt (k : Bool) (h : Heap) (it a : Addr) (i : Nat) : Prop := match k with
  | true => h.IsTupleIter it a i
  | false => h.IsListIter it a i
def oIt (k : Bool) (a : Addr) : Obj := match k with
  | true => { cls := .type "tuple_iterator", data := .fields #[.ref a, .int 0 0] }
  | false => { cls := .type "list_iterator", data := .fields #[.ref a, .int 0 0] }
theorem HIt.at {k : Bool} {h h' : Heap} {it a : Addr} {i : Nat} (x : HIt k h it a i) (e : ∀ o, h.get? it = some o → h'.get? it = some o) : HIt k h' it a i := by
  cases k with
  | true => exact Heap.IsTupleIter.at (h := h) x e
  | false => exact Heap.IsListIter.at (h := h) x e
theorem HSq.at {k : Bool} {h h' : Heap} {a : Addr} {its : Array Value} (x : HSq k h a its) (e : ∀ o, h.get? a = some o → h'.get? a = some o) : HSq k h' a its := by
  cases k with
  | true => exact Heap.IsTuple.at (h := h) x e
  | false => exact Heap.IsList.at (h := h) x e
theorem HIt.obj {k : Bool} {h : Heap} {it a : Addr} {i : Nat} (x : HIt k h it a i) : ∃ o, h.get? it = some o ∧ ∀ v, o.data ≠ .cell v := by
  cases k with
  | true => obtain ⟨o, e, _, d⟩ := x; exact ⟨o, e, fun v z => by rw [d] at z; cases z⟩
  | false => obtain ⟨o, e, _, d⟩ := x; exact ⟨o, e, fun v z => by rw [d] at z; cases z⟩
theorem HSq.obj {k : Bool} {h : Heap} {a : Addr} {its : Array Value} (x : HSq k h a its) : ∃ o, h.get? a = some o := by
  cases k with
  | true => obtain ⟨o, e, _⟩ := x; exact ⟨o, e⟩
  | false => obtain ⟨o, e, _⟩ := x; exact ⟨o, e⟩
theorem HIt.new {k : Bool} {h : Heap} {it a : Addr} (e : h.get? it = some (oIt k a)) : HIt k h it a 0 := by
  cases k with
  | true => exact ⟨_, e, rfl, rfl⟩
  | false => exact ⟨_, e, rfl, rfl⟩
section
variable {X : Cx} {pins : List (Addr × Obj)} {σ : L2.St} {H : Hp} {s : Shared} {a : Addr} {xs ys : List V} {k : Bool}
theorem sqK (I : Inv X pins σ H s) (h : SqK X.K k H a xs) : ∃ its : List Value, Vals xs its ∧ HSq k s.heap a its.toArray ∧ xs.length ≤ sizeLine := by
  cases k with
  | true =>
    obtain ⟨its, r, t, z⟩ := I.tuple h
    exact ⟨its, r, t, z⟩
  | false =>
    obtain ⟨its, r, t, z⟩ := I.list h
    exact ⟨its, r, t.isList, z⟩
theorem sqK_inj (I : Inv X pins σ H s) (h : SqK X.K k H a xs) (h' : SqK X.K k H a ys) : xs = ys := by
  cases k with
  | true => exact I.tuple_inj h h'
  | false => exact I.list_inj h h'
end
theorem drawsK {prog : Program} {w : World} {A : Around} (hh : A.handled = none) (it a : Addr) (hne : a ≠ it) (items : Array Value) : ∀ k : Bool, Draws prog w A it [it, a] items.size (fun i v => items[i]? = some v) (fun i h => HIt k h it a i ∧ HSq k h a items)
  | false => Draws.list hh it a hne items
  | true =>
    { live := fun _ _ st => let ⟨o, ho, _⟩ := st.1; ⟨o, ho⟩
      frame := fun _ _ _ st hk => ⟨st.1.at fun o e => hk it (by simp) o e, st.2.at fun o e => hk a (by simp) o e⟩
      item := fun i s Q E hi st hQ => RZ.nextOf_tuple_item (hit := st.1) (hl := st.2) (x := items[i]) (by simp [hi]) fun h' hit' hs' => hQ _ h' s.toks (by simp [hi]) ⟨hit', Heap.IsTuple.extBut st.2 hs'.extBut hne⟩ hs'
      done := fun s Q E st hE => RZ.nextOf_tuple_end hh st.1 st.2 (by simp) hE }
theorem beginsK (a : Addr) (items : Array Value) : ∀ k : Bool, Begins (.ref a) (oIt k a) (fun h => HSq k h a items)
  | true => begins_tuple a items
  | false => begins_list a items
/-- enumerate over it -/
def ItE (K : PySem.W.Frag) (k : Bool) (a : Addr) : L2.It :=
  ⟨fun i H => ∃ (xs : List V) (x : V), SqK K k H a xs ∧ xs[i]? = some x, fun i H v H' => ∃ T x us, v = .ref T ∧ H T = none ∧ H' = upd H T (.frz (tuO us) (.tup [.int (i : Nat), x])) ∧ ∀ xs, SqK K k H a xs → xs[i]? = some x, fun i H => ∃ xs : List V, SqK K k H a xs ∧ xs.length = i⟩
theorem turnE {P : Program} {w : World} {K : PySem.W.Frag} {elts : List Expr} {kk : Nat} {tpos : Pos} {k : Bool} {a e it : Addr} (hne : e ≠ it) (hea : e ≠ a) (hai : a ≠ it) :
    Turn P w K (.Tuple elts kk tpos) (ItE K k a) [e, it] e (fun i h => (∃ old, IsEnum h e it ((i : Nat) : Int) old) ∧ HIt k h it a i) where
  mem := by simp
  obj := fun i h st b hb => by
    obtain ⟨⟨old, he⟩, hi⟩ := st
    have e' : b = e ∨ b = it := by simpa using hb
    rcases e' with z | z
    · rw [z]; exact ⟨_, he, fun v q => nomatch q⟩
    · rw [z]; exact hi.obj
  keep := fun i h h' st q => let ⟨⟨old, he⟩, hi⟩ := st; ⟨⟨old, q e (by simp) _ he⟩, hi.at fun o z => q it (by simp) o z⟩
  item := by
    intro X hP hw hK hc i pins s σ H E I hf st hg
    subst hP hw hK
    obtain ⟨⟨old, he⟩, hit⟩ := st
    obtain ⟨xs, x, hq, hx⟩ := hg
    obtain ⟨its, rv, p, hz⟩ := sqK I hq
    obtain ⟨u, hu, ru⟩ := rv.get hx
    have hel : e < s.heap.objs.size := Heap.lt_size he
    have hil : it < s.heap.objs.size := by obtain ⟨_, q, _⟩ := hit.obj; exact Heap.lt_size q
    have hlt : i < its.toArray.size := by
      have := (List.getElem?_eq_some_iff.mp hu).1
      rw [List.size_toArray]; exact this
    have nef : e ∉ [it, a] := fun z => by
      rcases List.mem_cons.mp z with z | z
      · exact hne z
      · exact hea (List.mem_singleton.mp z)
    refine wpAny_pyNext_enum_itemD (drawsK (A := X.A.in1) (I.ok.hd hc) it a hai its.toArray k) he ⟨hit, p⟩ hlt hne nef fun x1 h' tk hP ho hst hT hsz hk => ?_
    have ex : x1 = u := by
      have : its.toArray[i]? = some x1 := hP
      rw [List.getElem?_toArray, hu] at this
      exact (Option.some.inj this).symm
    subst ex
    refine ⟨_, rfl, wpAny_letOwnedTupleGo_enum (s := { s with heap := h', toks := tk + 1 }) ho fun h'' he' sb => ?_⟩
    have hT2 : h''.get? s.heap.objs.size = some { cls := .type "tuple", data := .seq #[.int i tk, x1] } := (sb.2 _ (Nat.ne_of_gt hel)).trans hT
    have new : ObjOk X.prog X.w (upd H s.heap.objs.size (.frz (tuO [.int i tk, x1]) (.tup [.int (i : Nat), x]))) h'' s.heap.objs.size (.frz (tuO [.int i tk, x1]) (.tup [.int (i : Nat), x])) :=
      ⟨hT2, by show 2 ≤ sizeLine; decide, [.int i tk, x1], .cons ⟨_, rfl⟩ (.cons ru .nil), ⟨_, hT2, rfl, _, rfl⟩⟩
    have I1 : Inv X pins σ (upd H s.heap.objs.size (.frz (tuO [.int i tk, x1]) (.tup [.int (i : Nat), x]))) { s with heap := h'', toks := tk + 1 } :=
      I.turnedNew (ch := [e, it]) (fun b ob hb q => (sb.2 b (fun z => hb (by simp [z]))).trans (hk b ob (fun z => hb (by simp [z])) (fun z => hb (by simp [z])) q)) hf (Nat.le_refl _) new
    refine ⟨.ref s.heap.objs.size, _, I1, rfl, ⟨_, x, _, rfl, I.hok.fresh (Nat.le_refl _), rfl, fun ys hy => by rw [sqK_inj I hy hq]; exact hx⟩, ⟨⟨x1, ?_⟩, hst.1.at fun o q => (sb.2 it (Ne.symm hne)).trans q⟩, fun b hb => ?_⟩
    · have e1 : ((i + 1 : Nat) : Int) = (i : Int) + 1 := by omega
      rw [e1]; exact he'
    · have hb' : b < s.heap.objs.size := by
        have e' : b = e ∨ b = it := by simpa using hb
        rcases e' with z | z
        · rw [z]; exact hel
        · rw [z]; exact hil
      rw [upd_ne (Nat.ne_of_lt hb')]
      exact (hf b hb).1
  done := by
    intro X hP hw hK hc i pins s σ H E I hf st hg
    subst hP hw hK
    obtain ⟨⟨old, he⟩, hit⟩ := st
    obtain ⟨xs, hq, hx⟩ := hg
    obtain ⟨its, rv, p, hz⟩ := sqK I hq
    obtain ⟨f0, f1, f2, f3, f4, f5⟩ := hf it (by simp)
    have hl : its.toArray.size = i := by rw [List.size_toArray, ← rv.length]; exact hx
    exact wpAny_pyNext_enum_endD (drawsK (A := X.A.in1) (I.ok.hd hc) it a hai its.toArray k) he (by rw [hl]; exact ⟨hit, p⟩) fun h' eb => ⟨rfl, I.turned (t' := s.toks) (fun b o hb q => eb b o hb q) f0 f1 f3 f4 f5⟩
  self := fun A i s Q E st h => let ⟨⟨_, he⟩, _⟩ := st; wpAny_pyIter_enum he h
set_option maxHeartbeats 1000000 in
theorem enum_new {v : Value} {o : Obj} {H : Heap → Prop} (B : Begins v o H) :
    Meets (Builtin.«enumerate.__new__» ⟨[.type "enumerate", v], []⟩) (fun _ R s => H s.heap ∧
      R (.ok (.ret (.ref (s.heap.push o).objs.size))) { s with heap := (s.heap.push o).push { cls := .type "enumerate", data := .fields #[.none, .bool false, .ref s.heap.objs.size, rawInt 0, .none, .none] } }) :=
  .of_wp fun prog w A R s h => by
    obtain ⟨hp, g, d, tk, os⟩ := s; obtain ⟨h1, h⟩ := h
    have hsub := sub_enumerate
    have q1 : ∀ {A' : Around} {E : Value → Shared → Prop} {Q : Value → Shared → Prop}, Q (.ref hp.objs.size) ⟨hp.push o, g, d, tk, os⟩ → wpAny (model prog w) A' (pyIter v) Q E ⟨hp, g, d, tk, os⟩ :=
      fun q => B.iter prog w _ _ ⟨hp, g, d, tk, os⟩ _ h1 q
    wp_walk using q1
    refine wpAny_stack_any fun st => wpAny_pure ?_
    split
    · rename_i c _ _ _ _ _
      cases (c == Value.type "enumerate")
      · wp_walk using q1
        exact ⟨_, rfl, h⟩
      · wp_walk using q1
        exact ⟨_, rfl, h⟩
    · wp_walk using q1
      exact ⟨_, rfl, h⟩
theorem enum_starts {prog : Program} {w : World} {A : Around} {E : Value → Shared → Prop} {s : Shared} {v : Value} {o : Obj} {H : Heap → Prop} {Q : Value → Shared → Prop} (B : Begins v o H) (h1 : H s.heap)
    (h : ∀ h', IsEnum h' (s.heap.objs.size + 1) s.heap.objs.size 0 .none → h'.get? s.heap.objs.size = some o → (∀ b o, s.heap.get? b = some o → h'.get? b = some o) → Q (.ref (s.heap.objs.size + 1)) { s with heap := h' }) :
    wpAny (model prog w) A (call (.type "enumerate") [v]) Q E s := by
  refine callType_new F.called_enumerate (by decide) (F.typeCall_enumerate_1 _) (F.newCall_enumerate_1 _) (fun obj => F.args_object_init_2 obj _) F.entry_enumerate_new (enum_new B) ⟨h1, ?_⟩
  have hz : (s.heap.push o).objs.size = s.heap.objs.size + 1 := Heap.size_push ..
  show _ ∧ _
  rw [hz]
  have he : IsEnum ((s.heap.push o).push { cls := .type "enumerate", data := .fields #[.none, .bool false, .ref s.heap.objs.size, rawInt 0, .none, .none] }) (s.heap.objs.size + 1) s.heap.objs.size 0 .none := by
    have := Heap.get?_push_size (s.heap.push o) (o := { cls := .type "enumerate", data := .fields #[.none, .bool false, .ref s.heap.objs.size, rawInt 0, .none, .none] }) rfl
    rw [hz] at this; exact this
  exact ⟨⟨_, he, rfl⟩, h _ he (Heap.get?_push_of_some _ (Heap.get?_push_size _ B.free)) fun b o x => Heap.get?_push_of_some _ (Heap.get?_push_of_some _ x)⟩
/-- zip over two of them -/
def ItZ (K : PySem.W.Frag) (k l : Bool) (a b : Addr) : L2.It :=
  ⟨fun i H => ∃ (xs ys : List V) (x y : V), SqK K k H a xs ∧ SqK K l H b ys ∧ xs[i]? = some x ∧ ys[i]? = some y,
    fun i H v H' => ∃ T x y us, v = .ref T ∧ H T = none ∧ H' = upd H T (.frz (tuO us) (.tup [x, y])) ∧ (∀ xs, SqK K k H a xs → xs[i]? = some x) ∧ ∀ ys, SqK K l H b ys → ys[i]? = some y,
    fun i H => ∃ xs ys : List V, SqK K k H a xs ∧ SqK K l H b ys ∧ i ≤ xs.length ∧ i ≤ ys.length ∧ (i = xs.length ∨ i = ys.length)⟩
theorem turnZ {P : Program} {w : World} {K : PySem.W.Frag} {elts : List Expr} {kk : Nat} {tpos : Pos} {k l : Bool} {a b z TI TO i1 i2 : Addr} (D : ZipSep2 z TI TO i1 i2 [i1, a] [i2, b]) (h1a : a ≠ i1) (h2b : b ≠ i2) :
    Turn P w K (.Tuple elts kk tpos) (ItZ K k l a b) [z, TI, TO, i1, i2] z (fun i h => IsZip h z TI TO .none ∧ IsTupOf2 h TI (.ref i1) (.ref i2) ∧ (∃ x y, IsTupOf2 h TO x y) ∧ HIt k h i1 a i ∧ HIt l h i2 b i) where
  mem := by simp
  obj := fun i h st c hc => by
    obtain ⟨hz, hTI, ⟨x, y, hTO⟩, h1, h2⟩ := st
    have e' : c = z ∨ c = TI ∨ c = TO ∨ c = i1 ∨ c = i2 := by simpa using hc
    rcases e' with q | q | q | q | q
    · rw [q]; exact ⟨_, hz, fun v q => nomatch q⟩
    · rw [q]; exact ⟨_, hTI, fun v q => nomatch q⟩
    · rw [q]; exact ⟨_, hTO, fun v q => nomatch q⟩
    · rw [q]; exact h1.obj
    · rw [q]; exact h2.obj
  keep := fun i h h' st q => by
    obtain ⟨hz, hTI, ⟨x, y, hTO⟩, h1, h2⟩ := st
    exact ⟨q z (by simp) _ hz, q TI (by simp) _ hTI, ⟨x, y, q TO (by simp) _ hTO⟩, h1.at fun o e => q i1 (by simp) o e, h2.at fun o e => q i2 (by simp) o e⟩
  item := by
    intro X hP hw hK hc i pins s σ H E I hf st hg
    subst hP hw hK
    obtain ⟨hz, hTI, ⟨x0, y0, hTO⟩, h1, h2⟩ := st
    obtain ⟨xs, ys, x, y, hqx, hqy, hx, hy⟩ := hg
    obtain ⟨its, rv, p, _⟩ := sqK I hqx
    obtain ⟨its2, rv2, p2, _⟩ := sqK I hqy
    obtain ⟨u, hu, ru⟩ := rv.get hx
    obtain ⟨u2, hu2, ru2⟩ := rv2.get hy
    have hzl : z < s.heap.objs.size := Heap.lt_size hz
    have l1 : i < its.toArray.size := by rw [List.size_toArray]; exact (List.getElem?_eq_some_iff.mp hu).1
    have l2 : i < its2.toArray.size := by rw [List.size_toArray]; exact (List.getElem?_eq_some_iff.mp hu2).1
    refine wpAny_pyNext_zipD2_item D (drawsK (A := X.A.in1) (I.ok.hd hc) i1 a h1a its.toArray k) (drawsK (A := X.A.in1) (I.ok.hd hc) i2 b h2b its2.toArray l) hz hTI hTO ⟨h1, p⟩ ⟨h2, p2⟩ l1 l2 fun x1 x2 h' tk hP1 hP2 z' TO' st1 st2 hT hsz hk => ?_
    have ex : x1 = u := by
      have : its.toArray[i]? = some x1 := hP1
      rw [List.getElem?_toArray, hu] at this
      exact (Option.some.inj this).symm
    have ey : x2 = u2 := by
      have : its2.toArray[i]? = some x2 := hP2
      rw [List.getElem?_toArray, hu2] at this
      exact (Option.some.inj this).symm
    subst ex ey
    refine ⟨_, rfl, wpAny_letOwnedTupleGo_zip (s := { s with heap := h', toks := tk }) z' fun h'' z'' sb => ?_⟩
    have hT2 : h''.get? s.heap.objs.size = some { cls := .type "tuple", data := .seq #[x1, x2] } := (sb.2 _ (Nat.ne_of_gt hzl)).trans hT
    have new : ObjOk X.prog X.w (upd H s.heap.objs.size (.frz (tuO [x1, x2]) (.tup [x, y]))) h'' s.heap.objs.size (.frz (tuO [x1, x2]) (.tup [x, y])) :=
      ⟨hT2, by show 2 ≤ sizeLine; decide, [x1, x2], .cons ru (.cons ru2 .nil), ⟨_, hT2, rfl, _, rfl⟩⟩
    have I1 : Inv X pins σ (upd H s.heap.objs.size (.frz (tuO [x1, x2]) (.tup [x, y]))) { s with heap := h'', toks := tk } :=
      I.turnedNew (t' := tk) (ch := [z, TI, TO, i1, i2]) (fun c o hb q => (sb.2 c (fun q' => hb (by simp [q']))).trans (hk c o (fun q' => hb (by simp [q'])) (fun q' => hb (by simp [q'])) (fun q' => hb (by simp [q'])) (fun q' => hb (by simp [q'])) q)) hf (Nat.le_refl _) new
    refine ⟨.ref s.heap.objs.size, _, I1, rfl, ⟨_, x, y, _, rfl, I.hok.fresh (Nat.le_refl _), rfl, fun m hm => by rw [sqK_inj I hm hqx]; exact hx, fun m hm => by rw [sqK_inj I hm hqy]; exact hy⟩, ⟨z'', ?_, ⟨x1, x2, ?_⟩, ?_, ?_⟩, fun c hcm => ?_⟩
    · exact (sb.2 _ D.TIz).trans (hk _ _ D.TIz D.TITO D.TIi1 D.TIi2 hTI)
    · exact (sb.2 _ D.TOz).trans TO'
    · exact st1.1.at fun o q => (sb.2 _ (Ne.symm D.zi1)).trans q
    · exact st2.1.at fun o q => (sb.2 _ (Ne.symm D.zi2)).trans q
    · have hlt : c < s.heap.objs.size := by
        have e' : c = z ∨ c = TI ∨ c = TO ∨ c = i1 ∨ c = i2 := by simpa using hcm
        rcases e' with q | q | q | q | q
        · rw [q]; exact hzl
        · rw [q]; exact Heap.lt_size hTI
        · rw [q]; exact Heap.lt_size hTO
        · rw [q]; obtain ⟨_, e1, _⟩ := h1.obj; exact Heap.lt_size e1
        · rw [q]; obtain ⟨_, e2, _⟩ := h2.obj; exact Heap.lt_size e2
      rw [upd_ne (Nat.ne_of_lt hlt)]
      exact (hf c hcm).1
  done := by
    intro X hP hw hK hc i pins s σ H E I hf st hg
    subst hP hw hK
    obtain ⟨hz, hTI, ⟨x0, y0, hTO⟩, h1, h2⟩ := st
    obtain ⟨xs, ys, hqx, hqy, n1, n2, hend⟩ := hg
    obtain ⟨its, rv, p, _⟩ := sqK I hqx
    obtain ⟨its2, rv2, p2, _⟩ := sqK I hqy
    have l1 : its.toArray.size = xs.length := by rw [List.size_toArray, ← rv.length]
    have l2 : its2.toArray.size = ys.length := by rw [List.size_toArray, ← rv2.length]
    exact wpAny_pyNext_zipD2_end D (drawsK (A := X.A.in1) (I.ok.hd hc) i1 a h1a its.toArray k) (drawsK (A := X.A.in1) (I.ok.hd hc) i2 b h2b its2.toArray l) hz hTI hTO ⟨h1, p⟩ ⟨h2, p2⟩ (by omega) (by omega) (by omega) fun h' tk hk => ⟨rfl, I.turnedL (t' := tk) (ch := [z, TI, TO, i1, i2]) (fun c o hb q =>
      hk c o (fun q' => hb (by simp [q'])) (fun q' => hb (by simp [q'])) (fun q' => hb (by simp [q'])) (fun q' => hb (by simp [q'])) q) hf⟩
  self := fun A i s Q E st h => wpAny_pyIter_zip st.1 h
end Lt
end
section
set_option maxRecDepth 100000
namespace Lt
open PySem PySem.Spec PyProof.Rows L2
section
variable {X : Cx} {G : Nat → Option Addr} {M M' Z : Set1} {H H' : Hp} {k : Bool} {a : Addr} {us : List V} {ds : List D}
theorem keeps_also (q : Keeps M M' H H') (Z : Set1) : Keeps (also Z M) (also Z M') H H' :=
  ⟨fun b o h n => let ⟨h1, n1⟩ := q.keep b o h fun z => n (.inr z); ⟨h1, fun z => z.elim (fun z => n (.inl z)) n1⟩, q.tup⟩
/-- the container that is walked -/
def Held (G : Nat → Option Addr) (k : Bool) (a : Addr) (us : List V) (ds : List D) (M Z : Set1) (H : Hp) : Prop := (match k with
  | true => Tu H a us
  | false => Rd H a (.lst us) ∧ ¬ M a) ∧ Rps G (also Z M) H ds us
theorem Held.keep (h : Held G k a us ds M Z H) (q : Keeps M M' H H') : Held G k a us ds M' Z H' := by
  refine ⟨?_, h.2.step (keeps_also q Z)⟩
  cases k with
  | true => exact q.tup a us h.1
  | false =>
    obtain ⟨h1, h2⟩ := h.1
    rcases h1 with h1 | ⟨o, h1⟩
    · obtain ⟨e, n⟩ := q.keep a _ h1 h2
      exact ⟨.inl e, n⟩
    · obtain ⟨e, n⟩ := q.keep a _ h1 h2
      exact ⟨.inr ⟨o, e⟩, n⟩
theorem Held.away {b : Addr} (h : Held G k a us ds M Z H) (h0 : H b = none) (n : New H H') : Held G k a us ds (plus M b) Z H' := by
  refine ⟨?_, ((h.2.away h0).anti fun c z => z.elim (fun z => .inl (.inl z)) fun z => z.elim (fun z => .inl (.inr z)) .inr).step (n.keeps _)⟩
  cases k with
  | true => obtain ⟨o, e, d⟩ := h.1; exact ⟨o, n a _ e, d⟩
  | false =>
    obtain ⟨h1, h2⟩ := h.1
    rcases h1 with h1 | ⟨o, h1⟩
    · exact ⟨.inl (n a _ h1), fun z => z.elim h2 fun e => by rw [e, h0] at h1; cases h1⟩
    · exact ⟨.inr ⟨o, n a _ h1⟩, fun z => z.elim h2 fun e => by rw [e, h0] at h1; cases h1⟩
theorem Held.sq {K : PySem.W.Frag} (h : Held G k a us ds M Z H) : SqK K k H a us := by
  cases k with
  | true => exact .inl h.1.rd
  | false => exact .inl h.1.1
theorem Held.of {d : D} {v : V} (h : Src G M Z H d v) (e : items d = some ds) : ∃ k a us, v = .ref a ∧ Held G k a us ds M Z H := by
  cases d with
  | tup l =>
    cases e
    cases h with
    | tup h1 h2 => exact ⟨true, _, _, rfl, h1, h2⟩
  | lst l =>
    cases e
    obtain ⟨a, us, h1, h2, h3, h4⟩ := h
    exact ⟨false, a, us, h1, ⟨h2, h3⟩, h4⟩
  | _ => cases e
def ItP (K : PySem.W.Frag) (a : Addr) : Bool → L2.It
  | true => Itt K a
  | false => Itl K a
theorem walkP (h : Held G k a us ds M Z H) (hz : us.length ≤ sizeLine) (K : PySem.W.Frag) : WalkD G (ItP K a k) ds (Held G k a us ds) where
  keep := fun _ _ _ _ _ q h => h.keep q
  go := fun M Z H i h hi => by
    have l := h.2.length
    obtain ⟨d, hd⟩ : ∃ d, ds[i]? = some d := ⟨ds[i], List.getElem?_eq_getElem hi⟩
    obtain ⟨v, hv, _⟩ := h.2.get hd
    have q := h.sq (K := K)
    cases k with
    | true => exact ⟨us, v, q, hv⟩
    | false => exact ⟨us, v, q, hv⟩
  stop := fun M Z H h => by
    have q := h.sq (K := K)
    have l := h.2.length
    cases k with
    | true => exact ⟨us, q, by omega⟩
    | false => exact ⟨us, q, by omega⟩
  item := fun M Z H i d x H' h hd y => by
    have q := h.sq (K := K)
    obtain ⟨v, hv, rv⟩ := h.2.get hd
    have : H' = H ∧ us[i]? = some x := by
      cases k with
      | true => exact ⟨y.1, y.2 us q⟩
      | false => exact ⟨y.1, y.2 us q⟩
    obtain ⟨e, hx⟩ := this
    subst e
    rw [hv] at hx
    cases hx
    exact ⟨.refl _, rv⟩
  away := fun _ _ _ _ _ h0 n h => h.away h0 n
  line := by rw [h.2.length]; exact hz
theorem p_pl {tg y : Expr} {te : TE} (ha : PE X y te) : PI X tg y (fun σ H R => te σ H fun v H1 => rIt G .pl [v] H1 R) := by
  refine ⟨fun pins s σ H R I h => ?_⟩
  refine thn (ha.run pins s σ H _ I h) fun v s1 ⟨x, H1, I1, r1, M, Z, ds, xs, sr, it, q⟩ => ?_
  match ds, sr, it with
  | [d], ⟨sr, _⟩, it =>
    obtain ⟨k, a, us, rfl, hd⟩ := Held.of sr (show items d = some xs from it)
    cases r1
    have fin : us.length ≤ sizeLine → R (ItP X.K a k) H1 := fun hz => q _ _ H1 (.refl _) (walkP hd hz X.K) hd
    cases k with
    | true =>
      obtain ⟨its, rv, p, hz⟩ := I1.tuple (show SqT X.K H1 a us from hd.sq)
      refine wpAny_pyIter_tuple (show s1.heap.IsTuple a its.toArray from p) ?_
      refine ⟨s1.heap.objs.size, [s1.heap.objs.size], _, _, H1, rfl, I1.kept (t' := s1.toks) fun b o e => Heap.get?_push_of_some _ e, turn_tuple a _, ⟨_, Heap.get?_push_size _ rfl, rfl, rfl⟩, fun b hb => ?_, fin hz⟩
      have e : b = s1.heap.objs.size := by simpa using hb
      subst e
      exact I1.fpOk (Nat.le_refl _) (I1.hok.fresh (Nat.le_refl _))
    | false =>
      obtain ⟨its, rv, p, hz⟩ := I1.list (show SqL X.K H1 a us from hd.sq)
      refine wpAny_pyIter_list p.isList ?_
      refine ⟨s1.heap.objs.size, [s1.heap.objs.size], _, _, H1, rfl, I1.kept (t' := s1.toks) fun b o e => Heap.get?_push_of_some _ e, turn_list a _, ⟨_, Heap.get?_push_size _ rfl, rfl, rfl⟩, fun b hb => ?_, fin hz⟩
      have e : b = s1.heap.objs.size := by simpa using hb
      subst e
      exact I1.fpOk (Nat.le_refl _) (I1.hok.fresh (Nat.le_refl _))
/-! enumerate -/
theorem pairs_get : ∀ {l : List D} {k i : Nat}, (pairs k l)[i]? = (l[i]?).map fun x => .tup [.int ((k + i : Nat) : Int), x]
  | [], _, _ => rfl
  | x :: r, k, 0 => rfl
  | x :: r, k, i + 1 => by
    show (pairs (k + 1) r)[i]? = _
    rw [pairs_get, List.getElem?_cons_succ]
    have : k + 1 + i = k + (i + 1) := by omega
    rw [this]
theorem pairs_len : ∀ {l : List D} {k : Nat}, (pairs k l).length = l.length
  | [], _ => rfl
  | x :: r, k => congrArg Nat.succ pairs_len
theorem walkE (h : Held G k a us ds M Z H) (hz : us.length ≤ sizeLine) (K : PySem.W.Frag) : WalkD G (ItE K k a) (pairs 0 ds) (Held G k a us ds) where
  keep := fun _ _ _ _ _ q h => h.keep q
  go := fun M Z H i h hi => by
    rw [pairs_len] at hi
    obtain ⟨v, hv, _⟩ := h.2.get (List.getElem?_eq_getElem hi)
    exact ⟨us, v, h.sq, hv⟩
  stop := fun M Z H h => ⟨us, h.sq, by rw [pairs_len, h.2.length]⟩
  item := fun M Z H i d x H' h hd y => by
    rw [pairs_get, Nat.zero_add] at hd
    cases he : ds[i]? with
    | none => rw [he] at hd; cases hd
    | some e =>
      rw [he] at hd
      cases hd
      obtain ⟨v, hv, rv⟩ := h.2.get he
      obtain ⟨T, x', ws, rfl, hT, rfl, hx⟩ := y
      have := hx us h.sq
      rw [hv] at this
      cases this
      exact ⟨New.upd hT, Rp.tup ⟨_, upd_same, rfl⟩ (.cons (.int _) (.cons (rv.step ((New.upd hT).keeps _)) .nil))⟩
  away := fun _ _ _ _ _ h0 n h => h.away h0 n
  line := by rw [pairs_len, h.2.length]; exact hz
theorem p_en {y : Expr} {te : TE} {p pos tpos : Pos} {elts : List Expr} {kk : Nat} (hg : Gl X "enumerate") (hm : X.mg "enumerate" = none) (hs : starEach [y] X.env = (false, eval y X.env) :: starEach [] X.env) (ha : PE X y te) :
    PI X (.Tuple elts kk tpos) (.Call (.Name "enumerate" p) [y] [] pos) (fun σ H R => te σ H fun v H1 => rIt G .en [v] H1 R) := by
  refine ⟨fun pins s σ H R I h => ?_⟩
  refine Call_ (ld_blt I hg hm boot_enumerate (PyProof.Rows.callWith_type1 (one_arg ha I h (fun v s1 x H1 I1 r1 q1 => ?_) hs) hs rfl))
  obtain ⟨M, Z, ds, xs, sr, it, q⟩ := q1
  match ds, sr, it with
  | [d], ⟨sr, _⟩, it =>
    have it' : (items d).map (pairs 0) = some xs := it
    cases hi : items d with
    | none => rw [hi] at it'; cases it'
    | some l =>
      rw [hi] at it'
      cases it'
      obtain ⟨k, a, us, rfl, hd⟩ := Held.of sr hi
      cases r1
      obtain ⟨its, rv, p', hz⟩ := sqK I1 (hd.sq (K := X.K))
      have la : a < s1.heap.objs.size := by obtain ⟨_, e⟩ := p'.obj; exact Heap.lt_size e
      refine enum_starts (beginsK a its.toArray k) p' fun h' he ho hk => wpAny_pyIter_enum he ?_
      have I2 : L2.Inv X pins σ H1 { s1 with heap := h' } := I1.kept (t' := s1.toks) hk
      refine ⟨s1.heap.objs.size + 1, [s1.heap.objs.size + 1, s1.heap.objs.size], _, _, H1, rfl, I2, turnE (k := k) (a := a) (Nat.succ_ne_self _) (Nat.ne_of_gt (Nat.lt_succ_of_lt la)) (Nat.ne_of_lt la), ⟨⟨.none, he⟩, .new ho⟩, fun b hb => ?_, q _ _ H1 (.refl _) (walkE hd hz X.K) hd⟩
      have e' : b = s1.heap.objs.size + 1 ∨ b = s1.heap.objs.size := by simpa using hb
      have hle : s1.heap.objs.size ≤ b := by
        rcases e' with z | z
        · rw [z]; exact Nat.le_add_right _ _
        · rw [z]; exact Nat.le_refl _
      exact I1.fpOk hle (I1.hok.fresh hle)
/-! zip -/
theorem zipD_get : ∀ {l m : List D} {i : Nat} {d : D}, (zipD l m)[i]? = some d → ∃ x y, l[i]? = some x ∧ m[i]? = some y ∧ d = .tup [x, y]
  | [], _, _, _, h => by cases h
  | _ :: _, [], _, _, h => by cases h
  | x :: r, y :: t, 0, d, h => by cases h; exact ⟨x, y, rfl, rfl, rfl⟩
  | x :: r, y :: t, i + 1, d, h => zipD_get (l := r) (m := t) (i := i) h
theorem zipD_len : ∀ {l m : List D}, (zipD l m).length = min l.length m.length
  | [], _ => by simp [zipD]
  | _ :: _, [] => by simp [zipD]
  | x :: r, y :: t => by
    show (zipD r t).length + 1 = min (r.length + 1) (t.length + 1)
    rw [zipD_len]
    omega
theorem walkZ {k' : Bool} {b : Addr} {ws : List V} {es : List D} (h : Held G k a us ds M Z H) (hz : us.length ≤ sizeLine) (h2 : Held G k' b ws es M Z H) (K : PySem.W.Frag) : WalkD G (ItZ K k k' a b) (zipD ds es) (fun M Z H => Held G k a us ds M Z H ∧ Held G k' b ws es M Z H) where
  keep := fun _ _ _ _ _ q h => ⟨h.1.keep q, h.2.keep q⟩
  go := fun M Z H i h hi => by
    rw [zipD_len] at hi
    obtain ⟨v, hv, _⟩ := h.1.2.get (List.getElem?_eq_getElem (show i < ds.length by omega))
    obtain ⟨w, hw, _⟩ := h.2.2.get (List.getElem?_eq_getElem (show i < es.length by omega))
    exact ⟨us, ws, v, w, h.1.sq, h.2.sq, hv, hw⟩
  stop := fun M Z H h => by
    have l1 := h.1.2.length
    have l2 := h.2.2.length
    have l3 := zipD_len (l := ds) (m := es)
    exact ⟨us, ws, h.1.sq, h.2.sq, by omega, by omega, by omega⟩
  item := fun M Z H i d x H' h hd y => by
    obtain ⟨d1, d2, e1, e2, rfl⟩ := zipD_get hd
    obtain ⟨v, hv, rv⟩ := h.1.2.get e1
    obtain ⟨w, hw, rw'⟩ := h.2.2.get e2
    obtain ⟨T, x', y', vs', rfl, hT, rfl, hx, hy⟩ := y
    have q1 := hx us h.1.sq
    rw [hv] at q1
    cases q1
    have q2 := hy ws h.2.sq
    rw [hw] at q2
    cases q2
    exact ⟨New.upd hT, Rp.tup ⟨_, upd_same, rfl⟩ (.cons (rv.step ((New.upd hT).keeps _)) (.cons (rw'.step ((New.upd hT).keeps _)) .nil))⟩
  away := fun _ _ _ _ _ h0 n h => ⟨h.1.away h0 n, h.2.away h0 n⟩
  line := by
    rw [zipD_len, h.2.length]
    omega
theorem p_zp {y z : Expr} {ta : TA} {p pos tpos : Pos} {elts : List Expr} {kk : Nat} (hg : Gl X "zip") (hm : X.mg "zip" = none) (hs : starEach [y, z] X.env = (false, eval y X.env) :: starEach [z] X.env) (hpl : (backTo pos (starEach [z] X.env)).any (·.1) = false) (ha : PA X [y, z] ta) :
    PI X (.Tuple elts kk tpos) (.Call (.Name "zip" p) [y, z] [] pos) (fun σ H R => ta σ H fun vs H1 => rIt G .zp vs H1 R) := by
  refine ⟨fun pins s σ H R I h => ?_⟩
  refine Call_ (ld_blt I hg hm PyProof.Rows.boot_zip (PyProof.Rows.callWith_type1 (thn (ha.run pos pins s σ H _ I h) fun us s1 ⟨vs, H1, I1, r1, q1⟩ => ?_) hs hpl))
  obtain ⟨M, Z, ds, xs, sr, it, q⟩ := q1
  match ds, vs, sr, it with
  | [d, d'], [v, w], ⟨sr, sr2, _⟩, it =>
    have it' : (match items d, items d' with
      | some x, some y => some (zipD x y)
      | _, _ => none) = some xs := it
    cases hi : items d with
    | none => rw [hi] at it'; cases it'
    | some l =>
      cases hj : items d' with
      | none => rw [hi, hj] at it'; cases it'
      | some m =>
        rw [hi, hj] at it'
        cases it'
        obtain ⟨k, a, us, rfl, hd⟩ := Held.of sr hi
        obtain ⟨k', b, ws, rfl, hd2⟩ := Held.of sr2 hj
        cases r1 with
        | cons r rr =>
          cases rr with
          | cons r' rr =>
            cases rr
            cases r
            cases r'
            obtain ⟨its, rv, p1, hz⟩ := sqK I1 (hd.sq (K := X.K))
            obtain ⟨its2, rv2, p2, _⟩ := sqK I1 (hd2.sq (K := X.K))
            have la : a < s1.heap.objs.size := by obtain ⟨_, e⟩ := p1.obj; exact Heap.lt_size e
            have lb : b < s1.heap.objs.size := by obtain ⟨_, e⟩ := p2.obj; exact Heap.lt_size e
            refine zip_begins2 (beginsK a its.toArray k) (beginsK b its2.toArray k') p1 p2 fun h' hz' hTI hTO h1 h2 hsz hk => wpAny_pyIter_zip hz' ?_
            have I2 : L2.Inv X pins σ H1 { s1 with heap := h' } := I1.kept (t' := s1.toks) hk
            have sep : ZipSep2 (s1.heap.objs.size + 4) (s1.heap.objs.size + 2) (s1.heap.objs.size + 3) s1.heap.objs.size (s1.heap.objs.size + 1) [s1.heap.objs.size, a] [s1.heap.objs.size + 1, b] :=
              zip_sep2 (fun c hc => by rw [List.mem_singleton.mp hc]; exact la) (fun c hc => by rw [List.mem_singleton.mp hc]; exact lb)
            refine ⟨s1.heap.objs.size + 4, [s1.heap.objs.size + 4, s1.heap.objs.size + 2, s1.heap.objs.size + 3, s1.heap.objs.size, s1.heap.objs.size + 1], _, _, H1, rfl, I2, turnZ (k := k) (l := k') sep (Nat.ne_of_lt la) (Nat.ne_of_lt (Nat.lt_succ_of_lt lb)), ⟨hz', hTI, ⟨_, _, hTO⟩, .new h1, .new h2⟩, fun c hcm => ?_, q _ _ H1 (.refl _) (walkZ hd hz hd2 X.K) ⟨hd, hd2⟩⟩
            have e' : c = s1.heap.objs.size + 4 ∨ c = s1.heap.objs.size + 2 ∨ c = s1.heap.objs.size + 3 ∨ c = s1.heap.objs.size ∨ c = s1.heap.objs.size + 1 := by simpa using hcm
            have hle : s1.heap.objs.size ≤ c := by
              rcases e' with z | z | z | z | z
              · rw [z]; exact Nat.le_add_right _ _
              · rw [z]; exact Nat.le_add_right _ _
              · rw [z]; exact Nat.le_add_right _ _
              · rw [z]; exact Nat.le_refl _
              · rw [z]; exact Nat.le_add_right _ _
            exact I1.fpOk hle (I1.hok.fresh hle)
/-! range -/
theorem walkR (lo : Int) (n : Nat) (hn : n ≤ sizeLine) : WalkD G (Itr lo n) ((List.range n).map fun (k : Nat) => .int (lo + k)) (fun _ _ _ => True) where
  keep := fun _ _ _ _ _ _ _ => trivial
  go := fun M Z H i _ hi => by
    rw [List.length_map, List.length_range] at hi
    exact hi
  stop := fun M Z H _ => by
    rw [List.length_map, List.length_range]
    exact Nat.le_refl n
  item := fun M Z H i d x H' _ hd y => by
    obtain ⟨rfl, rfl⟩ := y
    rw [List.getElem?_map] at hd
    cases he : (List.range n)[i]? with
    | none => rw [he] at hd; cases hd
    | some e =>
      rw [he] at hd
      cases hd
      have : e = i := by
        have h := List.getElem?_eq_some_iff.mp he
        rw [← h.2, List.getElem_range]
      subst this
      exact ⟨.refl _, .int _⟩
  away := fun _ _ _ _ _ _ _ _ => trivial
  line := by rw [List.length_map, List.length_range]; exact hn
theorem itD_rg1 {ds xs : List D} (h : itD .rg1 ds = some xs) : ∃ n : Int, ds = [.int n] ∧ (n ≤ 16777216 ∧ -16777216 ≤ n) ∧ xs = (List.range n.toNat).map fun (k : Nat) => D.int k := by
  unfold itD at h
  split at h <;> first | cases h | skip
  all_goals first
    | (simp at *; done)
    | (simp at *; exact ⟨h.1, h.2.symm⟩)
theorem p_rg1 {tg y : Expr} {te : TE} {p pos : Pos} (hg : Gl X "range") (hm : X.mg "range" = none) (hs : starEach [y] X.env = (false, eval y X.env) :: starEach [] X.env) (ha : PE X y te) :
    PI X tg (.Call (.Name "range" p) [y] [] pos) (fun σ H R => te σ H fun v H1 => rIt G .rg1 [v] H1 R) := by
  refine ⟨fun pins s σ H R I h => ?_⟩
  refine Call_ (ld_blt I hg hm boot_range (PyProof.Rows.callWith_type1 (one_arg ha I h (fun v s1 x H1 I1 r1 q1 => ?_) hs) hs rfl))
  obtain ⟨M, Z, ds, xs, sr, it, q⟩ := q1
  obtain ⟨n, rfl, hn, rfl⟩ := itD_rg1 it
  cases (show Rp G (also Z M) H1 (.int n) x from sr.1)
  obtain ⟨t, rfl⟩ := r1
  have e : ((List.range n.toNat).map fun (k : Nat) => D.int k) = (List.range (n - 0).toNat).map fun (k : Nat) => D.int (0 + k) := by
    rw [Int.sub_zero]
    exact List.map_congr_left fun a _ => by rw [Int.zero_add]
  have wk : WalkD G (Itr 0 (n - 0).toNat) ((List.range n.toNat).map fun (k : Nat) => D.int k) (fun _ _ _ => True) := by
    rw [e]
    exact walkR 0 _ (by rw [sizeLine_eq]; omega)
  exact call_range_1 (range_it I1 (by omega) (by omega) (by omega) (by omega) (q (Itr 0 (n - 0).toNat) (fun _ _ _ => True) H1 (.refl _) wk trivial))
theorem p_rg2 {tg y z : Expr} {ta : TA} {p pos : Pos} (hg : Gl X "range") (hm : X.mg "range" = none) (hs : starEach [y, z] X.env = (false, eval y X.env) :: starEach [z] X.env) (hpl : (backTo pos (starEach [z] X.env)).any (·.1) = false) (ha : PA X [y, z] ta) :
    PI X tg (.Call (.Name "range" p) [y, z] [] pos) (fun σ H R => ta σ H fun vs H1 => rIt G .rg2 vs H1 R) := by
  refine ⟨fun pins s σ H R I h => ?_⟩
  refine Call_ (ld_blt I hg hm boot_range (PyProof.Rows.callWith_type1 (thn (ha.run pos pins s σ H _ I h) fun us s1 ⟨vs, H1, I1, r1, q1⟩ => ?_) hs hpl))
  obtain ⟨M, Z, ds, xs, sr, it, q⟩ := q1
  match ds, vs, sr, it with
  | [.int m, .int n], [v, w], ⟨sr, sr2, _⟩, it =>
    have it' : (if n - m ≤ 16777216 ∧ n.natAbs ≤ 4611686018427387903 ∧ m.natAbs ≤ 4611686018427387903 then some ((List.range (n - m).toNat).map fun (k : Nat) => D.int (m + k)) else none) = some xs := it
    by_cases hn : n - m ≤ 16777216 ∧ n.natAbs ≤ 4611686018427387903 ∧ m.natAbs ≤ 4611686018427387903
    · rw [if_pos hn] at it'
      cases it'
      cases (show Rp G (also Z M) H1 (.int m) v from sr)
      cases (show Rp G (also Z M) H1 (.int n) w from sr2)
      cases r1 with
      | cons r rr =>
        cases rr with
        | cons r' rr =>
          cases rr
          obtain ⟨t, rfl⟩ := r
          obtain ⟨t', rfl⟩ := r'
          exact call_range_2 (range_it I1 (by omega) (by omega) (by omega) (by omega) (q (Itr m (n - m).toNat) (fun _ _ _ => True) H1 (.refl _) (walkR m _ (by rw [sizeLine_eq]; omega)) trivial))
    · rw [if_neg hn] at it'; cases it'
end
section
variable {X : Cx} {G : Nat → Option Addr} {Z : Set1} {XR : XRel} {W : WX} {C : Calls} {pos : Pos}
/-- one expression as a list of one -/
theorem tl_one {a : E} {σ : L2.St} {H : Hp} {Q : List V → Hp → Prop} (h : tL G Z XR W (evl C (.cons a .nil)) σ H Q) : tE G Z XR W (ev C a) σ H fun v H1 => Q [v] H1 := by
  obtain ⟨e, rel, q⟩ := h
  refine ⟨e, rel, ?_⟩
  unfold evl at q
  cases hv : ev C a e with
  | st => rw [hv] at q; exact q
  | ex z e1 => rw [hv] at q; exact q
  | ok r e1 =>
    rw [hv] at q
    intro v H1 rel1 st1 rr1
    have q' : FinL G Z XR W e σ H (.ok [r] e1) Q := by
      unfold evl at q
      exact q
    refine q' [v] H1 rel1 st1 ?_
    cases r with
    | v d => exact ⟨Z, fun b z => .inl z, rr1, rel1, fun b z => z⟩
    | s i => exact ⟨Z, fun b z => .inl z, rr1, rel1, fun b z => z⟩
    | f d =>
      obtain ⟨a, h1, h2, h3, h4, h5⟩ := rr1
      exact ⟨plus Z a, fun b z => z.imp id fun k => by rw [k]; exact h2, a, h1, h2, h3, .inr rfl, h4, h5, fun b z => z⟩
theorem pi_imp {tg iter : Expr} {wi wi' : TI} (h : PI X tg iter wi) (i : ∀ σ H R, wi' σ H R → wi σ H R) : PI X tg iter wi' := ⟨fun pins s σ H R I q => h.run pins s σ H R I (i σ H R q)⟩
theorem pi_one {tg y iter : Expr} {k : It} {a : E} (hp : ∀ te, PE X y te → PI X tg iter (fun σ H R => te σ H fun v H1 => rIt G k [v] H1 R)) (ha : PE X y (tE G Z XR W (ev C a))) : PI X tg iter (fun σ H R => tL G Z XR W (evl C (.cons a .nil)) σ H fun vs H1 => rIt G k vs H1 R) :=
  pi_imp (hp _ ha) fun σ H R q => tl_one q
end
end Lt
end
section
set_option maxRecDepth 100000
namespace Lt
open PySem PySem.Spec PyProof.Rows L2
/-! ### count, index -/
def kindOf : D → Bool
  | .tup _ => true
  | _ => false
section
variable (G : Nat → Option Addr)
def rMtK (f : D → D → Option R) (k : Bool) : V → List V → Hp → VK → Prop := fun x vs H Q => ∃ y Z d d' l, vs = [y] ∧ Rt G Z H d x ∧ Rt G Z H d' y ∧ kindOf d = k ∧ items d = some l ∧ ∃ r, f d d' = some r ∧ ∀ v H', New H H' → RN G Z H H' r v → Q v H'
end
section
variable {X : Cx} {G : Nat → Option Addr} {Z : Set1} {XR : XRel} {W : WX} {C : Calls} {pos : Pos} {e1 : Env} {σ : L2.St} {H H1 : Hp}
def kTy (k : Bool) (H : Hp) (p : Addr) : Prop := match k with
  | true => ∃ xs, Tu H p xs
  | false => ∃ xs, Rd H p (.lst xs)
def tMtK (f : D → D → Option R) (to : TE) (t : TA) : TE := fun σ H Q => to σ H fun u H1 => ∃ k p, u = .ref p ∧ kTy k H1 p ∧ t σ H1 fun vs H2 => rMtK G f k u vs H2 Q
theorem sE_mtK {x o y : Expr} {f : D → D → Option R} {a b : E} (hc : ∀ to t, PE X o to → PA X [y] t → PE X x (tMtK (G := G) f to t))
    (hs : starEach [y] X.env = (false, eval y X.env) :: starEach [] X.env) (ha : PE X o (tE G Z XR W (ev C a))) (hb : PE X y (tE G Z XR W (ev C b))) {k : E}
    (hk : ∀ e, ev C k e = (ev C a e).bind fun r e1 => match look e1 r with
      | some c => if (items c).isSome then (ev C b e1).bind fun q e2 => (match look e2 r, look e2 q with
        | some x, some y => lift (f x y) e2
        | _, _ => .st) else .st
      | none => .st) (hf : ∀ d d' r, f d d' = some r → ∃ l, items d = some l) : PE X x (tE G Z XR W (ev C k)) := by
  refine pe_imp (hc _ _ ha (pa_cons hb pa_nil hs)) fun σ H Q ⟨e, rel, q⟩ => ?_
  rw [hk] at q
  refine ⟨e, rel, (Fin.bind q).imp fun u H1 ⟨r, e1, _, rel1, st1, rr1, h1⟩ => ?_⟩
  cases k1 : look e1 r with
  | none => rw [k1] at h1; exact h1.elim
  | some c =>
    rw [k1] at h1
    have h1' : Fin G Z XR W e σ H (if (items c).isSome then (ev C b e1).bind fun q e2 => (match look e2 r, look e2 q with
        | some x, some y => lift (f x y) e2
        | _, _ => .st) else .st) Q := h1
    by_cases hi : (items c).isSome = true
    · rw [if_pos hi] at h1'
      have rt := rr1.look rel1 k1
      have ty : ∃ p, u = .ref p ∧ kTy (kindOf c) H1 p := by
        cases c with
        | tup ds => obtain ⟨p, xs, e1, e2, _⟩ := rt.toTup; exact ⟨p, e1, xs, e2⟩
        | lst ds => obtain ⟨p, xs, e1, e2, _⟩ := rt.toLst; exact ⟨p, e1, xs, e2⟩
        | _ => cases hi
      obtain ⟨p, hu, ht⟩ := ty
      refine ⟨kindOf c, p, hu, ht, e1, rel1, (Fin.bind (h1'.from st1)).imp fun w H2 ⟨s, e2, _, rel2, st2, rr2, h2⟩ => ?_⟩
      have rr1' := rr1.later st2
      cases k2 : look e2 r with
      | none => rw [k2] at h2; exact h2.elim
      | some d1 =>
        have same : kindOf d1 = kindOf c := by
          cases r with
          | v d => cases k1; cases k2; rfl
          | f d => cases k1; cases k2; rfl
          | s i =>
            have box : ∀ {e : Env} {H : Hp} {d : D}, Rel G Z e σ H → look e (.s i) = some d → kindOf d = false := fun {e H d} rel h => by
              cases hs : slot e i with
              | mu o l d' =>
                have : some d' = some d := by rw [← h]; show _ = (match slot e i with | .mu _ _ d => some d | _ => none); rw [hs]
                cases this
                obtain ⟨b, _, hb⟩ := rel.box hs
                cases d with
                | lst _ => rfl
                | _ => exact hb.elim
              | _ =>
                have : none = some d := by rw [← h]; show _ = (match slot e i with | .mu _ _ d => some d | _ => none); rw [hs]
                cases this
            rw [box rel2 k2, box rel1 k1]
        cases k3 : look e2 s with
        | none => rw [k2, k3] at h2; exact h2.elim
        | some d2 =>
          rw [k2, k3] at h2
          obtain ⟨z, hz, q3⟩ := Fin.lift (h2.from st2) rel2
          obtain ⟨l, hl⟩ := hf _ _ _ hz
          exact ⟨w, _, d1, d2, l, rfl, rr1'.look rel2 k2, rr2.look rel2 k3, same, hl, z, hz, q3⟩
    · rw [if_neg hi] at h1'
      exact h1'.elim
theorem pe_mtK {o y : Expr} {f : D → D → Option R} {to : TE} {t : TA} {name : Str} {idL idT : String} {apos cpos : Pos} (sL : Slot "list" name idL) (tL' : typeOf (.builtin idL) = pure (.type "method_descriptor")) (mL : MtR X idL (rMtK G f false))
    (sT : Slot "tuple" name idT) (tT : typeOf (.builtin idT) = pure (.type "method_descriptor")) (mT : MtR X idT (rMtK G f true)) (ho : PE X o to) (ha : PA X [y] t)
    (hbase : attributeBase o name X.env (eval o X.env) = eval o X.env)
    (hfew : ((backTo cpos (starEach [y] X.env)).all (fun x => !x.1) && (backToKw cpos (keywordEach [] X.env)).all (fun x => x.1.isSome)
      && decide (([y] : List Expr).length + ([] : List Keyword).length + (if ([] : List Keyword).isEmpty then 0 else 1) < 30)) = true)
    (hline : (apos.endLine == cpos.line) = true) (hs : starEach [y] X.env = (false, eval y X.env) :: starEach [] X.env) :
    PE X (.Call (.Attribute o name apos) [y] [] cpos) (tMtK (G := G) f to t) := by
  refine ⟨fun pins s σ H Q I h => ?_⟩
  refine wpAny_Call_method_late hbase hfew hline rfl (thn (ho.run pins s σ H _ I h) fun v s1 ⟨x, H1, I1, r1, k, p, e1, ty, q1⟩ => ?_)
  subst e1
  cases r1
  have hA := ha.run cpos pins s1 σ H1 _ I1 q1
  rw [hs] at hA
  cases k with
  | true =>
    obtain ⟨xs, o, h1, h2⟩ := ty
    obtain ⟨h3, _, its, rv, o', h4, h5, h6⟩ := I1.hok p _ h1
    rw [h3] at h4
    cases h4
    refine ⟨"tuple", idT, PySem.F.plainAttrs_tuple, sT, tT, ⟨o, h3, h5⟩, fun a e => by cases e; exact ⟨o, h3, h2⟩, ?_⟩
    rw [hs]
    refine Calls.callWith_builtin rfl (Calls.evalArgs_plain ?_)
    exact thn hA fun us s2 ⟨vs, H2, I2, r2, q2⟩ => mT pins s2 σ H2 (.ref p) vs _ us Q I2 rfl r2 q2
  | false =>
    obtain ⟨xs, h1⟩ := ty
    obtain ⟨_, its, n, rv, _, h3⟩ := rdL I1 h1
    refine ⟨"list", idL, PySem.F.plainAttrs_list, sL, tL', ⟨_, h3, rfl⟩, fun a e => by cases e; exact ⟨_, h3, rfl⟩, ?_⟩
    rw [hs]
    refine Calls.callWith_builtin rfl (Calls.evalArgs_plain ?_)
    exact thn hA fun us s2 ⟨vs, H2, I2, r2, q2⟩ => mL pins s2 σ H2 (.ref p) vs _ us Q I2 rfl r2 q2
/-! the two rules -/
theorem sq_at {Z : Set1} {H : Hp} {s : Shared} {pins : List (Addr × Obj)} {d c : D} {l : List D} {v u : Value} {x y : V} {k : Bool} (I : Inv X pins σ H s) (hu : X.A.units + 65 < cLine) (h : Rt G Z H c x) (h' : Rt G Z H d y) (rx : RelV x v) (ry : RelV y u) (e : items c = some l) (hk : kindOf c = k) (p : (d.plain && l.all fun y => eqOk y d) = true) :
    ∃ (a : Addr) (its : List Value) (n : Nat) (dd : Option Addr) (sl : Array (Option Value)), v = .ref a ∧ s.heap.get? a = some { cls := .type (if k then "tuple" else "list"), dict := dd, data := .seq its.toArray n, slots := sl } ∧ its.length = l.length ∧ its.length ≤ sizeLine ∧
      (∀ z, z ∈ its.toArray → SeqAt.EqAt X.A.in1 s z u (PyData.eqv (SeqAt.readOf s.heap z) d.pd)) ∧ its.map (SeqAt.readOf s.heap) = D.pds l := by
  obtain ⟨q1, p1, ⟨bs, as, r2, r1⟩, b2, a2, dep⟩ := seq_reads I hu h' h ry rx e p
  cases c with
  | tup ds =>
    cases e
    cases hk
    obtain ⟨a, xs, rfl, ⟨ob, h1, _⟩, h2⟩ := h.toTup
    cases rx
    obtain ⟨h3, hz, its, rv, o, h4, h5, n, h6⟩ := I.hok a _ h1
    have ln := rv.length
    obtain ⟨oc, od, dt, sl⟩ := o
    simp only at h5 h6
    subst h5 h6
    rcases r2 with r2 | r2
    · cases r2 with
      | list g1 g2 g3 g4 => rw [h4] at g1; rw [← Option.some.inj g1] at g2; exact absurd (Value.type.inj g2) (by decide)
    · cases r2 with
      | tuple g1 g2 g3 g4 =>
        rw [h4] at g1
        cases g1
        cases g3
        exact ⟨a, its, n, od, sl, rfl, h4, by rw [← ln, h2.length], by rw [← ln]; exact hz, SeqAt.items_eqAt g4 r1 b2 a2 dep, by simpa using SeqAt.readsAll_map _ _ _ b2 g4⟩
  | lst ds =>
    cases e
    cases hk
    obtain ⟨a, xs, rfl, h1, h2⟩ := h.toLst
    cases rx
    obtain ⟨hz, its, n, rv, ln, h4⟩ := rdL I h1
    rcases r2 with r2 | r2
    · cases r2 with
      | list g1 g2 g3 g4 =>
        rw [h4] at g1
        cases g1
        cases g3
        exact ⟨a, its, n, none, #[], rfl, h4, by rw [← ln, h2.length], by rw [← ln]; exact hz, SeqAt.items_eqAt g4 r1 b2 a2 dep, by simpa using SeqAt.readsAll_map _ _ _ b2 g4⟩
    · cases r2 with
      | tuple g1 g2 g3 g4 => rw [h4] at g1; rw [← Option.some.inj g1] at g2; exact absurd (Value.type.inj g2) (by decide)
  | _ => cases e
theorem pds_count {x : D} (hx : x.plain = true) : ∀ {l : List D}, D.plains l = true → ((D.pds l).countP fun y => PyData.eqv y x.pd) = l.countP fun y => y.eqv x
  | [], _ => rfl
  | y :: r, p => by
    obtain ⟨p1, p2⟩ := Bool.and_eq_true_iff.mp p
    show ((D.pd y :: D.pds r).countP fun y => PyData.eqv y x.pd) = _
    rw [List.countP_cons, List.countP_cons, pd_eqv p1 hx, pds_count hx p2]
theorem pds_get : ∀ {l : List D} {j : Nat}, (D.pds l)[j]? = (l[j]?).map D.pd
  | [], _ => rfl
  | x :: r, 0 => rfl
  | x :: r, j + 1 => pds_get (l := r) (j := j)
theorem plains_get : ∀ {l : List D} {j : Nat} {x : D}, D.plains l = true → l[j]? = some x → x.plain = true
  | [], _, _, _, h => by cases h
  | y :: r, 0, x, p, h => by cases h; exact (Bool.and_eq_true_iff.mp p).1
  | y :: r, j + 1, x, p, h => plains_get (l := r) (Bool.and_eq_true_iff.mp p).2 h
theorem countD_at {a b : D} {r : R} (h : countD a b = some r) : ∃ l, items a = some l ∧ (b.plain && l.all fun y => eqOk y b) = true ∧ r = .v (.int (l.countP fun y => y.eqv b)) := by
  unfold countD at h
  cases hi : items a with
  | none => rw [hi] at h; cases h
  | some l =>
    rw [hi] at h
    have h' : (if (b.plain && l.all fun y => eqOk y b) = true then some (R.v (.int (l.countP fun y => y.eqv b))) else none) = some r := h
    by_cases ok : (b.plain && l.all fun y => eqOk y b) = true
    · rw [if_pos ok] at h'; exact ⟨l, rfl, ok, (Option.some.inj h').symm⟩
    · rw [if_neg ok] at h'; cases h'
theorem indexD_at {a b : D} {r : R} (h : indexD a b = some r) : ∃ l j, items a = some l ∧ (b.plain && l.all fun y => eqOk y b) = true ∧ (l.findIdx? fun y => y.eqv b) = some j ∧ r = .v (.int (j : Nat)) := by
  unfold indexD at h
  cases hi : items a with
  | none => rw [hi] at h; cases h
  | some l =>
    rw [hi] at h
    have h' : (if (b.plain && l.all fun y => eqOk y b) = true then (match l.findIdx? fun y => y.eqv b with
      | some j => some (R.v (.int j))
      | none => none) else none) = some r := h
    by_cases ok : (b.plain && l.all fun y => eqOk y b) = true
    · rw [if_pos ok] at h'
      cases hj : l.findIdx? fun y => y.eqv b with
      | none => rw [hj] at h'; cases h'
      | some j => rw [hj] at h'; exact ⟨l, j, rfl, ok, hj, (Option.some.inj h').symm⟩
    · rw [if_neg ok] at h'; cases h'
theorem mCount (hu : X.A.units + 65 < cLine) : MtR X "list.count" (rMtK G countD false) ∧ MtR X "tuple.count" (rMtK G countD true) := by
  have prep : ∀ {pins s σ H x vs v us Q k} (I : Inv X pins σ H s), RelV x v → Vals vs us → rMtK G countD k x vs H Q →
      ∃ (a : Addr) (u : Value) (its : List Value) (n : Nat) (dd : Option Addr) (sl : Array (Option Value)) (e : Value → Bool), v = .ref a ∧ us = [u] ∧ s.heap.get? a = some { cls := .type (if k then "tuple" else "list"), dict := dd, data := .seq its.toArray n, slots := sl } ∧ (∀ z, z ∈ its.toArray → SeqAt.EqAt X.A.in1 s z u (e z)) ∧
        ∀ t tk, EP X pins σ Q (.int (its.toArray.toList.countP e : Nat) t) { s with toks := tk } := by
    intro pins s σ H x vs v us Q k I rx rv ⟨y, Z, d, d', l, e1, h1, h2, hk, hl, r, hr, q⟩
    subst e1
    obtain ⟨u, rfl, ry⟩ := rv.one
    obtain ⟨l', e1, ok, rfl⟩ := countD_at hr
    rw [hl] at e1
    cases e1
    obtain ⟨a, its, n, dd, sl, ev, hg, hlen, _, heq, hmap⟩ := sq_at I hu h1 h2 rx ry hl hk ok
    refine ⟨a, u, its, n, dd, sl, _, ev, rfl, hg, heq, fun t tk => ⟨.int _, H, I.tok _, ⟨t, ?_⟩, q _ H (.refl _) (Rp.int _)⟩⟩
    obtain ⟨p1, p2⟩ := Bool.and_eq_true_iff.mp ok
    have hc : its.countP (fun z => PyData.eqv (SeqAt.readOf s.heap z) d'.pd) = l.countP fun y => y.eqv d' := by
      rw [← pds_count p1 (all_plain p2).1, ← hmap, List.countP_map]
      rfl
    show Value.int ((its.toArray.toList.countP _ : Nat) : Int) t = _
    rw [show its.toArray.toList = its by simp, hc]
  constructor
  · intro pins s σ H x vs v us Q I rx rv h
    obtain ⟨a, u, its, n, dd, sl, e, rfl, rfl, hg, heq, fin⟩ := prep I rx rv h
    exact call_meets PySem.F.slot_list_count ⟨_, hg, rfl⟩ PySem.F.entry_list_count (PySem.F.args_list_count_2 _ _) (SeqAt.list_countAt a its.toArray n dd sl u e) ⟨hg, heq, fin _ _⟩
  · intro pins s σ H x vs v us Q I rx rv h
    obtain ⟨a, u, its, n, dd, sl, e, rfl, rfl, hg, heq, fin⟩ := prep I rx rv h
    exact call_meets PySem.F.slot_tuple_count ⟨_, hg, rfl⟩ PySem.F.entry_tuple_count (PySem.F.args_tuple_count_2 _ _) (SeqAt.tuple_countAt a its.toArray n dd sl u e) ⟨hg, heq, fin _ _⟩
theorem mIndex (hu : X.A.units + 65 < cLine) : MtR X "list.index" (rMtK G indexD false) ∧ MtR X "tuple.index" (rMtK G indexD true) := by
  have prep : ∀ {pins s σ H x vs v us Q k} (I : Inv X pins σ H s), RelV x v → Vals vs us → rMtK G indexD k x vs H Q →
      ∃ (a : Addr) (u : Value) (its : List Value) (n : Nat) (dd : Option Addr) (sl : Array (Option Value)) (e : Value → Bool) (j : Nat) (hj : j < its.toArray.size), v = .ref a ∧ us = [u] ∧ s.heap.get? a = some { cls := .type (if k then "tuple" else "list"), dict := dd, data := .seq its.toArray n, slots := sl } ∧ (∀ z, z ∈ its.toArray → SeqAt.EqAt X.A.in1 s z u (e z)) ∧
        e its.toArray[j] = true ∧ (∀ m (hm : m < its.toArray.size), m < j → e its.toArray[m] = false) ∧ its.toArray.size ≤ sizeLine ∧ ∀ t tk, EP X pins σ Q (.int (j : Nat) t) { s with toks := tk } := by
    intro pins s σ H x vs v us Q k I rx rv ⟨y, Z, d, d', l, e1, h1, h2, hk, hl, r, hr, q⟩
    subst e1
    obtain ⟨u, rfl, ry⟩ := rv.one
    obtain ⟨l', j, e1, ok, hfi, rfl⟩ := indexD_at hr
    rw [hl] at e1
    cases e1
    obtain ⟨a, its, n, dd, sl, ev, hg, hlen, hsz, heq, hmap⟩ := sq_at I hu h1 h2 rx ry hl hk ok
    obtain ⟨p1, p2⟩ := Bool.and_eq_true_iff.mp ok
    obtain ⟨hj, hit, hno⟩ := List.findIdx?_eq_some_iff_getElem.mp hfi
    have val : ∀ m (hm : m < its.toArray.size) (hm' : m < l.length), PyData.eqv (SeqAt.readOf s.heap its.toArray[m]) d'.pd = (l[m]).eqv d' := fun m hm hm' => by
      have h3 : (its.map (SeqAt.readOf s.heap))[m]? = (D.pds l)[m]? := by rw [hmap]
      rw [pds_get, List.getElem?_eq_getElem hm', List.getElem?_map, List.getElem?_eq_getElem (by simpa using hm)] at h3
      have h4 : SeqAt.readOf s.heap its.toArray[m] = (l[m]).pd := by simpa using h3
      rw [h4, pd_eqv (plains_get (all_plain p2).1 (List.getElem?_eq_getElem hm')) p1]
    refine ⟨a, u, its, n, dd, sl, _, j, by rw [List.size_toArray, hlen]; exact hj, ev, rfl, hg, heq, ?_, fun m hm hmj => ?_, by rw [List.size_toArray]; exact hsz, fun t tk => ⟨.int _, H, I.tok _, ⟨t, rfl⟩, q _ H (.refl _) (Rp.int _)⟩⟩
    · rw [val j (by rw [List.size_toArray, hlen]; exact hj) hj]; exact hit
    · rw [val m hm (Nat.lt_trans hmj hj)]
      exact Bool.eq_false_iff.mpr (hno m hmj)
  constructor
  · intro pins s σ H x vs v us Q I rx rv h
    obtain ⟨a, u, its, n, dd, sl, e, j, hj, rfl, rfl, hg, heq, hit, hno, hsz, fin⟩ := prep I rx rv h
    exact call_meets PySem.F.slot_list_index ⟨_, hg, rfl⟩ PySem.F.entry_list_index (PySem.F.args_list_index_2 _ _) (SeqAt.list_indexAt a its.toArray n dd sl u e j hj (by rw [sizeLine_eq] at hsz; omega) hit hno) ⟨hg, heq, fin _ _⟩
  · intro pins s σ H x vs v us Q I rx rv h
    obtain ⟨a, u, its, n, dd, sl, e, j, hj, rfl, rfl, hg, heq, hit, hno, hsz, fin⟩ := prep I rx rv h
    exact call_meets PySem.F.slot_tuple_index ⟨_, hg, rfl⟩ PySem.F.entry_tuple_index (PySem.F.args_tuple_index_2 _ _) (TI.tuple_indexAt a its.toArray n dd sl u e j hj hit hno) ⟨hg, heq, fin _ _⟩
end
end Lt
end
section
set_option maxRecDepth 100000
namespace Lt
open PySem PySem.Spec PyProof.Rows L2
section
variable {X : Cx} {G : Nat → Option Addr} {Z : Set1} {XR : XRel} {W : WX} {C : Calls} {pos : Pos}
/-! ### methods of a list -/
theorem mPopA : MtR X "list.pop" rPopA := by
  intro pins s σ H x vs v us Q I rx rv ⟨l, xs, i, k, y, e1, e2, hH, hk, hy, q⟩
  obtain ⟨z, _⟩ := I.lstM hH
  obtain ⟨h1, h2, h3, h4⟩ := ixN_seq hk
  rw [sizeLine_eq] at z
  exact mt_popAt pins s σ H x vs v us Q I rx rv ⟨l, xs, i, k, y, e1, e2, hH, by omega, by omega, h1, hy, q⟩
theorem mExt : MtR X "list.extend" rExt := by
  intro pins s σ H x vs v us Q I rx rv ⟨l, b, xs, zs, e1, e2, hH, hB, hz, q⟩
  subst e1 e2
  cases rx
  obtain ⟨u, rfl, ru⟩ := rv.one
  cases ru
  obtain ⟨z, its, n, r, hl, e⟩ := I.lstM hH
  obtain ⟨z2, its2, n2, r2, hl2, e2⟩ := rdL I hB
  have hsz : its.toArray.size + its2.toArray.size ≤ sizeLine := by rw [List.size_toArray, List.size_toArray]; omega
  have hlong : ¬ (!its.toArray.isEmpty && Builtin.List.listTooLong (its.toArray.size + its2.toArray.size)) = true := by
    rw [notLongL hsz, Bool.and_false]
    exact Bool.false_ne_true
  refine call_meets F.slot_list_extend ⟨_, e, rfl⟩ F.entry_list_extend (F.args_list_extend_2 _ _) (AutoSeq1.list_extend_list_list_0 l its.toArray n b its2.toArray n2 hlong (by rw [List.size_toArray]; omega) (by omega)) ⟨e, e2, ?_⟩
  exact ⟨.non, _, I.lset (its' := its ++ its2) hH e (by simp) (r.append r2) (by rw [List.length_append]; omega), rfl, q⟩
/-! ### x op= e -/
theorem ipAdd : PIp X .Add (fun x y H Q => ∃ p q z, x = .int p ∧ y = .int q ∧ augI .add p q = some z ∧ Q (.int z) H) := by
  intro pins s σ H x y v u Q I r1 r2 ⟨p, q, z, e1, e2, e3, k⟩
  cases e3
  exact ip_add pins s σ H x y v u Q I r1 r2 ⟨p, q, e1, e2, k⟩
theorem ipSub : PIp X .Sub (fun x y H Q => ∃ p q z, x = .int p ∧ y = .int q ∧ augI .sub p q = some z ∧ Q (.int z) H) := by
  intro pins s σ H x y v u Q I r1 r2 ⟨p, q, z, e1, e2, e3, k⟩
  cases e3
  exact ip_sub pins s σ H x y v u Q I r1 r2 ⟨p, q, e1, e2, k⟩
theorem pGet : PGet X rGetI := by
  intro pins s σ H o i ov iv Q I ro ri ⟨p, xs, k, j, y, e1, e2, hp, hj, hy, q⟩
  subst e1 e2
  cases ro
  obtain ⟨t, rfl⟩ := ri
  obtain ⟨its, r, pl, hz⟩ := I.list (.inl (.inl hp))
  obtain ⟨h1, h2, h3, h4⟩ := ixN_seq hj
  obtain ⟨w, ew, rw'⟩ := r.get hy
  have hl := r.length
  have hn := line63
  have fin : EP X pins σ Q w s := ⟨.int y, H, I, rw', q⟩
  by_cases h0 : 0 ≤ k
  · have hk : k.toNat = j := by
      rw [seqIndex_of h0 h4] at h1
      exact Option.some.inj h1
    exact wpAny_getItem_list pl.isList h0 (by omega) (by rw [hk]; simpa using ew) fin
  · have hk : (k + (its.toArray.size : Int)).toNat = j := by
      rw [seqIndex_neg (by omega) h3] at h1
      rw [List.size_toArray, ← hl]
      exact Option.some.inj h1
    exact wpAny_getItem_list_neg pl.isList (by omega) (by rw [List.size_toArray] <;> omega) (by omega) (by rw [hk]; simpa using ew) fin
/-! ### statements as they stand in the text -/
theorem sS_parT {ts : List (Nat × Bool)} {l : E} {es' tgs : List Expr} {k k2 : Nat} {pt pt2 spos : Pos} {gs : TGs} (hc : X.calm = true) (ha : PA X es' (tL G Z XR W (evl C l))) (hg : PGs X tgs gs) (hn : (assignEach tgs X.env).length = ts.length) (hst : (assignEach tgs X.env).findIdx? (·.1) = none)
    (hgs : ∀ σ H vs (Q : L2.St → Hp → Prop), vs.length = ts.length → Q (sets σ ts vs) H → gs vs σ H Q) (hs : swapsWithSole [.Tuple tgs k pt] (.Tuple es' k2 pt2) spos.line X.env = pure false) (hw : swappedStores [.Tuple tgs k pt] (.Tuple es' k2 pt2) X.env = pure none) (hl : ts.length ≤ sizeLine) :
    PS X (.Assign [.Tuple tgs k pt] (.Tuple es' k2 pt2) spos) (tS G Z XR W (es C (.par ts l))) := by
  refine ps_imp (ps_asg (pe_tupF ha) (pg_tup hc hg hn hst) hs hw rfl) fun D σ H q => ?_
  obtain ⟨e, rel, q⟩ := par_imp q
  refine ⟨e, rel, q.imp fun vs H1 ⟨h1, h2⟩ => ⟨by rw [h1]; exact hl, fun p o hp ho => ⟨p, vs, rfl, .inl (.inr ⟨o, upd_same⟩), h1, hgs _ _ _ _ h1 (h2 _ (New.upd hp))⟩⟩⟩
end
end Lt
end
section
set_option maxRecDepth 100000
/-! several except clauses, with names or without -/
namespace Lt
open PySem PySem.Spec PyProof.Rows L2
/-- one clause: its class, the slot of its name, what its suite reads -/
structure Cla where
  c : Value
  i : Option Nat
  ts : Addr → Value → Option Addr → TS
def offE (i : Nat) (D : Ends) : Ends := { nx := fun σ' H' => D.nx (σ'.set i none) H', rt := D.rt, bk := fun σ' H' => D.bk (σ'.set i none) H', ct := fun σ' H' => D.ct (σ'.set i none) H' }
def Cla.go (k : Cla) (cls : Value) (d : Option Addr) (D : Ends) (σ : L2.St) (H : Hp) : Prop := ∀ a, H a = none → match k.i with
  | none => k.ts a cls d D σ H
  | some i => k.ts a cls d (offE i D) (σ.set i (some (.ref a))) H
def wClas (K : PySem.W.Frag) (Wout : WX) (D : Ends) : List Cla → WX
  | [] => Wout
  | k :: r => fun cls d σ H => ∃ b, PySem.W.exmOne K cls k.c = some b ∧ (b = true → k.go cls d D σ H) ∧ (b = false → wClas K Wout D r cls d σ H)
def NameAt (X : Cx) : Option Str → Option Nat → Prop
  | none, none => True
  | some n, some i => X.N[i]? = some n ∧ X.env.kindOf n = some .local
  | _, _ => False
inductive Clas (X : Cx) : List ExceptHandler → List Cla → Prop
  | nil : Clas X [] []
  | cons {x : Str} {n : Option Str} {k : Cla} {b₀ : Stmt} {suite : List Stmt} {np pos' : Pos} {hds : List ExceptHandler} {l : List Cla} (hc : Names X x k.c) (hn : NameAt X n k.i)
      (hsu : ∀ (a : Addr) (oe : Obj) (cls : Value) (d : Option Addr) (pn : List (Addr × Obj)), Zc cls d oe → (∃ vs, oe.data = .fields vs) → PSs (X.suite a ((a, oe) :: pn)) (b₀ :: suite) (k.ts a cls d)) (r : Clas X hds l) :
      Clas X (.ExceptHandler (some (.Name x np)) n (b₀ :: suite) pos' :: hds) (k :: l)
section
variable {X : Cx} {body : List Stmt} {h₀ : ExceptHandler} {hds : List ExceptHandler} {l : List Cla} {pos : Pos} {tb : WX → TS} {Wout : WX}
theorem ps_clas (hs : X.stack = X.env :: X.outer) (hf : X.env.frame = some X.env.locals) (hN : X.N.Nodup) (tk : Takes X Wout)
    (hb : ∀ (W : WX) (pn : List (Addr × Obj)) (xe : Value → Shared → Prop), Takes (X.tr pn xe) W → PassesOwn (model X.prog X.w) X.A X.env xe → PSs (X.tr pn xe) body (tb W))
    (hh : Clas X (h₀ :: hds) l) : PS X (.Try body (h₀ :: hds) [] [] pos) (fun D σ H => tb (wClas X.K Wout D l) D σ H) := by
  refine ⟨fun pins s σ H D I h => ?_⟩
  have ok := I.ok
  have hfr : X.A.frames = some (X.env :: X.outer) := by rw [ok.frames, hs]
  refine wpAny_Try_except ?_
  refine wpAny_mono ((hb (wClas X.K Wout D l) (X.pn ++ pins) (fun e s₁ => wpAny (model X.prog X.w) X.A (noteFrame e X.env) (fun _ s₂ => wpAny (model X.prog X.w) X.A (setFlight e none) (fun _ s₃ =>
    wpAny (model X.prog X.w) X.A (handleBy e X.env (h₀ :: hds)) (SP X pins D) X.xe s₃) X.xe s₂) X.xe s₁) (fun u s' xx => ?_) PassesOwn.looking).run [] s σ H D (I.toTry _) h) (fun f s1 hsp => ?_) (fun e s1 he => he)
  · obtain ⟨a, B, sI, pins', σ', H', cls, d, rfl, J', nb, up, sky, na, os, ag, w⟩ := xx
    have J : Inv X pins σ' H' sI := J'.ofTry ok
    have sky' : Sky B (X.env :: X.outer) a (Zc cls d) X.env.locals s'.heap := by rw [← hs]; exact sky
    show wpAny (model X.prog X.w) X.A (noteFrame (.ref a) X.env) _ _ _
    refine Sky.land Zc.steady hfr hf sky' fun h3 fl3 up3 => ?_
    have J3 : Inv X pins σ' H' { s' with heap := h3 } := J.landed nb fl3.1 (up.trans up3) os ag
    obtain ⟨oe3, vs3, he3, hz3, hd3⟩ := fl3.there
    have notFr : ∀ {h : Heap} {o : Obj} {vs : Array Value}, h.FunFrames B (X.env :: X.outer) → h.get? a = some o → o.data = .fields vs → a ∉ frs (X.env :: X.outer) := fun {h o vs} ff e dd hm => by
      obtain ⟨_, o', e', hnf⟩ := ff.mem hm
      rw [e] at e'; cases e'
      exact hnf _ dd
    have nfr := notFr fl3.2.2.1 he3 hd3
    have nL : a ≠ X.env.locals := fun z => nfr (List.mem_filterMap.mpr ⟨X.env, List.mem_cons_self, by rw [hf, z]⟩)
    have nF : a ∉ X.fs := fun hm => by
      obtain ⟨e, he, q⟩ := List.mem_filterMap.mp hm
      exact nfr (List.mem_filterMap.mpr ⟨e, List.mem_cons_of_mem _ he, q⟩)
    have S3 := J3.suite he3 hd3 na nL nF
    have go : ∀ {hds' : List ExceptHandler} {l' : List Cla}, Clas X hds' l' → wClas X.K Wout D l' cls d σ' H' →
        wpAny (model X.prog X.w) X.A (handleBy (.ref a) X.env hds') (SP X pins D) X.xe { s' with heap := h3 } := by
      intro hds' l' hk
      induction hk with
      | nil =>
        intro w
        refine wpAny_handleBy_nil ?_
        obtain ⟨k1, k2, k3, oe, vs, T, oT, ts', he, hz, hd, h1, hr⟩ := id fl3
        unfold PySem.passOn
        refine wpAny_bind (wpAny_field he hd h1 ?_)
        rw [if_neg (show ¬ ((Value.ref T == Value.none) = true) from by simp)]
        have fin : wpAny (model X.prog X.w) X.A (setFlight (.ref a) X.env.frame) (fun _ s4 => wpAny (model X.prog X.w) X.A (throw (.ref a) : Sem Flow) (SP X pins D) X.xe s4) X.xe { s' with heap := h3 } := by
          rw [hf]
          refine HandSPX.setFlight_upZ fl3 fun h4 hh4 up4 => wpAny_throw (tk _ _ ?_)
          exact ⟨a, B, sI, pins, σ', H', cls, d, rfl, J, nb, (up.trans up3).trans up4, .inr (.inr (by rw [hs]; exact hh4)), na, os, ag, w⟩
        first
          | exact wpAny_bind (wpAny_pure (wpAny_bind fin))
          | exact wpAny_bind fin
      | @cons x n k b₀ suite np pos' hds2 l2 hc hn hsu r ih =>
        intro w
        obtain ⟨b, hb1, hyes, hno⟩ := w
        refine wpAny_handleBy_cons (codeAny_handlers_test ?_) (by intro q; cases q)
        have LT : PySem.W.Looks (model X.prog X.w) h3 (typeOf (.ref a)) cls := fun A Q E s k q => wpAny_typeOf_ref (k _ _ he3) (by rw [hz3.1]; exact q)
        have LM := PySem.W.exm_one (M := model X.prog X.w) (J3.kIn) LT hb1
        have test : ∀ {Q : Value → Shared → Prop} {E : Value → Shared → Prop}, Q k.c { s' with heap := h3 } → wpAny (model X.prog X.w) (X.A.mark (some (.ref a))) (eval (.Name x np) X.env) Q E { s' with heap := h3 } := fun {Q E} q => by
          obtain ⟨hg, hdbg, hm | ⟨hm, hv, hnn⟩⟩ := hc
          · exact ld_glob (X := X.suite a ((a, oe3) :: (X.pn ++ pins))) S3 hg hm q hdbg
          · exact ld_blt (X := X.suite a ((a, oe3) :: (X.pn ++ pins))) S3 hg hm hv q hnn hdbg
        refine test (LM.here ?_)
        cases b with
        | true =>
          obtain ⟨c0, i0, ts0⟩ := k
          cases n with
          | none =>
            cases i0 with
            | some i => exact hn.elim
            | none =>
              refine codeAny_handlers_suite ?_
              refine HandSPX.lands_againZ fl3 fun h4 fl4 up4 => ?_
              have J4 : Inv X pins σ' H' { s' with heap := h4 } := J.landed nb fl4.1 ((up.trans up3).trans up4) os ag
              obtain ⟨oe4, vs4, he4, hz4, hd4⟩ := fl4.there
              have S4 := J4.suite he4 hd4 na nL nF
              refine wpAny_mono ((hsu a oe4 cls d (X.pn ++ pins) hz4 ⟨_, hd4⟩).run [] _ _ H' _ S4 (hyes rfl a na)) (fun f s6 hsp => ?_) (fun _ _ z => False.elim z)
              cases f with
              | next =>
                obtain ⟨σ6, H6, S6, q6⟩ := hsp
                exact ⟨_, _, S6.unsuite ok, q6⟩
              | brk =>
                obtain ⟨σ6, H6, S6, q6⟩ := hsp
                exact ⟨_, _, S6.unsuite ok, q6⟩
              | cont =>
                obtain ⟨σ6, H6, S6, q6⟩ := hsp
                exact ⟨_, _, S6.unsuite ok, q6⟩
              | ret u =>
                obtain ⟨v6, σ6, H6, S6, r6, q6⟩ := hsp
                exact ⟨_, _, _, S6.unsuite ok, r6, q6⟩
          | some n =>
            cases i0 with
            | none => exact hn.elim
            | some i =>
              obtain ⟨hi, hln⟩ := hn
              have hloc : Loc X.env.scope n := .inl hln
              refine codeAny_handlers_suite_as ?_
              refine HandSPX.lands_againZ fl3 fun h4 fl4 up4 => ?_
              have J4 : Inv X pins σ' H' { s' with heap := h4 } := J.landed nb fl4.1 ((up.trans up3).trans up4) os ag
              obtain ⟨oe4, vs4, he4, hz4, hd4⟩ := fl4.there
              have S4 := J4.suite he4 hd4 na nL nF
              refine store_ok (X := X.suite a ((a, oe4) :: (X.pn ++ pins))) (v := .ref a) S4 hN hi hloc rfl (fun s5 S5 => ?_) (.inr hln)
              refine wpAny_mono ((hsu a oe4 cls d (X.pn ++ pins) hz4 ⟨_, hd4⟩).run [] s5 _ H' _ S5 (hyes rfl a na)) (fun f s6 hsp => ?_) (fun _ _ z => False.elim z)
              have end_ : ∀ {σ6 : L2.St} {H6 : Hp} {Q : Shared → Prop}, Inv (X.suite a ((a, oe4) :: (X.pn ++ pins))) [] σ6 H6 s6 → (∀ s7, Inv X pins (σ6.set i none) H6 s7 → Q s7) →
                  wpAny (model X.prog X.w) X.A (do bindName X.env n .none; unbindBehindTheSuite X.env n pos') (fun _ s7 => Q s7) X.xe s6 := fun {σ6 H6 Q} S6 hq => gone_ok (S6.unsuite ok) hN hi hln hq
              cases f with
              | next =>
                obtain ⟨σ6, H6, S6, q6⟩ := hsp
                exact end_ S6 fun s7 J7 => ⟨_, _, J7, q6⟩
              | brk =>
                obtain ⟨σ6, H6, S6, q6⟩ := hsp
                exact end_ S6 fun s7 J7 => ⟨_, _, J7, q6⟩
              | cont =>
                obtain ⟨σ6, H6, S6, q6⟩ := hsp
                exact end_ S6 fun s7 J7 => ⟨_, _, J7, q6⟩
              | ret u =>
                obtain ⟨v6, σ6, H6, S6, r6, q6⟩ := hsp
                exact end_ S6 fun s7 J7 => ⟨_, _, _, J7, r6, q6⟩
        | false =>
          show wpAny _ X.A (handleBy (.ref a) X.env hds2) _ _ _
          exact ih (hno rfl)
    exact go hh w
  · cases f with
    | next =>
      obtain ⟨σ', H', J', q⟩ := hsp
      exact wpAny_execs_nil ⟨σ', H', J'.ofTry ok, q⟩
    | brk =>
      obtain ⟨σ', H', J', q⟩ := hsp
      exact ⟨σ', H', J'.ofTry ok, q⟩
    | cont =>
      obtain ⟨σ', H', J', q⟩ := hsp
      exact ⟨σ', H', J'.ofTry ok, q⟩
    | ret u =>
      obtain ⟨v, σ', H', J', r, q⟩ := hsp
      exact ⟨v, σ', H', J'.ofTry ok, r, q⟩
end
end Lt
end
section
set_option maxRecDepth 100000
set_option maxHeartbeats 2000000
/-! an own exception over any built-in one, whose __init__ says super().__init__(x) and sf.f = x -/
namespace Lt
open PySem PySem.Spec PyProof.Rows L2
/-- __init__'s two statements -/
structure LowBody (sf pn f : Str) (body : List Stmt) : Prop where
  ex : ∃ (p0 p1 p2 p3 p4 p5 p6 p7 p8 p9 : Pos), (p2.endLine == p4.line) = true ∧ body = [.Expr (.Call (.Attribute (.Call (.Name "super" p0) [] [] p1) "__init__" p2) [.Name pn p3] [] p4) p5, .Assign [.Attribute (.Name sf p6) f p7] (.Name pn p8) p9]
/-- what the written part says of the class at C, its __init__ at fI -/
structure LowC (P : Program) (K : PySem.W.Frag) (B newId initId : String) (bmB : List Value) (C fI : Addr) (sf pn f : Str) : Prop where
  FB : ExcBaseFacts B newId initId bmB
  KF : PySem.W.KxsFacts B initId
  SF : StoreFacts B bmB "object.__setattr__" "object"
  ini : PySem.W.excInitIn K C bmB newId = true
  over : PySem.W.excOver K C bmB = true
  hd : PySem.W.hasDictIn K C = true
  iC : PySem.W.findIn K (.ref C) "__init__" = some (some (.ref fI))
  tI : PySem.W.typeIn K (.ref fI) = some (.type "function")
  sa : PySem.W.findIn K (.ref C) "__setattr__" = some (some (.builtin "object.__setattr__"))
  tk : PySem.W.takerIn K C f = some none
  subB : PySem.W.subIn K (.ref C) (.type B) = some true
  mroC : PySem.W.mroIn K C (.ref C) = some true
  sup : PySem.W.ks_superIn K C C "__init__" = some (some (.builtin initId))
  any : PySem.W.nsIn K cStatics "thirdparty.any" = some none
  exC : PySem.W.subIn K (.ref C) (.type "BaseException") = some true
  tyC : PySem.W.typeIn K (.ref C) = some (.type "type")
  kC : PySem.W.keepIn K (.ref C) = true
  fn : ∃ oc od name qual scope kV doc pm an cda ct cc osl ccl cdd vs ccs file tf cl cld csl, ∃ (params : Arguments) (body : List Stmt) (ann1 ann2 : Option Expr) (q1 q2 : Pos) (tc1 tc2 : Option Str),
    K.lookup fI = some ⟨oc, od, .func (PySem.W.ksFn name qual params body scope .none kV doc pm an (.ref cda) ct cc), osl⟩ ∧ PySem.W.codeIn K (.ref cda) qual = true ∧
    K.lookup cda = some ⟨ccl, cdd, .fields vs, ccs⟩ ∧ vs[2]? = some (.str file tf) ∧ ((P.main.file : Str) == file) = true ∧ K.lookup cc = some ⟨cl, cld, .cell (some (.ref C)), csl⟩ ∧
    LowBody sf pn f body ∧ (params.posonlyargs ++ params.args).head?.map (·.arg) = some sf ∧
    (∀ (s : Shared) (u v : Value), BindsTo s (PySem.W.ksFn name qual params body scope .none kV doc pm an (.ref cda) ct cc) ⟨[u, v], []⟩ [(sf, u), (pn, v)]) ∧
    scope.names.lookup ("super" : Str) = some .globalImplicit ∧ scope.names.lookup ("__class__" : Str) = some .free ∧ scope.names.lookup sf = some .local ∧ scope.names.lookup pn = some .local ∧ scope.kind = .function ∧ scope.isCoroutine = false ∧ scope.isGenerator = false ∧ (∀ x ∈ scope.names, x.2 ≠ .cell)
  ne : sf ≠ pn
  dbs : (sf == ("__debug__" : Str)) = false
  dbp : (pn == ("__debug__" : Str)) = false
  top : (P.main.scope.names.lookup ("super" : Str)).isSome = false
section
open Builtin Builtin.ObjectAttr
variable {prog : Program} {w : World} {A : Around} {E : Value → Shared → Prop} {R : Result → Shared → Prop} {hp : Heap} {g : Array GenState} {d : Drawn} {t : Nat} {os : OsState} {K : PySem.W.Frag}
/-- sf.f = v on an exception that has no dict yet -/
theorem osa_low {B : String} {bmB : List Value} {name : Str} {tk : Tok} {v : Value} {x C t1 : Addr} (SF : StoreFacts B bmB "object.__setattr__" "object") (X : K.In hp) (hx : hp.get? x = some (PySem.HandSPX.excO C t1)) (over : PySem.W.excOver K C bmB = true) (ht : PySem.W.takerIn K C name = some none) (hh : PySem.W.hasDictIn K C = true)
    (hq : ∀ h' tk' dx, (∀ b o, b ≠ x → hp.get? b = some o → h'.get? b = some o) → hp.objs.size ≤ dx → dx ≠ x → h'.get? x = some { cls := .ref C, dict := some dx, data := .fields #[.ref t1, .none, .none, .none, .bool false, .none] } →
      h'.Ns1 dx (fun y => if y = name then some v else none) → R (.ok (.ret .none)) ⟨h', g, d, tk', os⟩) :
    codeAny (model prog w) A (.call (.builtin "object.__setattr__") ⟨[.ref x, .str name tk, v], []⟩) R ⟨hp, g, d, t, os⟩ := by
  have hxs : x ≠ hp.objs.size := Nat.ne_of_lt (Heap.lt_size hx)
  obtain ⟨cd, hc, hd'⟩ := PySem.W.any_some hh
  refine PySem.W.osa_openX (od := none) SF X ⟨hx, rfl, rfl, trivial⟩ over ht fun b => ?_
  have hcls : PySem.W.Looks (model prog w) hp (classData C) cd := PySem.W.looks_clsIn X hc
  obtain ⟨nm, bs, mro, ns, qn, hd, sn, sb, ab, col, del⟩ := cd
  dsimp only at hd'
  subst hd'
  dsimp only
  unfold storeInOwnDict ownDictForStores
  repeat (first | with_reducible refine PySem.HandSPX.store_in_new ?_ ?_ | with_reducible refine wpAny_loadPart_at hx ?_ | with_reducible refine hcls.at ?_ | wp_step)
  · exact ⟨_, #[], _, (Heap.get?_update_ne _ _ _ _ hxs.symm).trans (Heap.get?_push_at rfl rfl), rfl, fun e he => absurd he (by simp), fun _ => rfl⟩
  · intro h' tk' hn' hs
    have hx₁ : (hp.push { cls := .type "dict", data := .dict #[] }).get? x = some (PySem.HandSPX.excO C t1) := Heap.get?_push_of_some _ hx
    refine hq h' tk' hp.objs.size (fun b o hb ho => ?_) (Nat.le_refl _) hxs.symm ?_ hn'
    · exact (hs.2 b (Nat.ne_of_lt (Heap.lt_size ho))).trans ((Heap.get?_update_ne _ _ _ _ hb).trans (Heap.get?_push_of_some _ ho))
    · exact (hs.2 x hxs).trans (Heap.get?_update_self _ hx₁ rfl)
end

section
variable {prog : Program} {w : World} {A : Around} {R : Result → Shared → Prop} {h : Heap} {g : Array GenState} {d : Drawn} {t : Nat} {os : OsState} {K : PySem.W.Frag} {mg mb : Str → Option Value} {B newId initId : String} {bmB : List Value} {C fI : Addr} {sf pn f : Str}
/-- __init__, called with the new exception at e -/
theorem low_init (T : LowC prog K B newId initId bmB C fI sf pn f) (X : K.In h) (G : h.Ns mainGlobals mg) (BL : h.Ns builtinsNs mb) (sup : mg "super" = none) (bsup : mb "super" = some (.type "super")) (lim : h.NoLimit) (room : A.depth < recursionLimit) {e t0 : Addr} {u : Value}
    (he : h.get? e = some (PySem.HandSPX.excO C t0)) (hKe : K.lookup e = none)
    (hq : ∀ h' t1 dx tk', (∀ b o, b ≠ e → h.get? b = some o → h'.get? b = some o) → h.get? dx = none → dx ≠ e → h'.get? e = some { cls := .ref C, dict := some dx, data := .fields #[.ref t1, .none, .none, .none, .bool false, .none] } →
      h'.Ns1 dx (fun y => if y = f then some u else none) → R (.ok (.ret .none)) ⟨h', g, d, tk', os⟩) :
    codeAny (model prog w) A (.call (.ref fI) ⟨[.ref e, u], []⟩) R ⟨h, g, d, t, os⟩ := by
  obtain ⟨oc, od, name, qual, scope, kV, doc, pm, an, cda, ct, cc, osl, ccl, cdd, vs, ccs, file, tf, cl, cld, csl, params, body, _, _, _, _, _, _, lk, hcd, lcd, hvs, hfile, lcc, hbody, hhead, hbind, s1, s2, s3, s4, s5, s6, s7, s8⟩ := T.fn
  obtain ⟨p0, p1, p2, p3, p4, p5, p6, p7, p8, p9, hline, rfl⟩ := hbody.ex
  have hsi : e ≠ h.objs.size := Nat.ne_of_lt (Heap.lt_size he)
  have hpar : ∃ ar : Arg, (params.posonlyargs ++ params.args).head? = some ar ∧ ar.arg = sf := by
    cases q : (params.posonlyargs ++ params.args).head? with
    | none => rw [q] at hhead; cases hhead
    | some ar => rw [q] at hhead; exact ⟨ar, rfl, Option.some.inj hhead⟩
  obtain ⟨ar, har, hself⟩ := hpar
  have hbs := hbind ⟨h, g, d, t, os⟩ (.ref e) u
  refine ks_codeAny_call_defAt (fd := PySem.W.ksFn name qual params _ scope .none kV doc pm an (.ref cda) ct cc) (binds := [(sf, .ref e), (pn, u)]) room (X _ _ lk) rfl lim (PySem.W.codeRec_of X hcd) rfl hbs s8
    (fun x hx => by
      rcases List.mem_cons.mp hx with rfl | hx
      · exact s3
      · rcases List.mem_cons.mp hx with rfl | hx
        · exact s4
        · cases hx) (fun h1 hns hk1 => ?_) s6 s7 s5
  have vself : ([(sf, Value.ref e), (pn, u)] : List (Str × Value)).reverse.lookup sf = some (.ref e) := by
    show (match sf == pn with | true => some u | false => ([(sf, Value.ref e)] : List (Str × Value)).lookup sf) = _
    rw [beq_false_of_ne T.ne]
    simp
  have vpn : ([(sf, Value.ref e), (pn, u)] : List (Str × Value)).reverse.lookup pn = some u := by simp
  have X1 : K.In h1 := fun (a : Addr) (o : Obj) z => hk1 _ _ (X a o z)
  have he1 := hk1 _ _ he
  show _root_.PySem.wpAt (model prog w) (A.deeper (PySem.W.ksEnv qual scope h.objs.size fI (.ref cda) cc)) (.func _ (PySem.W.ksEnv qual scope h.objs.size fI (.ref cda) cc)) _ _ _ _
  have hcall : ∀ env : PySem.Env, eval (.Call (.Attribute (.Call (.Name "super" p0) [] [] p1) "__init__" p2) [.Name pn p3] [] p4) env = (do
      let ov ← attributeBase (.Call (.Name "super" p0) [] [] p1) "__init__" env (eval (.Call (.Name "super" p0) [] [] p1) env)
      standAt p2.atName
      let (f, first) ← holding [ov] (getMethod ov "__init__" (do return (← importBound (.Call (.Name "super" p0) [] [] p1) env).getD true))
      callWith p4 f first (backTo p4 (starEach [.Name pn p3] env)) []) := fun env => by
    rw [arm_eval_Call]
    have hpos : methodCallPos true (.Call (.Name "super" p0) [] [] p1) env p2 p4 = pure p4 := by unfold methodCallPos; simp [hline]
    show (do
      let ov ← attributeBase (.Call (.Name "super" p0) [] [] p1) "__init__" env (eval (.Call (.Name "super" p0) [] [] p1) env)
      standAt p2.atName
      let (f, first) ← holding [ov] (calleeOf true (.Call (.Name "super" p0) [] [] p1) env ov "__init__")
      let callPos ← methodCallPos true (.Call (.Name "super" p0) [] [] p1) env p2 p4
      callWith callPos f first (backTo p4 (starEach [.Name pn p3] env)) []) = _
    rw [hpos]
    rfl
  refine ks_wpAt_execs_cons (ks_wpAt_Expr_any (ks_wpAt_MethodCall ?_ (hcall _)) (by show (scope.kind == .module && _) = false; rw [s5]; rfl))
  refine ks_wpAt_super_base (env := PySem.W.ksEnv qual scope h.objs.size fI (.ref cda) cc) s1 s2 (by decide) rfl (X1 _ _ lk) rfl har rfl (X1 _ _ lcd) rfl hvs hfile T.top ?_
  have G1 : h1.Ns mainGlobals mg := G.keeps hk1
  have BL1 : h1.Ns builtinsNs mb := BL.keeps hk1
  refine PySem.W.ks_loadName_global s5 s1 (Calls.loadGlobal_builtin (env := PySem.W.ksEnv qual scope h.objs.size fI (.ref cda) cc) G1 sup BL1 bsup ⟨rfl, ?_⟩)
  refine wpAny_loadName_free s5 s2 rfl ⟨_, X1 _ _ lcc, rfl⟩ ?_
  rw [hself]
  refine wpAny_loadName_local s5 s3 hns vself ?_
  obtain ⟨nm, N', qn, bs, bm, hdct, sn, sub, ab, col, dd, k0, k1, k2, k3, k5, hC, hT⟩ := PySem.W.excInit_of X1 T.ini
  refine ks_wpAny_isType_cls hC rfl ⟨rfl, ?_⟩
  refine ks_wpAny_call_super hC rfl he1 rfl (fun c z => by cases z) (PySem.W.looks_mroIn X1 T.mroC) (fun h2 hso kk2 => ?_)
  have X2 : K.In h2 := fun (a : Addr) (o : Obj) z => kk2 _ _ (X1 a o z)
  have he2 := kk2 _ _ he1
  have I2 : PySem.W.InstAt h2 e (PySem.HandSPX.excO C t0) C none := ⟨he2, rfl, rfl, trivial⟩
  obtain ⟨cdC, hclC, hsup⟩ : ∃ cdC, PySem.W.clsIn K C = some cdC ∧ PySem.W.alongIn K "__init__" ((cdC.mro.dropWhile (· != .ref C)).drop 1) = some (some (.builtin initId)) := by
    have z := T.sup
    unfold PySem.W.ks_superIn at z
    cases q : PySem.W.clsIn K C with
    | none => rw [q] at z; cases z
    | some cd => rw [q] at z; exact ⟨cd, rfl, z⟩
  have hI2 : PySem.W.Looks (model prog w) h2 (isInstance (.ref e) (.type B)) true := I2.type.andThen (PySem.W.looks_subIn X2 T.subB)
  refine PySem.W.kxs_getMethod T.KF hso (PySem.W.looks_opaque X2 T.any) (l₀ := cdC.mro) (fun A Q E s k q => wpAny_bind ((PySem.W.looks_clsIn X2 hclC) A _ E s k (wpAny_pure q))) rfl X2 hsup hI2 (PySem.W.ks_ne X2 I2 hclC) (by decide) ?_
  have kk3 : ∀ b o, h2.get? b = some o → (h2.push (PySem.W.kxs_mw initId e)).get? b = some o := fun b o z => Heap.get?_push_of_some _ z
  have hu3 : (h2.push (PySem.W.kxs_mw initId e)).get? h2.objs.size = some (PySem.W.kxs_mw initId e) := Heap.get?_push_at rfl rfl
  have X3 : K.In (h2.push (PySem.W.kxs_mw initId e)) := fun (a : Addr) (o : Obj) z => kk3 _ _ (X2 a o z)
  have he3 := kk3 _ _ he2
  have ns3 := (hns.keeps kk2).keeps kk3
  show wpAny _ _ (callWith p4 (.ref h2.objs.size) [] _ []) _ _ _
  refine PySem.W.kxs_callWith (i := initId) (x := e) rfl ?_
  refine Calls.evalArgs_plain ?_
  refine Calls.spliced_cons (wpAny_Name (wpAny_loadName_local s5 s4 ns3 vpn ?_) T.dbp)
  refine Calls.spliced_nil ⟨hu3, ?_⟩
  obtain ⟨nm, N', qn, bs, bm, hdct, sn, sub, ab, col, dd, k0, k1, k2, k3, k5, hC3, hT⟩ := PySem.W.excInit_of X3 T.ini
  refine wpAny_call (codeAny_of_tree ?_)
  show wpAny _ _ (callAny (.ref h2.objs.size) ⟨[u], []⟩) _ _ _
  simp only [callAny]
  refine wpAny_bind (wpAny_load hu3 ?_)
  simp only [PySem.W.kxs_mw, show (Value.type "method-wrapper" == Value.type "method" || Value.type "method-wrapper" == Value.type "builtin_function_or_method" || Value.type "method-wrapper" == Value.type "method-wrapper") = true by decide, if_true]
  refine PySem.W.KFB.if_so (by decide) ?_
  refine wpAny_bind (PySem.W.check_bound_init T.FB.toExcCallFacts hC3 he3 rfl ?_)
  refine wpAny_bind (wpAny_pure (wpAny_pure ?_))
  refine ⟨plainId_quiet T.FB.init.plain _, codeAny_builtin T.FB.initEntry ?_⟩
  refine PySem.W.exc_init_tree (cls := .ref C) (t0 := t0) (dv := none) (c2 := .none) (c3 := .none) (b4 := .bool false) he3 (by show 1 ≤ sizeLine; rw [sizeLine_eq]; omega) (fun h4 kk4 he4 ht4 => ?_)
  have ke4 : ∀ b o, b ≠ e → h.get? b = some o → h4.get? b = some o := fun b o hb z => kk4 b o hb (kk3 _ _ (kk2 _ _ (hk1 _ _ z)))
  have eC : e ≠ C := PySem.W.ks_ne X2 I2 hclC
  have ns4 : h4.Ns h.objs.size (fun x => ([(sf, Value.ref e), (pn, u)] : List (Str × Value)).reverse.lookup x) := by
    obtain ⟨o, es, ep, q1, q2⟩ := ns3
    exact ⟨o, es, ep, kk4 _ _ hsi.symm q1, q2⟩
  have X4 : K.In h4 := fun (a : Addr) (o : Obj) z => ke4 a o (fun y => by rw [y, hKe] at z; cases z) (X a o z)
  have he4' : h4.get? e = some (PySem.HandSPX.excO C (h2.push (PySem.W.kxs_mw initId e)).objs.size) := he4
  refine ks_wpAt_execs_cons (ks_wpAt_Assign_Attr (wpAt_of_wpAny (wpAny_Name (wpAny_loadName_local s5 s4 ns4 vpn (wpAny_Name (wpAny_loadName_local s5 s3 ns4 vself ?_) T.dbs)) T.dbp)))
  refine PySem.W.set_plain X4 (ox := PySem.HandSPX.excO C (h2.push (PySem.W.kxs_mw initId e)).objs.size) (od := none) ⟨he4', rfl, rfl, trivial⟩ T.sa ?_
  refine osa_low T.SF X4 he4' T.over T.tk T.hd (fun h5 tk5 dx kk5 hge hne he5 hns5 => ?_)
  refine wpAt_of_wpAny (wpAny_execs_nil ?_)
  refine hq h5 _ dx tk5 (fun b o hb z => kk5 b o hb (ke4 b o hb z)) ?_ hne he5 hns5
  cases q : h.get? dx with
  | none => rfl
  | some o => exact absurd (Heap.lt_size (ke4 dx o hne q)) (Nat.not_lt.mpr hge)
end

section
variable {X : Cx} {B newId initId : String} {bmB : List Value} {C fI : Addr} {sf pn f x : Str} {e : Expr} {te : TE} {p pos : Pos}
theorem pmk_low (T : LowC X.prog X.K B newId initId bmB C fI sf pn f) (room : X.A.depth + 5 < recursionLimit) (sup : X.mg "super" = none) (hg : Gl X x) (hm : X.mg x = some (.ref C)) (he : PE X e te)
    (hs : starEach [e] X.env = (false, eval e X.env) :: starEach [] X.env := by rfl) (hdb : (x == ("__debug__" : Str)) = false := by decide) :
    PMk X (.Call (.Name x p) [e] [] pos) (fun σ H Q => te σ H fun v H1 => ∀ d, H1 d = none → Q (.ref C) (some d) (upd H1 d (.xd [(f, v)]))) := by
  intro pins s σ H Q I h
  refine wpAny_Call_Name_kw (ld_glob I hg hm ?_ hdb)
  refine PySem.W.callWith_K (h₀ := X.base) I.ok.mod.kin T.kC ?_ hs (by rfl)
  rw [hs]
  show wpAny _ _ (spliced ((false, eval e X.env) :: backTo pos (starEach [] X.env))) _ _ s
  refine Calls.spliced_cons (thn (he.run pins s σ H _ I h) fun u s1 ⟨v, H1, I1, r1, q1⟩ => ?_)
  refine Calls.spliced_nil ⟨I1.kIn, ?_⟩
  show wpAny _ _ (call (.ref C) [u]) _ _ _
  obtain ⟨hp, g, dr, tk, os⟩ := s1
  obtain ⟨nm, N', qn, bs, bm, hdct, sn, sub, ab, col, dd, k0, k1, k2, k3, k5, hC, hT⟩ := PySem.W.excInit_of I1.kIn T.ini
  have kk : ∀ b o, hp.get? b = some o → ((hp.push (PySem.W.kdv_tup [u])).push (PySem.HandSPX.excO C hp.objs.size)).get? b = some o := fun b o z => Heap.get?_push_of_some _ (Heap.get?_push_of_some _ z)
  have hget : ((hp.push (PySem.W.kdv_tup [u])).push (PySem.HandSPX.excO C hp.objs.size)).get? (hp.objs.size + 1) = some (PySem.HandSPX.excO C hp.objs.size) := by heap_get
  have fresh : hp.get? (hp.objs.size + 1) = none := by
    cases q : hp.get? (hp.objs.size + 1) with
    | none => rfl
    | some o => exact absurd (Heap.lt_size q) (Nat.not_lt.mpr (Nat.le_succ _))
  have hKe : X.K.lookup (hp.objs.size + 1) = none := by
    cases q : X.K.lookup (hp.objs.size + 1) with
    | none => rfl
    | some o =>
      have z : hp.get? (hp.objs.size + 1) = some o := I1.kIn _ _ q
      rw [fresh] at z
      cases z
  obtain ⟨mb, hb1, hb2⟩ := I1.mod.blt
  have X2 : X.K.In ((hp.push (PySem.W.kdv_tup [u])).push (PySem.HandSPX.excO C hp.objs.size)) := fun (a : Addr) (o : Obj) z => kk _ _ (I1.kIn a o z)
  refine wpAny_call (PySem.HandSPX.call_own T.FB hT hC (PySem.W.looks_findIn I1.kIn T.iC) (fun sf => PySem.W.bind_fn I1.kIn sf T.tI) (by show 1 ≤ sizeLine; rw [sizeLine_eq]; omega)
    (low_init (mg := X.mg) (mb := mb) T X2 ((I1.mod.glob.keeps I1.bk).keeps kk) ((hb1.keeps I1.bk).keeps kk) sup ((hb2 _ (by decide)).trans (by decide +kernel)) ((I1.mod.nolimit.keeps I1.bk).keeps kk) (by rw [make_depth]; exact Nat.lt_of_le_of_lt (Nat.add_le_add_left (by decide : 1 ≤ 5) _) room) hget hKe
      fun h' t1 dx tk' k5 hdx hne he5 hns5 => ⟨rfl, ?_⟩))
  have hdx0 : hp.get? dx = none := by
    cases q : hp.get? dx with
    | none => rfl
    | some o => rw [kk _ _ q] at hdx; cases hdx
  have hd1 : H1 dx = none := I1.hok.gone hdx0
  obtain ⟨Gr, g1, g2⟩ := restrict h' fun b => decide (b ≠ hp.objs.size + 1)
  have gk : ∀ b, b ≠ hp.objs.size + 1 → Gr.get? b = h'.get? b := fun b hb => g1 b (decide_eq_true hb)
  have ge : Gr.get? (hp.objs.size + 1) = none := g2 _ (by simp)
  have kG : ∀ b u, hp.get? b = some u → Gr.get? b = some u := fun b o z => by
    have hb : b ≠ hp.objs.size + 1 := fun y => by rw [y, fresh] at z; cases z
    rw [gk b hb]
    exact k5 b o hb (kk _ _ z)
  have J : Inv X pins σ (upd H1 dx (.xd [(f, v)])) ⟨Gr, g, dr, tk', os⟩ := I1.laidN (t' := tk') (a := dx) (o := .xd [(f, v)]) (h' := Gr) kG hdx0 hd1
    ⟨_, hns5.at fun o y => (gk dx hne).trans y, relO_put (fs := []) r1 fun _ => True.intro⟩
  refine ⟨hp.objs.size + 1, _, _, ⟨Gr, g, dr, tk', os⟩, _, .ref C, some dx, rfl, J, fun b o z => ?_, ge, he5, ⟨rfl, rfl⟩, rfl, rfl, ?_, rfl, I1.bare, raises_own T.exC T.tyC, q1 dx hd1⟩
  · by_cases hb : b = hp.objs.size + 1
    · rw [hb, ge] at z; cases z
    · exact (gk b hb).symm.trans z
  · rw [upd_ne (Ne.symm hne)]
    exact I1.hok.gone fresh
end
end Lt
end
section
set_option maxRecDepth 100000
set_option maxHeartbeats 2000000
namespace Lt
open PySem PySem.Spec PyProof.Rows L2
/-! ### the program's own exception classes -/
/-- name; over ValueError (else LookupError); the field that its __init__ stores -/
structure Cl where
  name : Str
  val : Bool
  fld : Option Str
/-- C() -/
theorem pmk_own0 {X : Cx} {C : Addr} {bmB : List Value} {B newId initId : String} {x : Str} {p pos : Pos} (F : ExcBaseFacts B newId initId bmB) (q : PySem.W.excIn X.K C bmB newId = true) (gC : X.mg x = some (.ref C)) (kC : PySem.W.keepIn X.K (.ref C) = true) (r : Raises X (.ref C)) (hg : Gl X x)
    (hdb : (x == ("__debug__" : Str)) = false := by decide) : PMk X (.Call (.Name x p) [] [] pos) (fun _ H Q => Q (.ref C) none H) := by
  intro pins s σ H Q I h
  refine wpAny_Call_Name_kw (ld_glob I hg gC ?_ hdb)
  refine PySem.W.callWith_K0 I.kIn kC ?_
  show wpAny _ _ (call (.ref C) []) _ _ _
  obtain ⟨bm, N, nm, qn, bs, hdct, sn, sub, ab, col, dd, k0, k1, k2, k3, k5, mN, hC, hN, hni, T⟩ := exc_obj I.kIn q
  refine wpAny_call_exc_subT F T hC hN hni (fun h' e hm => ?_) (Nat.zero_le _)
  exact mk_of I hm r h (I.hok.gone hm.new)
/-- what is asked of a class so that isinstance sees its exceptions rightly -/
structure IsC (K : PySem.W.Frag) (C : Addr) : Prop where
  cl : (PySem.W.clsIn K C).isSome = true
  ga : PySem.W.findIn K (.ref C) "__getattribute__" = some (some (.builtin "BaseException.__getattribute__"))
  gt : PySem.W.findIn K (.ref C) "__getattr__" = some none
  sb : PySem.W.subIn K (.ref C) (.type "BaseException") = some true
  ca : PySem.W.findIn K (.ref C) "__class__" = some (some (.builtin "object.__class__"))
  dg : PySem.W.specialIn K (.builtin "object.__class__") "__get__" = some (some (.builtin "getset_descriptor.__get__"))
  tk : PySem.W.takesIn K (.builtin "object.__class__") = some true
  mo : PySem.W.mroIn K C (.type "object") = some true
/-- isinstance(n, a built-in class), n the exception that the suite holds: the exception's dict (if any) stands -/
def tIsX (i : Nat) (a : Addr) (cls : Value) (dx : Option Addr) (C : Addr) (b : Bool) : TE := fun σ H Q => σ[i]? = some (some (.ref a)) ∧ cls = .ref C ∧ (∀ d, dx = some d → ∃ fs, H d = some (.xd fs)) ∧ Q (.bl b) H
theorem pe_isX {X : Cx} {a C : Addr} {oe : Obj} {cls : Value} {dx : Option Addr} {pn : List (Addr × Obj)} {i : Nat} {n T : Str} {U : String} {b : Bool} {p p1 p2 pos : Pos} (S : IsC X.K C) (hz : Zc cls dx oe) (hf : ∃ vs, oe.data = .fields vs) (e : PySem.W.kitOne X.K (.ref C) (.type U) = some b)
    (hN : X.N[i]? = some n) (hv : Vis X.env.scope n) (hgi : Gl X "isinstance") (hmi : X.mg "isinstance" = none) (hgT : Gl X T) (hmT : X.mg T = none) (hT : bootBuiltins T = some (.type U)) (hTn : T ≠ "__name__") (hTd : (T == ("__debug__" : Str)) = false)
    (hdb : (n == ("__debug__" : Str)) = false) (hcd : (n == ("__classdict__" : Str)) = false) :
    PE (X.suite a ((a, oe) :: pn)) (.Call (.Name "isinstance" p) [.Name n p1, .Name T p2] [] pos) (tIsX i a cls dx C b) := by
  have ha : PA (X.suite a ((a, oe) :: pn)) [.Name n p1, .Name T p2] (tCons (tVar i) (tCons (tC (.ty U)) tNil)) :=
    pa_cons (pe_var (X := X.suite a ((a, oe) :: pn)) hN hv hdb hcd) (pa_cons (pe_bltn (X := X.suite a ((a, oe) :: pn)) hgT hmT hT rfl hTn hTd) pa_nil)
  have hc : CallR (X.suite a ((a, oe) :: pn)) (.builtin "isinstance") (fun xs H Q => xs = [.ref a, .ty U] ∧ cls = .ref C ∧ (∀ d, dx = some d → ∃ fs, H d = some (.xd fs)) ∧ Q (.bl b) H) := by
    intro pins s σ H xs us Q I r h
    obtain ⟨rfl, ec, hd, q⟩ := h
    subst ec
    cases r with
    | cons rx rr =>
      cases rr with
      | cons rt rr =>
        cases rr
        cases rx
        cases rt
        obtain ⟨hget, _⟩ := I.pin (a, oe) (List.mem_append.mpr (.inl List.mem_cons_self))
        obtain ⟨vs, hv⟩ := hf
        obtain ⟨oc, od, oda, osl⟩ := oe
        obtain ⟨h1, h2⟩ := hz
        dsimp only at h1 h2 hv
        subst h1 h2 hv
        have J : ∃ od2, PySem.W.InstAt s.heap a ⟨.ref C, od, .fields vs, osl⟩ C od2 := by
          cases od with
          | none => exact ⟨none, hget, rfl, rfl, trivial⟩
          | some d =>
            obtain ⟨fs, hfs⟩ := hd d rfl
            have hx : ObjOk X.prog X.w H s.heap d (.xd fs) := I.hok d _ hfs
            obtain ⟨mA, hns, _⟩ := hx
            obtain ⟨od2, ho, _⟩ := lookIn_ns hns
            exact ⟨some od2, hget, rfl, rfl, ho⟩
        obtain ⟨od2, J⟩ := J
        exact PySem.W.kia_one (PySem.W.kitx_exc S.cl S.ga S.gt S.sb S.ca S.dg S.tk S.mo) I.kIn J e (fun z => nomatch z) fun tk => ⟨.bl b, H, I.kept (t' := tk) fun _ _ z => z, rfl, q⟩
  have h := pe_callB (X := X.suite a ((a, oe) :: pn)) (p := p) (pos := pos) hc hgi hmi (by decide +kernel) ha
  exact pe_imp h fun σ H Q ⟨q1, q2, q3, q4⟩ => ⟨.ref a, q1, rfl, q2, q3, q4⟩
end Lt
end
section
set_option maxRecDepth 100000
namespace Lt
open PySem PySem.Spec PyProof.Rows L2
/-! ### calls: with keywords, of a value, without arguments -/
/-- the places of the parameters among the keywords -/
def placesOf (ps ks : List Str) : List Nat := ps.map fun n => ks.findIdx (· == n)
def kwOk (ps ks : List Str) : Bool := ps.length == ks.length && ps.all (fun n => ks.contains n) && ks.all (fun n => ps.contains n)
/-- a def with plain parameters -/
def PlainFd (fd : FuncData) (ps : List Str) : Prop := ∃ as : List Arg, fd.params = ⟨[], as, none, [], [], none, []⟩ ∧ as.map (·.arg) = ps ∧ fd.defaults = .none
theorem kw_lookup {ks : List Str} {us : List Value} (hl : us.length = ks.length) (n : Str) : (ks.zip us).lookup n = us[ks.findIdx (· == n)]? := by
  induction ks generalizing us with
  | nil => cases us with
    | nil => rfl
    | cons _ _ => cases hl
  | cons k ks ih =>
    cases us with
    | nil => cases hl
    | cons u us =>
      rw [List.zip_cons_cons, List.lookup_cons, List.findIdx_cons]
      by_cases e : n = k
      · subst e
        simp
      · rw [beq_false_of_ne e, beq_false_of_ne (Ne.symm e)]
        simpa using ih (Nat.succ.inj hl)
theorem kw_binds {ks : List Str} {us : List Value} (hl : us.length = ks.length) : ∀ {ps : List Str} {ws : List Value}, picks us (placesOf ps ks) = some ws → ps.filterMap (fun n => ((ks.zip us).lookup n).map (n, ·)) = ps.zip ws ∧ ws.length = ps.length
  | [], ws, h => by cases h; exact ⟨rfl, rfl⟩
  | p :: ps, ws, h => by
    have h' : (us[ks.findIdx (· == p)]?).bind (fun x => (picks us (placesOf ps ks)).map (x :: ·)) = some ws := h
    obtain ⟨x, h1, h2⟩ := Option.bind_eq_some_iff.mp h'
    obtain ⟨xs, h3, rfl⟩ := Option.map_eq_some_iff.mp h2
    obtain ⟨i1, i2⟩ := kw_binds hl h3
    refine ⟨?_, congrArg (· + 1) i2⟩
    rw [List.filterMap_cons, kw_lookup hl, h1]
    show (p, x) :: _ = _
    rw [i1]
    rfl
theorem kw_none : ∀ {ks : List Str} {us : List Value} {k : Str}, k ∉ ks → (ks.zip us).lookup k = none
  | [], _, _, _ => by simp
  | a :: ks, [], _, _ => by simp
  | a :: ks, u :: us, k, h => by
    rw [List.zip_cons_cons, List.lookup_cons, beq_false_of_ne fun (z : k = a) => h (z ▸ List.mem_cons_self ..)]
    exact kw_none fun z => h (List.mem_cons_of_mem _ z)
theorem look_app {k : Str} : ∀ {l : List (Str × Value)} {x : Str × Value}, l.lookup k = none → k ≠ x.1 → (l ++ [x]).lookup k = none
  | [], (a, b), _, h => by
    show (match k == a with | true => some b | false => none) = none
    rw [beq_false_of_ne h]
  | (a, b) :: l, x, h1, h2 => by
    have h3 : (match k == a with | true => some b | false => l.lookup k) = none := h1
    show (match k == a with | true => some b | false => (l ++ [x]).lookup k) = none
    cases q : (k == a) with
    | true => rw [q] at h3; cases h3
    | false => rw [q] at h3; exact look_app h3 h2
theorem kw_loop {α : Type} {body : Str × Value → List (Str × Value) × α → Sem (ForInStep (List (Str × Value) × α))} {e : α} : ∀ {l : List (Str × Value)} (acc : List (Str × Value)), (∀ x ∈ l, ∀ st : List (Str × Value) × α, st.1.lookup x.1 = none → body x st = pure (.yield (st.1 ++ [(x.1, x.2)], st.2))) → (l.map (·.1)).Nodup → (∀ x ∈ l, acc.lookup x.1 = none) →
    forIn l (⟨acc, e⟩ : List (Str × Value) × α) body = (pure ⟨acc ++ l, e⟩ : Sem (List (Str × Value) × α))
  | [], acc, _, _, _ => by rw [List.append_nil]; rfl
  | x :: l, acc, hb, nd, ha => by
    have pb : ∀ {α β : Type} (a : α) (f : α → Sem β), (pure a >>= f) = f a := fun _ _ => rfl
    have nd' := List.nodup_cons.mp nd
    rw [List.forIn_cons, hb x (List.mem_cons_self ..) ⟨acc, e⟩ (ha x (List.mem_cons_self ..)), pb]
    show forIn l (⟨acc ++ [(x.1, x.2)], e⟩ : List (Str × Value) × α) body = _
    rw [kw_loop (acc ++ [(x.1, x.2)]) (fun y hy => hb y (List.mem_cons_of_mem _ hy)) nd'.2 fun y hy => look_app (ha y (List.mem_cons_of_mem _ hy)) fun z => nd'.1 (by have z' : y.1 = x.1 := z; show x.1 ∈ _; rw [← z']; exact List.mem_map_of_mem (f := fun p : Str × Value => p.1) hy)]
    rw [List.append_assoc]
    rfl
theorem bind_kw {fd : FuncData} {ps ks : List Str} {us ws : List Value} (pl : PlainFd fd ps) (nd : ks.Nodup) (ok : kwOk ps ks = true) (hl : us.length = ks.length) (hw : picks us (placesOf ps ks) = some ws) :
    bindArgs fd ⟨[], ks.zip us⟩ = pure (ps.zip ws) := by
  obtain ⟨as, h1, h2, h3⟩ := pl
  unfold bindArgs
  have pb : ∀ {α β : Type} (a : α) (f : α → Sem β), (pure a >>= f) = f a := fun _ _ => rfl
  have sq : seqItems? .none = pure none := by first | rfl | (unfold seqItems? notAStandIn; rfl)
  unfold kwOk at ok
  obtain ⟨ok1, ok2⟩ := Bool.and_eq_true_iff.mp ok
  obtain ⟨ok3, ok4⟩ := Bool.and_eq_true_iff.mp ok1
  have hin : ∀ k ∈ ks, k ∈ ps := fun k hk => by simpa using List.all_eq_true.mp ok2 k hk
  have hout : ∀ p ∈ ps, p ∈ ks := fun k hk => by simpa using List.all_eq_true.mp ok4 k hk
  rw [h1, h3]
  dsimp only
  simp only [List.map_nil, List.nil_append, h2, List.zip_nil_right]
  rw [kw_loop (l := ks.zip us) []]
  · rw [pb]
    have miss : ps.filter (fun n => ((ks.zip us).lookup n).isNone) = [] := by
      rw [List.filter_eq_nil_iff]
      intro n hn
      rw [kw_lookup hl]
      have hi : ks.findIdx (· == n) < ks.length := List.findIdx_lt_length_of_exists ⟨n, hout n hn, beq_self_eq_true n⟩
      rw [List.getElem?_eq_getElem (by rw [hl]; exact hi)]
      simp
    have fm := (kw_binds hl hw).1
    simp only [sq, pb, Option.getD_none, List.length_nil, Nat.not_lt_zero, gt_iff_lt, decide_false, Bool.false_and, Bool.false_eq_true, if_false, List.drop_nil, Nat.sub_zero, List.take_length, List.drop_length, List.nil_append, miss, List.isEmpty_nil, Bool.not_true, List.append_nil, List.zip_nil_right, List.forIn_nil, fm]
    try rfl
  · intro x hx st hst
    have hk : x.1 ∈ ks := (List.of_mem_zip hx).1
    rw [if_pos (by simp [hin x.1 hk]), if_neg (by rw [hst]; simp)]
  · rw [List.map_fst_zip (by omega)]
    exact nd
  · intro x _
    rfl

/-! rules -/
theorem picks_vals {vs : List V} {us : List Value} (r : Vals vs us) : ∀ {is : List Nat} {ws : List V}, picks vs is = some ws → ∃ ys, picks us is = some ys ∧ Vals ws ys
  | [], ws, h => by cases h; exact ⟨[], rfl, .nil⟩
  | i :: is, ws, h => by
    obtain ⟨x, h1, h2⟩ := Option.bind_eq_some_iff.mp (show (vs[i]?).bind (fun x => (picks vs is).map (x :: ·)) = some ws from h)
    obtain ⟨xs, h3, rfl⟩ := Option.map_eq_some_iff.mp h2
    obtain ⟨ys, h4, h5⟩ := picks_vals r h3
    have key : ∀ {vs : List V} {us : List Value} {i : Nat} {x : V}, Vals vs us → vs[i]? = some x → ∃ u, us[i]? = some u ∧ RelV x u := by
      intro vs us i x r
      induction r generalizing i with
      | nil => intro h; cases i <;> cases h
      | cons a r ih =>
        intro h
        cases i with
        | zero => cases h; exact ⟨_, rfl, a⟩
        | succ i => exact ih h
    obtain ⟨u, h6, h7⟩ := key r h1
    exact ⟨u :: ys, by show (us[i]?).bind (fun x => (picks us is).map (x :: ·)) = _; rw [h6, h4]; rfl, .cons h7 h5⟩
/-- the keywords' names -/
def kwNames : List Keyword → Option (List Str)
  | [] => some []
  | ⟨some n, _, _⟩ :: r => (kwNames r).map (n :: ·)
  | ⟨none, _, _⟩ :: _ => none
def kwVals : List Keyword → List Expr
  | [] => []
  | ⟨_, e, _⟩ :: r => e :: kwVals r
theorem kw_each {env : PySem.Env} {pos : Pos} : ∀ {kws : List Keyword} {ks : List Str}, kwNames kws = some ks →
    (backToKw pos (keywordEach kws env)).all (·.1.isSome) = true ∧ (backToKw pos (keywordEach kws env)).filterMap (·.1) = ks ∧ (backToKw pos (keywordEach kws env)).any (·.1.isNone) = false ∧ kws.length = ks.length
  | [], ks, h => by cases h; exact ⟨rfl, rfl, rfl, rfl⟩
  | ⟨some n, e, p⟩ :: r, ks, h => by
    obtain ⟨ks', h1, rfl⟩ := Option.map_eq_some_iff.mp (show (kwNames r).map (n :: ·) = some ks from h)
    obtain ⟨i1, i2, i3, i4⟩ := kw_each (env := env) (pos := pos) h1
    refine ⟨?_, ?_, ?_, congrArg (· + 1) i4⟩
    · show (true && _) = true
      rw [Bool.true_and]; exact i1
    · show n :: _ = _
      exact congrArg (n :: ·) i2
    · show (false || _) = false
      rw [Bool.false_or]; exact i3
  | ⟨none, _, _⟩ :: _, _, h => by cases h
section
variable {X : Cx} {CX : CXT} {k : Nat} {f : Addr} {fd : FuncData} {ps ks : List Str} {sp : Sp} {E : L2.St → XK} {x : Str} {p pos : Pos} {e fe : Expr} {es : List Expr} {kws : List Keyword} {t tk : TA} {te : TE}
theorem vals_length {vs : List V} {us : List Value} (r : Vals vs us) : vs.length = us.length := Paired.length r
/-- f(k = v, ..), all by their names -/
theorem pe_callKW (F : FnOk X.prog X.w X.K X.mg X.base CX k f fd ps sp) (hr : Room k X.A) (hg : Gl X x) (hm : X.mg x = some (.ref f)) (hk : PySem.W.keepIn X.K (.ref f) = true) (pl : PlainFd fd ps) (nd : ks.Nodup) (ok : kwOk ps ks = true) (hx : ∀ σ, PassesAt CX X σ (E σ))
    (hn : kwNames kws = some ks) (hkw : PK X kws tk) (hdb : (x == ("__debug__" : Str)) = false) :
    PE X (.Call (.Name x p) [] kws pos) (fun σ H Q => tk σ H fun vs H1 => vs.length = ks.length ∧ ∃ ws, picks vs (placesOf ps ks) = some ws ∧ sp ws H1 Q (E σ)) := by
  refine ⟨fun pins s σ H Q I h => ?_⟩
  obtain ⟨k1, k2, k3, k4⟩ := kw_each (env := X.env) (pos := pos) hn
  refine wpAny_Call_Name_kw (ld_glob I hg hm ?_ hdb)
  refine PySem.W.callWith_KW0 (h₀ := X.base) I.ok.mod.kin hk k1 (thn (hkw.run pos pins s σ H _ I h) fun us s1 ⟨vs, H1, I1, r, hl, ws, hw, q⟩ => ⟨I1.kIn, ?_⟩) (by rw [k3]; rfl)
  rw [k2]
  obtain ⟨ys, hy, r2⟩ := picks_vals r hw
  have hu : us.length = ks.length := by rw [← vals_length r]; exact hl
  refine wpAny_call (codeAny_mono (F.run X.A X.stack s1 H1 ⟨[], ks.zip us⟩ ys ws Q (E σ) hr I1.env0 (.of_eq (bind_kw pl nd ok hu hy)) r2 q) fun r s' hq => ?_)
  cases r with
  | error er => exact hx σ pins H1 s1 er s' I1 hq
  | ok fl =>
    cases fl with
    | ret u => exact I1.after hq
    | next => exact False.elim hq
    | brk => exact False.elim hq
    | cont => exact False.elim hq
/-- f(), what it raises goes on -/
theorem pe_callS0 (F : FnOk X.prog X.w X.K X.mg X.base CX k f fd ps sp) (hr : Room k X.A) (hg : Gl X x) (hm : X.mg x = some (.ref f)) (hk : PySem.W.keepIn X.K (.ref f) = true) (hb : Binds X.K fd ps []) (hx : ∀ σ, PassesAt CX X σ (E σ))
    (hdb : (x == ("__debug__" : Str)) = false) : PE X (.Call (.Name x p) [] [] pos) (tCallS sp E tNil) := by
  refine ⟨fun pins s σ H Q I h => ?_⟩
  refine wpAny_Call_Name_kw (ld_glob I hg hm ?_ hdb)
  exact PySem.W.callWith_K0 I.kIn hk (run_fnS (us := []) F hr hb (hx σ) I .nil h)
/-- a value is called: a def -/
def tCallV (X : Cx) (CX : CXT) (E : L2.St → XK) (te : TE) (t : TA) : TE := fun σ H Q => te σ H fun v H1 => ∃ (k : Nat) (f : Addr) (fd : FuncData) (ps : List Str) (sp : Sp), v = .ref f ∧ FnOk X.prog X.w X.K X.mg X.base CX k f fd ps sp ∧ Room k X.A ∧ PySem.W.keepIn X.K (.ref f) = true ∧ Binds X.K fd ps [] ∧ t σ H1 fun vs H2 => sp vs H2 Q (E σ)
theorem pe_callV (hf : PE X fe te) (ha : PA X (e :: es) t) (hx : ∀ σ, PassesAt CX X σ (E σ)) (arm : eval (.Call fe (e :: es) [] pos) X.env = (do callWith pos (← eval fe X.env) [] (backTo pos (starEach (e :: es) X.env)) (backToKw pos (keywordEach [] X.env))))
    (he : starEach (e :: es) X.env = (false, eval e X.env) :: starEach es X.env) (hpl : (backTo pos (starEach es X.env)).any (·.1) = false) : PE X (.Call fe (e :: es) [] pos) (tCallV X CX E te t) := by
  refine ⟨fun pins s σ H Q I h => ?_⟩
  rw [arm]
  refine wpAny_bind (thn (hf.run pins s σ H _ I h) fun u s1 ⟨v, H1, I1, r1, k, f, fd, ps, sp, ev, F, hr, hk, hb, ht⟩ => ?_)
  subst ev
  obtain rfl : u = Value.ref f := r1
  refine PySem.W.callWith_K (h₀ := X.base) I.ok.mod.kin hk (thn (ha.run pos pins s1 σ H1 _ I1 ht) fun us s2 ⟨vs, H2, I2, r, q⟩ => ⟨I2.kIn, ?_⟩) he hpl
  exact run_fnS F hr hb (hx σ) I2 r q
end
end Lt
end
section
set_option maxRecDepth 100000
namespace Lt
open PySem PySem.Spec PyProof.Rows L2
section
variable {X : Cx} {G : Nat → Option Addr} {Z Z' : Set1} {XR : XRel} {W : WX} {C : Calls} {pos : Pos} {e e1 e2 : Env} {σ σ1 : L2.St} {H H1 H2 : Hp}
/-! keywords' values -/
theorem sK_nil : PK X [] (tL G Z XR W (evl C .nil)) := ⟨fun pos pins s σ H Q I ⟨e, rel, q⟩ => by
  unfold evl at q
  exact pk_nil.run pos pins s σ H Q I (q [] H rel (.refl _ _ _) ⟨Z, fun _ h => .inl h, rel, fun _ h => h⟩)⟩
theorem sK_cons {nm : Option Str} {kp : Pos} {x : Expr} {xs : List Keyword} {a b : E} (ha : ∀ Z, PE X x (tE G Z XR W (ev C a))) (hb : ∀ Z, PK X xs (tL G Z XR W (evl C b))) :
    PK X (⟨nm, x, kp⟩ :: xs) (tL G Z XR W (evl C (.cons a b))) := by
  refine ⟨fun pos pins s σ H Q I ⟨e, rel, q⟩ => ?_⟩
  show wpAny _ _ (evalAll ((do let v ← eval x X.env; standAt pos; pure v) :: (backToKw pos (keywordEach xs X.env)).map (·.2))) _ _ s
  unfold evl at q
  have first : tE G Z XR W (ev C a) σ H fun v H1 => ∃ r e', Rel G Z e' σ H1 ∧ Stp e σ H e' σ H1 ∧ RR G Z e' σ H H1 r v ∧ FinL G Z XR W e σ H ((evl C b e').bind fun rs e2 => .ok (r :: rs) e2) Q :=
    ⟨e, rel, (Fin.bindL q).imp fun v H1 ⟨r, e', _, h1, h2, h3, h4⟩ => ⟨r, e', h1, h2, h3, h4⟩⟩
  refine wpAny_evalAll_cons (wpAny_bind (thn ((ha Z).run pins s σ H _ I first) fun u s1 ⟨v, H1, I1, ru, r, e1, rel1, st1, rr1, q1⟩ => wpAny_bind (wpAny_standAt (wpAny_pure ?_))))
  have second : ∀ Z', (∀ b, Z b → Z' b) → (∀ b, Z' b → Z b ∨ H b = none) → Rel G Z' e1 σ H1 → (∀ Zf rs vs e2 H2, (∀ b, Zf b → Z' b ∨ H1 b = none) → Stp e1 σ H1 e2 σ H2 → RRs G e2 σ H1 H2 Zf Z' rs vs → RRs G e2 σ H H2 Zf Z (r :: rs) (v :: vs)) →
      tL G Z' XR W (evl C b) σ H1 fun vs H2 => Q (v :: vs) H2 := fun Z' sub sup rel' mk => by
    refine ⟨e1, rel', ?_⟩
    revert q1
    cases evl C b e1 with
    | st => exact fun q1 => q1
    | ex z e2 => exact fun q1 cls dx H2 rel2 st2 => q1 cls dx H2 (rel2.less sub (rel1.lkZ st2)) (st1.trans st2)
    | ok rs e2 => exact fun q1 vs H2 rel2 st2 ⟨Zf, z, rr2⟩ => q1 (v :: vs) H2 (rel2.less sub (rel1.lkZ st2)) (st1.trans st2) ⟨Zf, fun x k => (z x k).elim (sup x) fun n => .inr (Classical.byContradiction fun m => st1.dom x m n), mk Zf rs vs e2 H2 z st2 rr2⟩
  have goal : ∀ Z', tL G Z' XR W (evl C b) σ H1 (fun vs H2 => Q (v :: vs) H2) → wpAny (model X.prog X.w) X.A (evalAll ((backToKw pos (keywordEach xs X.env)).map (·.2))) (fun us s2 => AP X pins σ Q (u :: us) s2) X.xe s1 := fun Z' h =>
    thn ((hb Z').run pos pins s1 σ H1 _ I1 h) fun us s2 ⟨vs, H2, I2, r2, q2⟩ => ⟨v :: vs, H2, I2, .cons ru r2, q2⟩
  cases r with
  | v d => exact goal Z (second Z (fun _ h => h) (fun _ h => .inl h) rel1 fun Zf rs vs e2 H2 z st2 rr2 => ⟨(Rp.wide (fun b k => k.elim (fun k => (z b k).imp .inl id) fun k => .inl (.inr k)) rr1).step (st2.also Zf), rr2.back st1.dom⟩)
  | s i => exact goal Z (second Z (fun _ h => h) (fun _ h => .inl h) rel1 fun Zf rs vs e2 H2 z st2 rr2 => ⟨rr1, rr2.back st1.dom⟩)
  | f d =>
    obtain ⟨a, h1, h2, h3, h4, h5⟩ := rr1
    refine goal (plus Z a) (second (plus Z a) (fun _ h => .inl h) (fun b k => k.imp id fun (k : b = a) => by rw [k]; exact h2) h5 fun Zf rs vs e2 H2 z st2 rr2 => ?_)
    obtain ⟨_, s⟩ := RRs.sub rr2
    refine ⟨a, h1, h2, h3, s a (.inr rfl), (Bx.wide (fun b k => k.elim (fun k => (z b k).imp .inl id) fun k => .inl (.inr k)) h4).step (st2.also Zf) fun o h => ?_, rr2.back st1.dom⟩
    exact (st2.keep.keep a o h h5.apart).1
/-! arguments put in order: nothing of them is changed -/
theorem RWs.get : ∀ {rs : List R} {vs : List V} {i : Nat} {r : R}, RWs G Z e σ H H1 rs vs → rs[i]? = some r → ∃ v, vs[i]? = some v ∧ RW G Z e σ H H1 r v
  | [], [], _, _, _, h => by simp at h
  | r :: rs, v :: vs, 0, _, q, h => by cases h; exact ⟨v, rfl, q.1⟩
  | r :: rs, v :: vs, i + 1, _, q, h => RWs.get (i := i) q.2 (by simpa using h)
  | [], _ :: _, _, _, q, _ => q.elim
  | _ :: _, [], _, _, q, _ => q.elim
theorem RWs.len : ∀ {rs : List R} {vs : List V}, RWs G Z e σ H H1 rs vs → rs.length = vs.length
  | [], [], _ => rfl
  | _ :: _, _ :: _, q => congrArg (· + 1) (RWs.len q.2)
  | [], _ :: _, q => q.elim
  | _ :: _, [], q => q.elim
theorem RWs.picks {rs : List R} {vs : List V} (q : RWs G Z e σ H H1 rs vs) : ∀ {is : List Nat} {rs' : List R}, Lt.picks rs is = some rs' → ∃ vs', Lt.picks vs is = some vs' ∧ RWs G Z e σ H H1 rs' vs'
  | [], rs', h => by cases h; exact ⟨[], rfl, trivial⟩
  | i :: is, rs', h => by
    obtain ⟨x, h1, h2⟩ := Option.bind_eq_some_iff.mp (show (rs[i]?).bind (fun x => (Lt.picks rs is).map (x :: ·)) = some rs' from h)
    obtain ⟨xs, h3, rfl⟩ := Option.map_eq_some_iff.mp h2
    obtain ⟨ys, h4, h5⟩ := RWs.picks q h3
    obtain ⟨v, h6, h7⟩ := q.get h1
    exact ⟨v :: ys, by show (vs[i]?).bind (fun x => (Lt.picks vs is).map (x :: ·)) = _; rw [h6, h4]; rfl, h7, h5⟩
theorem picks_len {α : Type} {l : List α} : ∀ {is : List Nat} {l' : List α}, Lt.picks l is = some l' → l'.length = is.length
  | [], _, h => by cases h; rfl
  | i :: is, l', h => by
    obtain ⟨x, h1, h2⟩ := Option.bind_eq_some_iff.mp (show (l[i]?).bind (fun x => (Lt.picks l is).map (x :: ·)) = some l' from h)
    obtain ⟨xs, h3, rfl⟩ := Option.map_eq_some_iff.mp h2
    exact congrArg (· + 1) (picks_len h3)
theorem noTmp : ∀ {n : Nat} {rs : List R} {as : List Ar}, args e (List.replicate n false) rs = some as → anyTmp as = false
  | 0, [], as, h => by cases h; rfl
  | 0, _ :: _, as, h => by cases h
  | n + 1, [], as, h => by cases h
  | n + 1, r :: rs, as, h => by
    obtain ⟨a, as', rfl, h1, h2⟩ := args_cons (show args e (false :: List.replicate n false) (r :: rs) = some as from h)
    have ih := noTmp h2
    cases a with
    | tmp d => exact absurd (arg_tmp h1).1 Bool.false_ne_true
    | val d => exact ih
    | bor i d => exact ih
    | chg i d => exact ih
theorem sE_callk {f n : Nat} {ps : List Nat} {x : Expr} {kws : List Keyword} {l : E} (hc : ∀ t, PK X kws t → PE X x (fun σ H Q => t σ H fun vs H1 => vs.length = kws.length ∧ ∃ ws, picks vs ps = some ws ∧ prom G XR C f (List.replicate n false) ws H1 Q (WE W σ))) (hn : ps.length = n)
    (hl : ∀ e' rs e2, evl C l e' = .ok rs e2 → rs.length = kws.length) (ha : PK X kws (tL G Z XR W (evl C l))) : PE X x (tE G Z XR W (ev C (.callk f ps l))) := by
  refine pe_imp (hc _ ha) fun σ H Q ⟨e, rel, q⟩ => ?_
  unfold ev at q
  refine ⟨e, rel, (FinL.bindR q).imp fun vs H1 ⟨rs, e1, he, rel1, st1, rr1, q1⟩ => ?_⟩
  have hw := RRs.weak rr1
  cases hp : picks rs ps with
  | none => rw [hp] at q1; exact q1.elim
  | some rs' =>
    rw [hp] at q1
    have q2 : Fin G Z XR W e σ H (callR C f (List.replicate rs'.length false) rs' e1) Q := q1
    have hl' : rs'.length = n := (picks_len hp).trans hn
    rw [hl'] at q2
    obtain ⟨vs', hv, hw'⟩ := hw.picks hp
    refine ⟨by rw [← hw.len]; exact hl _ _ _ he, vs', hv, ?_⟩
    cases has : args e1 (List.replicate n false) rs' with
    | none =>
      unfold callR at q2
      rw [has] at q2
      exact q2.elim
    | some as => exact call_ok rel rel1 st1 hw' as has (noTmp has) q2
/-- the number of a list's results -/
def lenE : E → Nat
  | .cons _ r => lenE r + 1
  | _ => 0
theorem evl_len : ∀ {l : E} {e1 e2 : Env} {rs : List R}, evl C l e1 = .ok rs e2 → rs.length = lenE l
  | .nil, _, _, _, h => by unfold evl at h; cases h; rfl
  | .cons a b, e1, e2, rs, h => by
    unfold evl at h
    cases ha : ev C a e1 with
    | st => rw [ha] at h; cases h
    | ex x e => rw [ha] at h; cases h
    | ok r e3 =>
      rw [ha] at h
      have h' : ((evl C b e3).bind fun rs e2 => Out.ok (r :: rs) e2) = .ok rs e2 := h
      cases hb : evl C b e3 with
      | st => rw [hb] at h'; cases h'
      | ex x e => rw [hb] at h'; cases h'
      | ok rs' e4 =>
        rw [hb] at h'
        cases h'
        exact congrArg (· + 1) (evl_len hb)
  | .bad, _, _, _, h | .var _, _, _, _, h | .cst _, _, _, _, h | .tup _, _, _, _, h | .lst _, _, _, _, h | .call _ _ _, _, _, _, h | .calv _ _ _ _, _, _, _, h | .callk _ _ _, _, _, _, h | .blt _ _, _, _, _, h | .isi _ _, _, _, _, h | .bin _ _ _, _, _, _, h
  | .neg _, _, _, _, h | .cmp _ _ _, _, _, _, h | .chain _ _ _ _ _, _, _, _, h | .and _ _, _, _, _, h | .or _ _, _, _, _, h | .not _, _, _, _, h | .ite _ _ _, _, _, _, h | .ix _ _, _, _, _, h | .sl _ _ _, _, _, _, h | .nop, _, _, _, h | .comp _ _ _ _ _ _, _, _, _, h
  | .cnt _ _, _, _, _, h | .idx _ _, _, _, _, h | .app _ _, _, _, _, h | .ext _ _, _, _, _, h | .pop _, _, _, _, h | .popa _ _, _, _, _, h | .rem _ _, _, _, _, h | .fld _, _, _, _, h | .rev _, _, _, _, h => by unfold evl at h; cases h
/-- a def as a value, called -/
theorem sE_calv {ok : List Nat} {n : Nat} {fe x : Expr} {es' : List Expr} {a l : E} (hc : ∀ te t, PE X fe te → PA X es' t → PE X x (tCallV X (L2.CX X.prog X.w) (WE W) te t)) (hfe : PE X fe (tE G Z XR W (ev C a)))
    (hok : ∀ f b, ok.contains f = true → G f = some b → ∃ k fd ps, FnOk X.prog X.w X.K X.mg X.base (L2.CX X.prog X.w) k b fd ps (prom G XR C f (List.replicate n false)) ∧ Room k X.A ∧ PySem.W.keepIn X.K (.ref b) = true ∧ Binds X.K fd ps [])
    (ha : ∀ Z, PA X es' (tL G Z XR W (evl C l))) : PE X x (tE G Z XR W (ev C (.calv ok n a l))) := by
  refine pe_imp (hc _ _ hfe (ha Z)) fun σ H Q ⟨e, rel, q⟩ => ?_
  unfold ev at q
  refine ⟨e, rel, (Fin.bind q).imp fun v H1 ⟨r, e1, _, rel1, st1, rr1, q1⟩ => ?_⟩
  cases r with
  | v d =>
    cases d with
    | fn f =>
      have q2 : Fin G Z XR W e σ H (if ok.contains f = true then (evl C l e1).bind fun rs e2 => callR C f (List.replicate n false) rs e2 else .st) Q := q1
      by_cases hf : ok.contains f = true
      · rw [if_pos hf] at q2
        have rp : Rp G (also Z (own e1 σ)) H1 (.fn f) v := rr1
        cases rp with
        | @fn _ b hg =>
          obtain ⟨k, fd, ps, F, hr, hk, hb⟩ := hok f b hf hg
          refine ⟨k, b, fd, ps, _, rfl, F, hr, hk, hb, e1, rel1, ?_⟩
          refine (FinL.bindR (q2.from st1)).imp fun vs H2 ⟨rs, e2, _, rel2, st2, rr2, q3⟩ => ?_
          cases has : args e2 (List.replicate n false) rs with
          | none =>
            unfold callR at q3
            rw [has] at q3
            exact q3.elim
          | some as => exact call_ok rel1 rel2 st2 (RRs.weak rr2) as has (noTmp has) q3
      · rw [if_neg hf] at q2
        exact q2.elim
    | _ => exact q1.elim
  | f d => exact q1.elim
  | s i => exact q1.elim
/-- f() -/
theorem sE_call0 {f : Nat} {io : List Bool} {x : Expr} {l : E} (hc : PE X x (tCallS (prom G XR C f io) (WE W) tNil)) (hl : l = .nil) : PE X x (tE G Z XR W (ev C (.call f io l))) := by
  subst hl
  refine pe_imp hc fun σ H Q ⟨e, rel, q⟩ => ?_
  unfold ev at q
  rw [show evl C .nil e = .ok [] e by unfold evl; rfl] at q
  have q' : Fin G Z XR W e σ H (callR C f io [] e) Q := q
  exact call_all (rs := []) (vs := []) rel rel (.refl _ _ _) ⟨Z, fun _ h => .inl h, rel, fun _ h => h⟩ q'
end
end Lt
end
section
set_option maxRecDepth 100000
namespace Lt
open PySem PySem.Spec PyProof.Rows L2
/-! ### what is known of the exception classes; raise, try -/
def bmOf (v : Bool) : List Value := if v then [.type "ValueError", .type "Exception", .type "BaseException", .type "object"] else [.type "LookupError", .type "Exception", .type "BaseException", .type "object"]
def newOf (v : Bool) : String := if v then "ValueError.__new__" else "LookupError.__new__"
def iniOf (v : Bool) : String := if v then "ValueError.__init__" else "LookupError.__init__"
def basOf (v : Bool) : String := if v then "ValueError" else "LookupError"
structure ClsOk (P : Program) (K : PySem.W.Frag) (mg : Str → Option Value) (cls : List Cl) (i : Nat) (c : Cl) (C : Addr) : Prop where
  m : mg c.name = some (.ref C)
  is : IsC K C
  kv : PySem.W.kitOne K (.ref C) (.type "ValueError") = some c.val
  kl : PySem.W.kitOne K (.ref C) (.type "LookupError") = some (!c.val)
  ex : ∀ j c' C', cls[j]? = some c' → mg c'.name = some (.ref C') → PySem.W.exmOne K (.ref C) (.ref C') = some (i == j)
  make : match c.fld with
    | none => PySem.W.excIn K C (bmOf c.val) (newOf c.val) = true ∧ PySem.W.keepIn K (.ref C) = true ∧ PySem.W.subIn K (.ref C) (.type "BaseException") = some true ∧ PySem.W.typeIn K (.ref C) = some (.type "type")
    | some f => (∃ fI sf pn, LowC P K (basOf c.val) (newOf c.val) (iniOf c.val) (bmOf c.val) C fI sf pn f) ∧ XfC K C ∧ PySem.W.findIn K (.ref C) f = some none
/-- an exception of the evaluator and one of the layer -/
def xrOf (cls : List Cl) (mg : Str → Option Value) : XRel := fun x cv dx H => ∃ c C, cls[x.c]? = some c ∧ mg c.name = some (.ref C) ∧ cv = .ref C ∧ match c.fld with
  | none => x.l = [] ∧ dx = none
  | some f => ∃ n d, x.l = [.int n] ∧ dx = some d ∧ H d = some (.xd [(f, .int n)])
structure Excs (X : Cx) (cs : List Cl) (XR : XRel) : Prop where
  cls : ∀ i c, cs[i]? = some c → ∃ C, ClsOk X.prog X.K X.mg cs i c C
  xr : XR = xrOf cs X.mg
  ve : X.mg "ValueError" = none
  le : X.mg "LookupError" = none
  su : X.mg "super" = none
  dp : X.A.depth + 5 < recursionLimit
section
variable {X : Cx} {G : Nat → Option Addr} {Z Z' : Set1} {XR : XRel} {W : WX} {C : Calls} {pos : Pos} {e e1 e2 : Env} {σ σ1 : L2.St} {H H1 H2 : Hp} {cls : List Cl}
theorem fb_ok (v : Bool) : ExcBaseFacts (basOf v) (newOf v) (iniOf v) (bmOf v) := by cases v; exact PySem.F.excBase_LookupError; exact PySem.F.excBase_ValueError
/-- raise C() -/
theorem raise0_ok (x : Excs X cls XR) (hc : X.calm = true) (tk : Takes X W) {i : Nat} {c : Cl} {nm : Str} {p pos pos2 : Pos} (hi : cls[i]? = some c) (hn : c.name = nm) (hf : c.fld = none) (hg : Gl X nm) (hdb : (nm == ("__debug__" : Str)) = false) :
    PS X (.Raise (some (.Call (.Name nm p) [] [] pos)) none pos2) (tS G Z XR W (es C (.rais i .nil))) := by
  subst hn
  obtain ⟨A, k⟩ := x.cls i c hi
  have mk := k.make
  rw [hf] at mk
  obtain ⟨m1, m2, m3, m4⟩ := mk
  refine ps_imp (ps_raise hc tk (pmk_own0 (fb_ok c.val) m1 k.m m2 (raises_own m3 m4) hg hdb)) fun D σ H ⟨e, rel, q⟩ => ?_
  have q' : FinS G Z XR W e σ H (.ex ⟨i, []⟩ e) D := by
    unfold es at q
    rw [show evl C .nil e = .ok [] e by unfold evl; rfl] at q
    exact q
  refine q' (.ref A) none σ H rel (.refl _ _ _) ?_
  rw [x.xr]
  refine ⟨c, A, hi, k.m, rfl, ?_⟩
  rw [hf]
  exact ⟨rfl, rfl⟩
/-- raise C(y) -/
theorem raise1_ok (x : Excs X cls XR) (hc : X.calm = true) (tk : Takes X W) {i : Nat} {c : Cl} {f nm : Str} {y : Expr} {a : E} {p pos pos2 : Pos} (hi : cls[i]? = some c) (hn : c.name = nm) (hf : c.fld = some f) (hg : Gl X nm) (hdb : (nm == ("__debug__" : Str)) = false)
    (hs : starEach [y] X.env = (false, eval y X.env) :: starEach [] X.env) (hy : PE X y (tE G Z XR W (ev C a))) :
    PS X (.Raise (some (.Call (.Name nm p) [y] [] pos)) none pos2) (tS G Z XR W (es C (.rais i (.cons a .nil)))) := by
  subst hn
  obtain ⟨A, k⟩ := x.cls i c hi
  have mk := k.make
  rw [hf] at mk
  obtain ⟨⟨fI, sf, pn, L⟩, m2, m3⟩ := mk
  refine ps_imp (ps_raise hc tk (pmk_low L x.dp x.su hg k.m hy hs hdb)) fun D σ H ⟨e, rel, q⟩ => ⟨e, rel, ?_⟩
  unfold es evl at q
  cases ha : ev C a e with
  | st => rw [ha] at q; exact q.elim
  | ex z e' =>
    rw [ha] at q
    exact fun cv dx H' r s z => q cv dx σ H' r s z
  | ok r e1 =>
    rw [ha] at q
    have q1 : FinS G Z XR W e σ H (match keeps e1 [r] with
      | some (ds, e2) => if excOk ds then .ex ⟨i, ds⟩ e2 else .st
      | none => .st) D := by
      have : ((evl C .nil e1).bind fun rs e2 => Out.ok (r :: rs) e2) = .ok [r] e1 := by unfold evl; rfl
      have q2 : FinS G Z XR W e σ H (((evl C .nil e1).bind fun rs e2 => Out.ok (r :: rs) e2).fl fun rs e1 => match keeps e1 rs with
        | some (ds, e2) => if excOk ds then .ex ⟨i, ds⟩ e2 else .st
        | none => .st) D := q
      rw [this] at q2
      exact q2
    intro v H1 rel1 st1 rr1 d hd
    cases hk : keeps e1 [r] with
    | none => rw [hk] at q1; exact q1.elim
    | some pr =>
      obtain ⟨ds, e2⟩ := pr
      rw [hk] at q1
      have q2 : FinS G Z XR W e σ H (if excOk ds then .ex ⟨i, ds⟩ e2 else .st) D := q1
      obtain ⟨rel2, st2, r2⟩ := keeps_ok (rs := [r]) (vs := [v]) (H0 := H) rel1 ⟨rr1.weak, trivial⟩ hk
      by_cases ok : excOk ds = true
      · rw [if_pos ok] at q2
        match ds, ok, r2, q2 with
        | [.int n], _, .cons (.int _) .nil, q2 =>
          have nw : New H1 (upd H1 d (.xd [(f, .int n)])) := New.upd hd
          refine q2 (.ref A) (some d) σ _ (rel2.new nw) ((st1.trans st2).trans (Stp.new nw)) ?_
          rw [x.xr]
          refine ⟨c, A, hi, k.m, rfl, ?_⟩
          rw [hf]
          exact ⟨n, d, rfl, rfl, upd_same⟩
      · rw [if_neg ok] at q2
        exact q2.elim
end
end Lt
end
section
set_option maxRecDepth 100000
namespace Lt
open PySem PySem.Spec PyProof.Rows L2
/-! ### names; the except clauses, compiled -/
def plainName (x : Str) : Bool := !(x == ("__debug__" : Str)) && !(x == ("__classdict__" : Str)) && !(x == ("__name__" : Str))
def vis (sc : Scope) (x : Str) : Bool := match sc.names.lookup x with
  | some .local => true
  | some .cell => true
  | some .free => true
  | _ => false
def sto (sc : Scope) (x : Str) : Bool := match sc.names.lookup x with
  | some .local => true
  | some .cell => true
  | _ => false
def glo (sc : Scope) (x : Str) : Bool := match sc.names.lookup x with
  | some .globalImplicit => true
  | _ => false
theorem vis_at {x : Str} {sc : Scope} (h : vis sc x = true) : Vis sc x := by
  unfold vis at h
  cases k : sc.names.lookup x with
  | none => rw [k] at h; cases h
  | some m =>
    rw [k] at h
    cases m with
    | «local» => exact .inl k
    | cell => exact .inr (.inl k)
    | free => exact .inr (.inr k)
    | _ => cases h
theorem sto_at {x : Str} {sc : Scope} (h : sto sc x = true) : Loc sc x := by
  unfold sto at h
  cases k : sc.names.lookup x with
  | none => rw [k] at h; cases h
  | some m =>
    rw [k] at h
    cases m with
    | «local» => exact .inl k
    | cell => exact .inr k
    | _ => cases h
theorem glo_at {x : Str} {sc : Scope} (h : glo sc x = true) : sc.names.lookup x = some .globalImplicit := by
  unfold glo at h
  cases k : sc.names.lookup x with
  | none => rw [k] at h; cases h
  | some m =>
    rw [k] at h
    cases m with
    | globalImplicit => rfl
    | _ => cases h
theorem plain_at {x : Str} (h : plainName x = true) : (x == ("__debug__" : Str)) = false ∧ (x == ("__classdict__" : Str)) = false ∧ x ≠ "__name__" := by
  unfold plainName at h
  obtain ⟨h1, h2⟩ := Bool.and_eq_true_iff.mp h
  obtain ⟨h3, h4⟩ := Bool.and_eq_true_iff.mp h1
  refine ⟨by simpa using h3, by simpa using h4, fun e => ?_⟩
  have h5 : (x == ("__name__" : Str)) = false := by simpa using h2
  rw [e] at h5
  exact absurd (beq_self_eq_true _) (by rw [h5]; exact Bool.false_ne_true)

def starred : Expr → Bool
  | .Starred _ _ => true
  | _ => false
def noStars (es : List Expr) : Bool := es.all fun x => !starred x
theorem star1 {x : Expr} {r : List Expr} {env : PySem.Env} (h : starred x = false) : starEach (x :: r) env = (false, eval x env) :: starEach r env := by
  cases x <;> first | rfl | cases h
theorem stars_cons {x : Expr} {r : List Expr} (h : noStars (x :: r) = true) : starred x = false ∧ noStars r = true := by
  obtain ⟨h1, h2⟩ := Bool.and_eq_true_iff.mp (show ((!starred x) && r.all fun x => !starred x) = true from h)
  exact ⟨by simpa using h1, h2⟩
theorem stars_any {pos : Pos} {env : PySem.Env} : ∀ {r : List Expr}, noStars r = true → (backTo pos (starEach r env)).any (·.1) = false
  | [], _ => rfl
  | x :: r, h => by
    obtain ⟨h1, h2⟩ := stars_cons h
    rw [star1 h1]
    show (false || (backTo pos (starEach r env)).any (·.1)) = false
    rw [stars_any h2]; rfl
def clIx (cs : List Cl) (x : Str) : Option (Nat × Cl) := (cs.findIdx? fun c => c.name == x).bind fun i => (cs[i]?).map fun c => (i, c)
theorem clIx_at {cs : List Cl} {x : Str} {i : Nat} {c : Cl} (h : clIx cs x = some (i, c)) : cs[i]? = some c ∧ c.name = x := by
  obtain ⟨j, h1, h2⟩ := Option.bind_eq_some_iff.mp h
  obtain ⟨d, h3, h4⟩ := Option.map_eq_some_iff.mp h2
  cases h4
  obtain ⟨h5, h6, _⟩ := List.findIdx?_eq_some_iff_getElem.mp h1
  refine ⟨h3, ?_⟩
  rw [List.getElem?_eq_getElem h5] at h3
  cases h3
  exact eq_of_beq h6
def cCon : Const → Option D
  | .none => some .non
  | .bool b => some (.bl b)
  | .int i => some (.int i)
  | .str x => if PyData.strOk x then some (.str x) else none
  | _ => none
def conV : D → V
  | .bl b => .bl b
  | .int i => .int i
  | .str x => .str x
  | _ => .non
theorem con_ok {X : Cx} {k : Const} {d : D} {j : Nat} {pos : Pos} (h : cCon k = some d) : PE X (.Constant k j pos) (tC (conV d)) ∧ ∀ (G : Nat → Option Addr) (Z : Set1) (H : Hp), Rp G Z H d (conV d) := by
  cases k with
  | none => cases h; exact ⟨pe_non, fun _ _ _ => .non⟩
  | bool b => cases h; exact ⟨pe_bl, fun _ _ _ => .bl b⟩
  | int i => cases h; exact ⟨pe_int, fun _ _ _ => .int i⟩
  | str x =>
    have h' : (if PyData.strOk x = true then some (D.str x) else none) = some d := h
    by_cases q : PyData.strOk x = true
    · rw [if_pos q] at h'; cases h'; exact ⟨pe_str, fun _ _ _ => .str x q⟩
    · rw [if_neg q] at h'; cases h'
  | _ => cases h
def isErr (t : Str) : Bool := t == ("ValueError" : Str) || t == ("LookupError" : Str)
def cHe (sc : Scope) (c : Cl) (nm : Option Str) : Expr → Option He
  | .Constant k _ _ => (cCon k).map .cst
  | .Call (.Name f _) [.Name n _, .Name t _] [] _ => if f == ("isinstance" : Str) && some n == nm && glo sc f && glo sc t && isErr t then some (.isv (c.val == (t == ("ValueError" : Str)))) else none
  | .Attribute (.Name n _) f _ => if some n == nm && c.fld == some f then some .fld else none
  | _ => none
def cHes (sc : Scope) (c : Cl) (nm : Option Str) : List Expr → Option (List He)
  | [] => some []
  | x :: r => (cHe sc c nm x).bind fun h => (cHes sc c nm r).map (h :: ·)
def cHb (slot : Str → Option Nat) (sc : Scope) (c : Cl) (nm : Option Str) : List Stmt → Option Hb
  | [.Return (some (.Constant k _ _)) _] => (cCon k).map .ret
  | [.Return (some (.List es _)) _] => (cHes sc c nm es).map .retl
  | [.Assign [.Name y _] (.Constant k _ _) _] => if plainName y && sto sc y then (slot y).bind fun j => (cCon k).map (.set j) else none
  | _ => none
def locN (sc : Scope) (n : Str) : Bool := match sc.names.lookup n with
  | some .local => true
  | _ => false
def cH1 (slot : Str → Option Nat) (sc : Scope) (i : Nat) (c : Cl) (suite : List Stmt) (rest : Option S) : Option Str → Option S
  | none => (cHb slot sc c none suite).bind fun b => rest.map (.hcons i none b)
  | some n => if plainName n && locN sc n then (slot n).bind fun j => (cHb slot sc c (some n) suite).bind fun b => rest.map (.hcons i (some j) b) else none
def exName : Option Expr → Option Str
  | some (.Name x _) => some x
  | _ => none
theorem exName_at {t : Option Expr} {x : Str} (h : exName t = some x) : ∃ p, t = some (.Name x p) := by
  unfold exName at h
  split at h
  · cases h; exact ⟨_, rfl⟩
  · cases h
def cHs (slot : Str → Option Nat) (sc : Scope) (cs : List Cl) : List ExceptHandler → Option S
  | [] => some .hnil
  | .ExceptHandler ty nm suite _ :: r => (exName ty).bind fun x => (clIx cs x).bind fun ic => if plainName x && glo sc x then cH1 slot sc ic.1 ic.2 suite (cHs slot sc cs r) nm else none
def heV (x : Ex) : He → V
  | .cst d => conV d
  | .isv b => .bl b
  | .fld => match x.l with
    | [.int n] => .int n
    | _ => .non
end Lt
end
section
set_option maxRecDepth 100000
set_option maxHeartbeats 1000000
namespace Lt
open PySem PySem.Spec PyProof.Rows L2
def AtX (j : Option Nat) (a : Addr) (σ : L2.St) : Prop := match j with
  | none => True
  | some j => σ[j]? = some (some (.ref a))
/-- the exception of clause i0 that the suite holds -/
def HeldX (XR : XRel) (i0 : Nat) (j : Option Nat) (a : Addr) (cv : Value) (dx : Option Addr) (x : Ex) (σ : L2.St) (H : Hp) : Prop := AtX j a σ ∧ XR x cv dx H ∧ x.c = i0
section
variable {X : Cx} {G : Nat → Option Addr} {Z : Set1} {XR : XRel} {W : WX} {C : Calls} {pos : Pos} {cs : List Cl} {sc : Scope} {nm : Option Str} {jn : Option Nat} {i0 : Nat} {c : Cl} {a : Addr} {oe : Obj} {cv : Value} {dx : Option Addr} {pn : List (Addr × Obj)}
/-- what is known of the frame -/
structure Suit (X : Cx) (sc : Scope) (cs : List Cl) (XR : XRel) (slot : Str → Option Nat) : Prop where
  ex : Excs X cs XR
  nd : X.N.Nodup
  sc : X.env.scope = sc
  sl : ∀ x i, slot x = some i → X.N[i]? = some x
  isi : X.mg "isinstance" = none
  fn : ∀ x, X.fn x = true
theorem bt_ve : bootBuiltins "ValueError" = some (.type "ValueError") := by decide +kernel
theorem bt_le : bootBuiltins "LookupError" = some (.type "LookupError") := by decide +kernel
/-- the name of the clause, its slot -/
def NmAt (X : Cx) (nm : Option Str) (jn : Option Nat) : Prop := match nm, jn with
  | none, none => True
  | some n, some j => X.N[j]? = some n ∧ X.env.scope.names.lookup n = some .local ∧ plainName n = true
  | _, _ => False
theorem he_ok {slot : Str → Option Nat} (S : Suit X sc cs XR slot) (hi : cs[i0]? = some c) (hn : NmAt X nm jn) {e : Expr} {h : He} (hc : cHe sc c nm e = some h) (hz : Zc cv dx oe) (hf : ∃ vs, oe.data = .fields vs) :
    PE (X.suite a ((a, oe) :: pn)) e (fun σ H Q => ∃ x, HeldX XR i0 jn a cv dx x σ H ∧ Q (heV x h) H) := by
  obtain ⟨A, k⟩ := S.ex.cls i0 c hi
  have xr := S.ex.xr
  unfold cHe at hc
  split at hc
  · rename_i kk j p
    obtain ⟨d, h1, rfl⟩ := Option.map_eq_some_iff.mp hc
    exact pe_imp (con_ok h1).1 fun σ H Q ⟨x, _, q⟩ => q
  · rename_i f p n p1 t p2 pos
    by_cases q : (f == ("isinstance" : Str) && some n == nm && glo sc f && glo sc t && isErr t) = true
    · rw [if_pos q] at hc
      cases hc
      obtain ⟨q1, q2⟩ := Bool.and_eq_true_iff.mp q
      obtain ⟨q3, q4⟩ := Bool.and_eq_true_iff.mp q1
      obtain ⟨q5, q6⟩ := Bool.and_eq_true_iff.mp q3
      obtain ⟨q7, q8⟩ := Bool.and_eq_true_iff.mp q5
      have e1 : f = ("isinstance" : Str) := eq_of_beq q7
      have e2 : some n = nm := eq_of_beq q8
      subst e1 e2
      cases jn with
      | none => exact hn.elim
      | some j =>
        obtain ⟨n1, n2, n3⟩ := hn
        obtain ⟨p1', p2', _⟩ := plain_at n3
        have gl : ∀ {y : Str}, glo sc y = true → Gl X y := fun {y} h => by
          show X.env.scope.names.lookup y = _
          rw [S.sc]
          exact glo_at h
        have red : ∀ (b : Bool) (σ : L2.St) (H : Hp) (Q : VK), (∃ x, HeldX XR i0 (some j) a cv dx x σ H ∧ Q (.bl b) H) → tIsX j a cv dx A b σ H Q := fun b σ H Q ⟨x, ⟨h1, h2, h3⟩, q⟩ => by
          rw [xr] at h2
          obtain ⟨c', A', g1, g2, g3, g4⟩ := h2
          rw [h3, hi] at g1
          cases g1
          rw [k.m] at g2
          cases g2
          refine ⟨h1, g3, fun d hd => ?_, q⟩
          cases hf' : c.fld with
          | none =>
            rw [hf'] at g4
            rw [g4.2] at hd
            cases hd
          | some ff =>
            rw [hf'] at g4
            obtain ⟨m, d', _, g5, g6⟩ := g4
            rw [g5] at hd
            cases hd
            exact ⟨_, g6⟩
        unfold isErr at q2
        by_cases z : t = ("ValueError" : Str)
        · subst z
          have hb : (c.val == (("ValueError" : Str) == ("ValueError" : Str))) = c.val := by
            rw [beq_self_eq_true]; cases c.val <;> rfl
          refine pe_imp (pe_isX k.is hz hf k.kv n1 (.inl n2) (gl q6) S.isi (gl q4) S.ex.ve bt_ve (by decide) (by decide) p1' p2') fun σ H Q hq => red c.val σ H Q ?_
          obtain ⟨x, h1, h2⟩ := hq
          refine ⟨x, h1, ?_⟩
          have h3 : Q (.bl (c.val == (("ValueError" : Str) == ("ValueError" : Str)))) H := h2
          rw [hb] at h3
          exact h3
        · have z2 : t = ("LookupError" : Str) := by
            rcases Bool.or_eq_true_iff.mp q2 with q2 | q2
            · exact absurd (eq_of_beq q2) z
            · exact eq_of_beq q2
          subst z2
          have hb : (c.val == (("LookupError" : Str) == ("ValueError" : Str))) = !c.val := by
            rw [beq_false_of_ne (by decide : ("LookupError" : Str) ≠ ("ValueError" : Str))]; cases c.val <;> rfl
          refine pe_imp (pe_isX k.is hz hf k.kl n1 (.inl n2) (gl q6) S.isi (gl q4) S.ex.le bt_le (by decide) (by decide) p1' p2') fun σ H Q hq => red (!c.val) σ H Q ?_
          obtain ⟨x, h1, h2⟩ := hq
          refine ⟨x, h1, ?_⟩
          have h3 : Q (.bl (c.val == (("LookupError" : Str) == ("ValueError" : Str)))) H := h2
          rw [hb] at h3
          exact h3
    · rw [if_neg q] at hc; cases hc
  · rename_i n p f pos
    by_cases q : (some n == nm && c.fld == some f) = true
    · rw [if_pos q] at hc
      cases hc
      obtain ⟨q1, q2⟩ := Bool.and_eq_true_iff.mp q
      have e1 : some n = nm := eq_of_beq q1
      have e2 : c.fld = some f := eq_of_beq q2
      subst e1
      cases jn with
      | none => exact hn.elim
      | some j =>
        obtain ⟨n1, n2, n3⟩ := hn
        obtain ⟨p1', p2', _⟩ := plain_at n3
        have mk := k.make
        rw [e2] at mk
        obtain ⟨_, m2, m3⟩ := mk
        refine pe_imp (pe_xf m2 m3 hz hf (pe_var (X := X.suite a ((a, oe) :: pn)) n1 (.inl n2) p1' p2') rfl) fun σ H Q ⟨x, ⟨h1, h2, h3⟩, q⟩ => ?_
        rw [xr] at h2
        obtain ⟨c', A', g1, g2, g3, g4⟩ := h2
        rw [h3, hi] at g1
        cases g1
        rw [k.m] at g2
        cases g2
        rw [e2] at g4
        obtain ⟨m, d', g5, g6, g7⟩ := g4
        refine ⟨.ref a, h1, rfl, g3, d', _, .int m, g6, g7, by simp, ?_⟩
        have : heV x .fld = .int m := by unfold heV; rw [g5]
        rw [this] at q
        exact q
    · rw [if_neg q] at hc; cases hc
  · cases hc
theorem hes_ok {slot : Str → Option Nat} (S : Suit X sc cs XR slot) (hi : cs[i0]? = some c) (hn : NmAt X nm jn) (hz : Zc cv dx oe) (hf : ∃ vs, oe.data = .fields vs) : ∀ {es : List Expr} {l : List He}, cHes sc c nm es = some l →
    PA (X.suite a ((a, oe) :: pn)) es (fun σ H Q => ∃ x, HeldX XR i0 jn a cv dx x σ H ∧ Q (l.map (heV x)) H) ∧ noStars es = true ∧ es.length = l.length
  | [], l, h => by
    cases h
    exact ⟨pa_imp pa_nil fun σ H Q ⟨x, _, q⟩ => q, rfl, rfl⟩
  | e :: r, l, h => by
    obtain ⟨he, h1, h2⟩ := Option.bind_eq_some_iff.mp (show (cHe sc c nm e).bind (fun h => (cHes sc c nm r).map (h :: ·)) = some l from h)
    obtain ⟨l', h3, rfl⟩ := Option.map_eq_some_iff.mp h2
    obtain ⟨i1, i2, i3⟩ := hes_ok S hi hn hz hf h3
    have hs : starred e = false := by
      cases e <;> first | rfl | (exfalso; revert h1; unfold cHe; exact fun z => nomatch z)
    have st : starEach (e :: r) X.env = (false, eval e X.env) :: starEach r X.env := star1 hs
    refine ⟨pa_imp (pa_cons (he_ok S hi hn h1 hz hf) i1 st) fun σ H Q ⟨x, hx, q⟩ => ⟨x, hx, x, hx, q⟩, ?_, congrArg (· + 1) i3⟩
    show (!starred e && r.all fun x => !starred x) = true
    rw [hs]
    exact i2
/-- what a clause's suite reads -/
def tHb (XR : XRel) (i0 : Nat) (jn : Option Nat) (b : Hb) (a : Addr) (cv : Value) (dx : Option Addr) : TS := fun D σ H => ∃ x, HeldX XR i0 jn a cv dx x σ H ∧ match b with
  | .ret d => D.rt (conV d) H
  | .retl l => l.length ≤ sizeLine ∧ ∀ p, H p = none → D.rt (.ref p) (upd H p (.lst (l.map (heV x))))
  | .set k d => D.nx (σ.set k (some (conV d))) H
theorem hb_ok {slot : Str → Option Nat} (S : Suit X sc cs XR slot) (hi : cs[i0]? = some c) (hn : NmAt X nm jn) {suite : List Stmt} {b : Hb} (hc : cHb slot sc c nm suite = some b) :
    (∃ b0 r, suite = b0 :: r) ∧ (∀ k d, b = .set k d → ∀ (G : Nat → Option Addr) (Z : Set1) (H : Hp), Rp G Z H d (conV d)) ∧ (∀ d, b = .ret d → ∀ (G : Nat → Option Addr) (Z : Set1) (H : Hp), Rp G Z H d (conV d)) ∧
    ∀ (a : Addr) (oe : Obj) (cv : Value) (dx : Option Addr) (pn : List (Addr × Obj)), Zc cv dx oe → (∃ vs, oe.data = .fields vs) → PSs (X.suite a ((a, oe) :: pn)) suite (tHb XR i0 jn b a cv dx) := by
  unfold cHb at hc
  split at hc
  · rename_i kk j p pos
    obtain ⟨d, h1, rfl⟩ := Option.map_eq_some_iff.mp hc
    refine ⟨⟨_, _, rfl⟩, fun k d' h => (nomatch h), fun d' h => (by cases h; exact fun G Z H => (con_ok (X := X) (j := 0) (pos := pos) h1).2 G Z H), fun a oe cv dx pn hz hf => pss_imp (pss_one (ps_ret (con_ok h1).1)) fun D σ H ⟨x, _, q⟩ => q⟩
  · rename_i es p pos
    obtain ⟨l, h1, rfl⟩ := Option.map_eq_some_iff.mp hc
    refine ⟨⟨_, _, rfl⟩, fun k d' h => (nomatch h), fun d' h => (nomatch h), fun a oe cv dx pn hz hf => ?_⟩
    obtain ⟨g1, g2, g3⟩ := hes_ok (a := a) (oe := oe) (pn := pn) S hi hn hz hf h1
    refine pss_imp (pss_one (ps_ret (pe_lst g1))) fun D σ H ⟨x, hx, q1, q2⟩ => ⟨x, hx, by rw [List.length_map]; exact q1, q2⟩
  · rename_i y py kk j p pos
    by_cases q : (plainName y && sto sc y) = true
    · rw [if_pos q] at hc
      obtain ⟨q1, q2⟩ := Bool.and_eq_true_iff.mp q
      obtain ⟨k, h1, h2⟩ := Option.bind_eq_some_iff.mp hc
      obtain ⟨d, h3, rfl⟩ := Option.map_eq_some_iff.mp h2
      refine ⟨⟨_, _, rfl⟩, fun k d' h => (by cases h; exact fun G Z H => (con_ok (X := X) (j := 0) (pos := pos) h3).2 G Z H), fun d' h => (nomatch h), fun a oe cv dx pn hz hf => ?_⟩
      have hl : Loc X.env.scope y := by rw [S.sc]; exact sto_at q2
      exact pss_imp (pss_one (ps_set (X := X.suite a ((a, oe) :: pn)) S.nd (S.sl y k h1) hl (con_ok h3).1 rfl (.inl (S.fn y)))) fun D σ H ⟨x, _, q⟩ => q
    · rw [if_neg q] at hc; cases hc
  · cases hc
theorem hesV_ok {x : Ex} {G : Nat → Option Addr} {Z : Set1} {H : Hp} {slot : Str → Option Nat} {sc : Scope} {c : Cl} {nm : Option Str} : ∀ {es : List Expr} {l : List He} {ds : List D}, cHes sc c nm es = some l → hesD x l = some ds → Rps G Z H ds (l.map (heV x))
  | [], l, ds, h, h2 => by cases h; cases h2; exact .nil
  | e :: r, l, ds, h, h2 => by
    obtain ⟨he, h1, h3⟩ := Option.bind_eq_some_iff.mp (show (cHe sc c nm e).bind (fun h => (cHes sc c nm r).map (h :: ·)) = some l from h)
    obtain ⟨l', h4, rfl⟩ := Option.map_eq_some_iff.mp h3
    obtain ⟨d, h5, h6⟩ := Option.bind_eq_some_iff.mp (show (heD x he).bind (fun d => (hesD x l').map (d :: ·)) = some ds from h2)
    obtain ⟨ds', h7, rfl⟩ := Option.map_eq_some_iff.mp h6
    refine .cons ?_ (hesV_ok (slot := slot) h4 h7)
    cases he with
    | cst d' =>
      cases h5
      unfold cHe at h1
      split at h1
      · rename_i kk j p
        obtain ⟨d2, g1, g2⟩ := Option.map_eq_some_iff.mp h1
        cases g2
        unfold cCon at g1
        split at g1
        · cases g1; exact .non
        · cases g1; exact .bl _
        · cases g1; exact .int _
        · rename_i s
          by_cases q : PyData.strOk s = true
          · rw [if_pos q] at g1; cases g1; exact .str s q
          · rw [if_neg q] at g1; cases g1
        · cases g1
      · split at h1
        · cases h1
        · cases h1
      · split at h1
        · cases h1
        · cases h1
      · cases h1
    | isv b => cases h5; exact .bl b
    | fld =>
      have h5' : (match x.l with
        | [.int n] => some (D.int n)
        | _ => none) = some d := h5
      show Rp G Z H d (match x.l with
        | [.int n] => V.int n
        | _ => .non)
      split at h5'
      · rename_i n hx
        cases h5'
        exact .int n
      · cases h5'
end
section
variable {X : Cx} {G : Nat → Option Addr} {Z : Set1} {XR : XRel} {W : WX} {C : Calls} {pos : Pos} {cs : List Cl} {sc : Scope}
def setN (σ : L2.St) (a : Addr) : Option Nat → L2.St
  | none => σ
  | some j => σ.set j (some (.ref a))
theorem hb_list {slot : Str → Option Nat} {c : Cl} {nm : Option Str} {suite : List Stmt} {l : List He} (hc : cHb slot sc c nm suite = some (.retl l)) : ∃ es, cHes sc c nm es = some l := by
  unfold cHb at hc
  split at hc
  · obtain ⟨d, _, h2⟩ := Option.map_eq_some_iff.mp hc
    cases h2
  · rename_i es _ _
    obtain ⟨l', h1, h2⟩ := Option.map_eq_some_iff.mp hc
    cases h2
    exact ⟨es, h1⟩
  · rename_i y _ _ _ _ _
    by_cases q : (plainName y && sto sc y) = true
    · rw [if_pos q] at hc
      obtain ⟨k, _, h2⟩ := Option.bind_eq_some_iff.mp hc
      obtain ⟨d, _, h3⟩ := Option.map_eq_some_iff.mp h2
      cases h3
    · rw [if_neg q] at hc; cases hc
  · cases hc
/-- a clause's body -/
def hbF (x : Ex) (e : Env) (jn : Option Nat) : Hb → Fl
  | .ret d => .rt false d (offN e jn)
  | .retl l => (match hesD x l with
    | some ds => if ds.length ≤ lim then .rt true (.lst ds) (offN e jn) else .st
    | none => .st)
  | .set j d => .nx (offN ((offN e jn).set j (.pu d)) jn)
theorem eh_cons {i : Nat} {jn : Option Nat} {b : Hb} {h : Lt.S} {x : Ex} {e : Env} : eh (.hcons i jn b h) x e = if x.c == i then (if okN e jn then hbF x e jn b else .st) else eh h x e := by
  cases b <;> rfl
/-- one clause -/
theorem go_ok {slot : Str → Option Nat} (S : Suit X sc cs XR slot) {i0 : Nat} {c : Cl} {nm : Option Str} {jn : Option Nat} {suite : List Stmt} {b : Hb} (hi : cs[i0]? = some c) (hn : NmAt X nm jn) (hc : cHb slot sc c nm suite = some b)
    (b2 : ∀ k d, b = .set k d → ∀ (G : Nat → Option Addr) (Z : Set1) (H : Hp), Rp G Z H d (conV d)) (b3 : ∀ d, b = .ret d → ∀ (G : Nat → Option Addr) (Z : Set1) (H : Hp), Rp G Z H d (conV d))
    {x : Ex} {e : Env} {σ : L2.St} {H : Hp} {cv : Value} {dx : Option Addr} {D : Ends} {A : Value} (rel : Rel G Z e σ H) (xr : XR x cv dx H) (hx : x.c = i0)
    (q : FinS G Z XR W e σ H (if okN e jn then hbF x e jn b else .st) D) : (Cla.mk A jn (tHb XR i0 jn b)).go cv dx D σ H := by
  have ho : okN e jn = true := Classical.byContradiction fun z => by rw [if_neg z] at q; exact q
  rw [if_pos ho] at q
  -- the frame with the exception in its slot
  have frame : ∀ a : Addr, ∃ σ1, σ1 = setN σ a jn ∧ Rel G Z (offN e jn) σ1 H ∧ Stp e σ H (offN e jn) σ1 H ∧ AtX jn a σ1 := fun a => by
    cases jn with
    | none => exact ⟨σ, rfl, rel, .refl _ _ _, trivial⟩
    | some j =>
      obtain ⟨l1, l2⟩ := set_low (i := j) (x := .no) (y := some (V.ref a)) rel (.inl rfl)
      exact ⟨_, rfl, l1, l2, List.getElem?_set_self (by rw [← rel.len]; exact of_decide_eq_true ho)⟩
  have body : ∀ (a : Addr) (D' : Ends) (σ1 : L2.St), Rel G Z (offN e jn) σ1 H → Stp e σ H (offN e jn) σ1 H → AtX jn a σ1 → H a = none → D'.rt = D.rt → (∀ j d, b = .set j d → D'.nx (σ1.set j (some (conV d))) H) → tHb XR i0 jn b a cv dx D' σ1 H := fun a D' σ1 rel1 st1 at1 na hr hnx => by
    refine ⟨x, ⟨at1, xr, hx⟩, ?_⟩
    cases b with
    | ret d =>
      show D'.rt (conV d) H
      rw [hr]
      exact q (conV d) σ1 H rel1 st1 (b3 d rfl G _ H)
    | retl l =>
      show l.length ≤ sizeLine ∧ ∀ p, H p = none → D'.rt (.ref p) (upd H p (.lst (l.map (heV x))))
      have q2 : FinS G Z XR W e σ H (match hesD x l with
        | some ds => if ds.length ≤ lim then .rt true (.lst ds) (offN e jn) else .st
        | none => .st) D := q
      cases hd : hesD x l with
      | none => rw [hd] at q2; exact q2.elim
      | some ds =>
        rw [hd] at q2
        have q3 : FinS G Z XR W e σ H (if ds.length ≤ lim then .rt true (.lst ds) (offN e jn) else .st) D := q2
        by_cases hl : ds.length ≤ lim
        · rw [if_pos hl] at q3
          -- the items
          have hes := hb_list hc
          obtain ⟨es, hes⟩ := hes
          have r2 : ∀ Z' : Set1, Rps G Z' H ds (l.map (heV x)) := fun Z' => hesV_ok (slot := slot) hes hd
          have hlen : l.length = ds.length := by
            have := (r2 (fun _ => False)).length
            rw [List.length_map] at this
            exact this.symm
          refine ⟨by rw [hlen, ← lim_eq]; exact hl, fun p hp => ?_⟩
          rw [hr]
          have n : New H (upd H p (.lst (l.map (heV x)))) := New.upd hp
          exact q3 (.ref p) σ1 _ (rel1.new n) (st1.trans (Stp.new n)) ⟨p, rfl, .inl hp, fun z => rel.dom p z hp, ⟨_, upd_same, (r2 _).step (n.keeps _)⟩, rel1.away hp n (by rw [upd_same]; exact fun z => nomatch z)⟩
        · rw [if_neg hl] at q3
          exact q3.elim
    | set k d =>
      show D'.nx (σ1.set k (some (conV d))) H
      exact hnx k d rfl
  intro a na
  obtain ⟨σ1, e1, rel1, st1, at1⟩ := frame a
  cases jn with
  | none =>
    subst e1
    refine body a D σ1 rel1 st1 at1 na rfl fun j d hb => ?_
    subst hb
    obtain ⟨l1, l2⟩ := set_low (i := j) (x := .pu d) (y := some (conV d)) rel1 (.inr ⟨d, _, rfl, rfl, b2 j d rfl G _ H⟩)
    exact q _ H l1 (st1.trans l2)
  | some i =>
    subst e1
    refine body a (offE i D) _ rel1 st1 at1 na rfl fun j d hb => ?_
    subst hb
    obtain ⟨l1, l2⟩ := set_low (i := j) (x := .pu d) (y := some (conV d)) rel1 (.inr ⟨d, _, rfl, rfl, b2 j d rfl G _ H⟩)
    obtain ⟨l3, l4⟩ := set_low (i := i) (x := .no) (y := none) l1 (.inl rfl)
    exact q _ H l3 ((st1.trans l2).trans l4)
/-- all clauses -/
theorem hs_ok {slot : Str → Option Nat} (S : Suit X sc cs XR slot) : ∀ {hds : List ExceptHandler} {h : Lt.S}, cHs slot sc cs hds = some h → ∃ l, Clas X hds l ∧ ∀ (x : Ex) (e : Env) (σ : L2.St) (H : Hp) (cv : Value) (dx : Option Addr) (D : Ends), Rel G Z e σ H → XR x cv dx H → FinS G Z XR W e σ H (eh h x e) D → wClas X.K W D l cv dx σ H
  | [], h, hc => by
    cases hc
    exact ⟨[], .nil, fun x e σ H cv dx D rel xr q => q cv dx σ H rel (.refl _ _ _) xr⟩
  | .ExceptHandler ty nm suite hp :: r, h, hc => by
    obtain ⟨xn, h1, h2⟩ := Option.bind_eq_some_iff.mp hc
    obtain ⟨⟨i, c⟩, hcl, hc2⟩ := Option.bind_eq_some_iff.mp h2
    obtain ⟨xp, rfl⟩ := exName_at h1
    have gl : ∀ {y : Str}, glo sc y = true → Gl X y := fun {y} h => by
      show X.env.scope.names.lookup y = _
      rw [S.sc]
      exact glo_at h
    obtain ⟨c1, c2⟩ := clIx_at hcl
    obtain ⟨A, k⟩ := S.ex.cls i c c1
    by_cases q : (plainName xn && glo sc xn) = true
    · rw [if_pos q] at hc2
      obtain ⟨q1, q2⟩ := Bool.and_eq_true_iff.mp q
      have names : Names X xn (.ref A) := ⟨gl q2, (plain_at q1).1, .inl (by rw [← c2]; exact k.m)⟩
      have fin : ∀ (jn : Option Nat) (b : Hb) (h' : Lt.S), NmAt X nm jn → cHb slot sc c nm suite = some b → cHs slot sc cs r = some h' → h = .hcons i jn b h' →
          ∃ l, Clas X (.ExceptHandler (some (.Name xn xp)) nm suite hp :: r) l ∧ ∀ (x : Ex) (e : Env) (σ : L2.St) (H : Hp) (cv : Value) (dx : Option Addr) (D : Ends), Rel G Z e σ H → XR x cv dx H → FinS G Z XR W e σ H (eh h x e) D → wClas X.K W D l cv dx σ H := fun jn b h' hn hb hr eh' => by
        subst eh'
        obtain ⟨l, L1, L2⟩ := hs_ok S hr
        obtain ⟨⟨b0, rr, rfl⟩, B2, B3, B4⟩ := hb_ok S c1 hn hb
        have nat : NameAt X nm jn := by
          cases nm with
          | none => cases jn with
            | none => trivial
            | some j => exact hn.elim
          | some n => cases jn with
            | none => exact hn.elim
            | some j => exact ⟨hn.1, hn.2.1⟩
        refine ⟨⟨.ref A, jn, tHb XR i jn b⟩ :: l, .cons names nat B4 L1, fun x e σ H cv dx D rel xr q => ?_⟩
        have xr' := xr
        rw [S.ex.xr] at xr'
        obtain ⟨c', A', g1, g2, g3, _⟩ := xr'
        obtain ⟨A2, k2⟩ := S.ex.cls x.c c' g1
        have ea : A2 = A' := by
          have z := k2.m
          rw [g2] at z
          cases z
          rfl
        subst ea
        have ex := k2.ex i c A c1 k.m
        rw [g3]
        refine ⟨(x.c == i), ex, fun hx => ?_, fun hx => ?_⟩
        · have hx' : x.c = i := by simpa using hx
          rw [← g3]
          rw [eh_cons, if_pos hx] at q
          exact go_ok S c1 hn hb B2 B3 rel xr hx' q
        · rw [← g3]
          rw [eh_cons, if_neg (by rw [hx]; exact Bool.false_ne_true)] at q
          exact L2 x e σ H cv dx D rel xr q
      cases nm with
      | none =>
        obtain ⟨b, h3, h4⟩ := Option.bind_eq_some_iff.mp hc2
        obtain ⟨h', h5, rfl⟩ := Option.map_eq_some_iff.mp h4
        exact fin none b h' trivial h3 h5 rfl
      | some n =>
        have hc3 : (if (plainName n && locN sc n) = true then (slot n).bind fun j => (cHb slot sc c (some n) suite).bind fun b => (cHs slot sc cs r).map (Lt.S.hcons i (some j) b) else none) = some h := hc2
        by_cases z : (plainName n && locN sc n) = true
        · rw [if_pos z] at hc3
          obtain ⟨z1, z2⟩ := Bool.and_eq_true_iff.mp z
          obtain ⟨j, g1, g2⟩ := Option.bind_eq_some_iff.mp hc3
          obtain ⟨b, g3, g4⟩ := Option.bind_eq_some_iff.mp g2
          obtain ⟨h', g5, rfl⟩ := Option.map_eq_some_iff.mp g4
          refine fin (some j) b h' ⟨S.sl n j g1, ?_, z1⟩ g3 g5 rfl
          rw [S.sc]
          unfold locN at z2
          split at z2
          · assumption
          · cases z2
        · rw [if_neg z] at hc3; cases hc3
    · rw [if_neg q] at hc2; cases hc2
theorem sS_try {slot : Str → Option Nat} (S : Suit X sc cs XR slot) (hs : X.stack = X.env :: X.outer) (hf : X.env.frame = some X.env.locals) (tk : Takes X W) {body : List Stmt} {h0 : ExceptHandler} {hds : List ExceptHandler} {b h : Lt.S} (hc : cHs slot sc cs (h0 :: hds) = some h)
    (hb : ∀ (W : WX) (pn : List (Addr × Obj)) (xe : Value → Shared → Prop), Takes (X.tr pn xe) W → PassesOwn (model X.prog X.w) X.A X.env xe → PSs (X.tr pn xe) body (tS G Z XR W (es C b))) :
    PS X (.Try body (h0 :: hds) [] [] pos) (tS G Z XR W (es C (.try b h))) := by
  obtain ⟨l, L1, L2⟩ := hs_ok (G := G) (Z := Z) (W := W) S hc
  refine ps_imp (ps_clas hs hf S.nd tk (tb := fun W => tS G Z XR W (es C b)) hb L1) fun D σ H ⟨e, rel, q⟩ => ⟨e, rel, ?_⟩
  unfold es at q
  cases hE : es C b e with
  | ex x e1 =>
    rw [hE] at q
    exact fun cv dx σ' H' rel' st' xr => L2 x e1 σ' H' cv dx D rel' xr (FinS.from q st')
  | _ => rw [hE] at q; exact q
end
end Lt
end
section
set_option maxRecDepth 100000
namespace Lt
open PySem PySem.Spec PyProof.Rows L2
/-! ### from the model's text to the evaluator's -/
structure Fn where
  name : Str
  ix : Nat
  io : List Bool
  ps : List Str
structure Ct where
  N : List Str
  tab : List Fn
  mu : List Str
  cls : List Cl
def Ct.slot (cx : Ct) (x : Str) : Option Nat := cx.N.findIdx? (· == x)
def Ct.fn (cx : Ct) (x : Str) : Option Fn := cx.tab.find? fun f => f.name == x
def opOf : Operator → Option Op
  | .Add => some .add
  | .Sub => some .sub
  | .Mult => some .mul
  | .FloorDiv => some .fdiv
  | .Mod => some .mod
  | .Pow => some .pow
  | _ => none
def cmOf : CmpOp → Option Cm
  | .Eq => some .eq
  | .NotEq => some .ne
  | .Lt => some .lt
  | .LtE => some .le
  | .Gt => some .gt
  | .GtE => some .ge
  | .In => some .isin
  | .NotIn => some .notin
  | .Is => some .isn
  | .IsNot => some .notn
def sliced : Expr → Bool
  | .Slice _ _ _ _ => true
  | _ => false
/-- a built-in thing that is called, by its name and how many arguments -/
def bltOf (x : Str) (n : Nat) : Option Bl :=
  if x == ("len" : Str) && n == 1 then some .len else
  if x == ("all" : Str) && n == 1 then some .all else
  if x == ("any" : Str) && n == 1 then some .any else
  if x == ("tuple" : Str) && n == 1 then some .tuple else
  if x == ("list" : Str) && n == 1 then some .list else
  if x == ("int" : Str) && n == 1 then some .int else
  if x == ("abs" : Str) && n == 1 then some .abs else
  if x == ("min" : Str) && n == 1 then some .min1 else
  if x == ("min" : Str) && n == 2 then some .min2 else
  if x == ("max" : Str) && n == 1 then some .max1 else
  if x == ("max" : Str) && n == 2 then some .max2 else
  if x == ("sum" : Str) && n == 1 then some .sum else
  if x == ("sorted" : Str) && n == 1 then some .sorted else none
def tyOf (x : Str) : Option Ty :=
  if x == ("int" : Str) then some .int else
  if x == ("bool" : Str) then some .bool else
  if x == ("str" : Str) then some .str else
  if x == ("list" : Str) then some .list else
  if x == ("tuple" : Str) then some .tuple else none
def cConst : Const → E
  | .none => .cst .non
  | .bool b => .cst (.bl b)
  | .int i => .cst (.int i)
  | .str x => if PyData.strOk x then .cst (.str x) else .bad
  | _ => .bad
def cName (cx : Ct) (sc : Scope) (x : Str) : E :=
  if plainName x then (if vis sc x then (match cx.slot x with
    | some i => .var i
    | none => .bad) else if glo sc x then (match cx.fn x with
    | some f => .cst (.fn f.ix)
    | none => .bad) else .bad) else .bad
/-! a target's names -/
mutual
def cT (cx : Ct) (sc : Scope) : Nat → Expr → Option T
  | 0, _ => none
  | n + 1, .Name x _ => if plainName x && sto sc x then (cx.slot x).map .nm else none
  | n + 1, .Tuple es _ _ => if noStars es then (cTs cx sc n es).map .tp else none
  | _, _ => none
def cTs (cx : Ct) (sc : Scope) : Nat → List Expr → Option T
  | 0, _ => none
  | n + 1, [] => some .nil
  | n + 1, x :: r => match cT cx sc n x, cTs cx sc n r with
    | some t, some u => some (.cons t u)
    | _, _ => none
end
def nodupS : List Str → Bool
  | [] => true
  | x :: r => !r.contains x && nodupS r
/-- nothing is changed by it -/
def Fn.calm (g : Fn) (n : Nat) : Bool := g.io == List.replicate n false
def oks (cx : Ct) (n : Nat) : List Nat := (cx.tab.filter fun g => g.calm n).map (·.ix)
/-- the scope of a comprehension's block -/
def blkSc (scope sc : Scope) : Scope :=
  { scope with names := scope.names.map fun (n, k) => if (k == .free && sc.kind == .function && sc.names.lookup n == some .cell) then (n, .cell) else (n, k) }
def owns (cx : Ct) : List (Str × NameKind) → List (Str × Nat)
  | [] => []
  | (x, k) :: r => match k, cx.slot x with
    | .local, some i => (x, i) :: owns cx r
    | .cell, some i => (x, i) :: owns cx r
    | _, _ => owns cx r
def nmOf : Expr → Option Str
  | .Name x _ => some x
  | _ => none
mutual
def cE (cx : Ct) : Nat → Scope → Expr → E
  | 0, _, _ => .bad
  | n + 1, sc, x => match x with
    | .Name y _ => cName cx sc y
    | .Constant c _ _ => cConst c
    | .Tuple es _ _ => if noStars es then .tup (cL cx n sc es) else .bad
    | .List es _ => if noStars es then .lst (cL cx n sc es) else .bad
    | .BinOp a op b _ => match opOf op with
      | some o => .bin o (cE cx n sc a) (cE cx n sc b)
      | none => .bad
    | .UnaryOp .Not a _ => .not (cE cx n sc a)
    | .UnaryOp .USub a _ => .neg (cE cx n sc a)
    | .BoolOp .And es _ => cB cx n sc true es
    | .BoolOp .Or es _ => cB cx n sc false es
    | .IfExp c a b _ => .ite (cQ cx n sc c) (cE cx n sc a) (cE cx n sc b)
    | .Compare a [o] [b] _ => match cmOf o with
      | some o' => if behindInMarks o b then .bad else .cmp o' (cE cx n sc a) (cE cx n sc b)
      | none => .bad
    | .Compare a [o, p] [b, c] _ => match cmOf o, cmOf p with
      | some o', some p' => if lastMarks [o, p] [b, c] then .bad else .chain (cE cx n sc a) o' (cE cx n sc b) p' (cE cx n sc c)
      | _, _ => .bad
    | .Subscript a (.Slice lo hi none _) _ => .sl (cE cx n sc a) (cO cx n sc lo) (cO cx n sc hi)
    | .Subscript a b _ => if sliced b then .bad else .ix (cE cx n sc a) (cE cx n sc b)
    | .Call (.Name f _) as [] _ => cC cx n sc f as
    | .Call (.Attribute o m apos) as [] cpos => cM cx n sc o m apos as cpos
    | .Call (.Name f _) [] kws _ => cK cx n sc f kws
    | .Call (.Subscript a b p) as [] _ => cV cx n sc (.Subscript a b p) as
    | .Call (.IfExp c a b p) as [] _ => cV cx n sc (.IfExp c a b p) as
    | .ListComp elt [⟨tg, iter, ifs, 0⟩] scope _ => cLC cx n sc elt tg iter ifs scope
    | _ => .bad
def cL (cx : Ct) : Nat → Scope → List Expr → E
  | 0, _, _ => .bad
  | n + 1, sc, [] => .nil
  | n + 1, sc, x :: r => .cons (cE cx n sc x) (cL cx n sc r)
def cB (cx : Ct) : Nat → Scope → Bool → List Expr → E
  | 0, _, _, _ => .bad
  | n + 1, sc, k, [] => .bad
  | n + 1, sc, k, [x] => cE cx n sc x
  | n + 1, sc, true, x :: y :: r => .and (cE cx n sc x) (cB cx n sc true (y :: r))
  | n + 1, sc, false, x :: y :: r => .or (cE cx n sc x) (cB cx n sc false (y :: r))
/-- a test -/
def cQ (cx : Ct) : Nat → Scope → Expr → E
  | 0, _, _ => .bad
  | n + 1, sc, x => match x with
    | .UnaryOp .Not a _ => .not (cQ cx n sc a)
    | .BoolOp .And es _ => cW cx n sc true es
    | .BoolOp .Or es _ => cW cx n sc false es
    | .IfExp _ _ _ _ => .bad
    | .Compare a [o] [b] _ => match cmOf o with
      | some o' => if behindInMarks o b then .bad else .cmp o' (cE cx n sc a) (cE cx n sc b)
      | none => .bad
    | .Compare _ _ _ _ => .bad
    | x => cE cx n sc x
def cW (cx : Ct) : Nat → Scope → Bool → List Expr → E
  | 0, _, _, _ => .bad
  | n + 1, sc, k, [] => .bad
  | n + 1, sc, k, [x] => cQ cx n sc x
  | n + 1, sc, true, x :: y :: r => .and (cQ cx n sc x) (cW cx n sc true (y :: r))
  | n + 1, sc, false, x :: y :: r => .or (cQ cx n sc x) (cW cx n sc false (y :: r))
def cO (cx : Ct) : Nat → Scope → Option Expr → E
  | 0, _, _ => .bad
  | n + 1, sc, none => .cst .non
  | n + 1, sc, some x => cE cx n sc x
/-- f(..) -/
def cC (cx : Ct) : Nat → Scope → Str → List Expr → E
  | 0, _, _, _ => .bad
  | n + 1, sc, f, as => if plainName f && glo sc f && noStars as then (match cx.fn f with
    | some g => if as.length == g.ps.length then .call g.ix g.io (cL cx n sc as) else .bad
    | none => if f == ("isinstance" : Str) then (match as with
        | [y, .Name t _] => if glo sc t && (cx.fn t).isNone then (match tyOf t with
          | some t' => .isi (cE cx n sc y) [t']
          | none => .bad) else .bad
        | [y, .Tuple [.Name t _, .Name u _] _ _] => if glo sc t && glo sc u && (cx.fn t).isNone && (cx.fn u).isNone then (match tyOf t, tyOf u with
          | some t', some u' => .isi (cE cx n sc y) [t', u']
          | _, _ => .bad) else .bad
        | _ => .bad)
      else match as with
        | [.Call (.Name g _) [y] [] _] =>
          if f == ("len" : Str) && g == ("set" : Str) && glo sc g && (cx.fn g).isNone && !starred y then .blt .lenset (.cons (cE cx n sc y) .nil)
          else if f == ("list" : Str) && g == ("range" : Str) && glo sc g && (cx.fn g).isNone && !starred y then .blt .rlist1 (.cons (cE cx n sc y) .nil)
          else match bltOf f 1 with
            | some b => .blt b (cL cx n sc as)
            | none => .bad
        | _ => match bltOf f as.length with
          | some b => .blt b (cL cx n sc as)
          | none => .bad) else .bad
/-- f(k = v, ..) -/
def cK (cx : Ct) : Nat → Scope → Str → List Keyword → E
  | 0, _, _, _ => .bad
  | n + 1, sc, f, kws => if plainName f && glo sc f then (match cx.fn f, kwNames kws with
    | some g, some ks => if kwOk g.ps ks && nodupS ks && g.calm g.ps.length then .callk g.ix (placesOf g.ps ks) (cKL cx n sc kws) else .bad
    | _, _ => .bad) else .bad
def cKL (cx : Ct) : Nat → Scope → List Keyword → E
  | 0, _, _ => .bad
  | n + 1, sc, [] => .nil
  | n + 1, sc, ⟨_, x, _⟩ :: r => .cons (cE cx n sc x) (cKL cx n sc r)
/-- a value is called -/
def cV (cx : Ct) : Nat → Scope → Expr → List Expr → E
  | 0, _, _, _ => .bad
  | n + 1, sc, f, as => if noStars as && decide (0 < as.length) then .calv (oks cx as.length) as.length (cE cx n sc f) (cL cx n sc as) else .bad
/-- o.m(..) -/
def cM (cx : Ct) : Nat → Scope → Expr → Str → Pos → List Expr → Pos → E
  | 0, _, _, _, _, _, _ => .bad
  | n + 1, sc, o, m, apos, as, cpos => if apos.endLine == cpos.line && noStars as then (match nmOf o, as with
    | some v, [] => (match cx.slot v with
      | some i => if vis sc v && plainName v && m == ("pop" : Str) && cx.mu.contains v then .pop i else .bad
      | none => .bad)
    | some v, [y] => if m == ("count" : Str) then .cnt (cE cx n sc o) (cE cx n sc y) else if m == ("index" : Str) then .idx (cE cx n sc o) (cE cx n sc y) else (match cx.slot v with
      | some i => if vis sc v && plainName v then (if m == ("append" : Str) then .app i (cE cx n sc y) else if m == ("extend" : Str) then .ext i (cE cx n sc y) else if m == ("pop" : Str) then .popa i (cE cx n sc y) else .bad) else .bad
      | none => .bad)
    | none, [y] => (match o with
      | .Subscript _ _ _ => if m == ("count" : Str) then .cnt (cE cx n sc o) (cE cx n sc y) else if m == ("index" : Str) then .idx (cE cx n sc o) (cE cx n sc y) else .bad
      | _ => .bad)
    | _, _ => .bad) else .bad
/-- an iterable -/
def cI (cx : Ct) : Nat → Scope → Expr → Expr → Option (It × E)
  | 0, _, _, _ => none
  | n + 1, sc, tg, it => match it with
    | .Call (.Name f _) [y] [] _ =>
      if f == ("range" : Str) && glo sc f && (cx.fn f).isNone && !starred y then some (.rg1, .cons (cE cx n sc y) .nil)
      else if f == ("enumerate" : Str) && glo sc f && (cx.fn f).isNone && !starred y then (match tg with
        | .Tuple _ _ _ => some (.en, .cons (cE cx n sc y) .nil)
        | _ => none)
      else some (.pl, .cons (cE cx n sc it) .nil)
    | .Call (.Name f _) [y, z] [] _ =>
      if f == ("range" : Str) && glo sc f && (cx.fn f).isNone && !starred y && !starred z then some (.rg2, cL cx n sc [y, z])
      else if f == ("zip" : Str) && glo sc f && (cx.fn f).isNone && !starred y && !starred z then (match tg with
        | .Tuple _ _ _ => some (.zp, cL cx n sc [y, z])
        | _ => none)
      else some (.pl, .cons (cE cx n sc it) .nil)
    | .Set _ _ _ => none
    | it => some (.pl, .cons (cE cx n sc it) .nil)
def cLC (cx : Ct) : Nat → Scope → Expr → Expr → Expr → List Expr → Scope → E
  | 0, _, _, _, _, _, _ => .bad
  | n + 1, sc, elt, tg, iter, ifs, scope =>
    if blkC cx.N sc scope (owns cx scope.names) then (match cT cx scope n tg, cI cx n sc tg iter, ifs with
      | some t, some (k, l), [] => if t.slots.all fun i => ((owns cx scope.names).map (·.2)).contains i then .comp (cE cx n (blkSc scope sc) elt) t ((owns cx scope.names).map (·.2)) k l (.cst (.bl true)) else .bad
      | some t, some (k, l), [c] => if t.slots.all fun i => ((owns cx scope.names).map (·.2)).contains i then .comp (cE cx n (blkSc scope sc) elt) t ((owns cx scope.names).map (·.2)) k l (cQ cx n (blkSc scope sc) c) else .bad
      | _, _, _ => .bad) else .bad
end
/-! statements -/
def cTgs (cx : Ct) (sc : Scope) : List Expr → Option (List (Nat × Bool))
  | [] => some []
  | .Name x _ :: r => if plainName x && sto sc x then (match cx.slot x, cTgs cx sc r with
    | some i, some ts => some ((i, cx.mu.contains x) :: ts)
    | _, _ => none) else none
  | _ :: _ => none
def nodupN : List (Nat × Bool) → Bool
  | [] => true
  | (i, _) :: r => !(r.any fun p => p.1 == i) && nodupN r
def augOf : Operator → Option Op
  | .Add => some .add
  | .Sub => some .sub
  | _ => none
/-- raise C(..) -/
def cR (cx : Ct) (sc : Scope) (fu : Nat) (x : Str) (as : List Expr) : S := match clIx cx.cls x with
  | some (i, c) => if plainName x && glo sc x then (match c.fld, as with
      | none, [] => .rais i .nil
      | some _, [y] => if starred y then .bad else .rais i (.cons (cE cx fu sc y) .nil)
      | _, _ => .bad) else .bad
  | none => .bad
mutual
def cS (cx : Ct) (sc : Scope) (fu : Nat) : Nat → Stmt → S
  | 0, _ => .bad
  | n + 1, s => match s with
    | .Assign [.Name x _] e _ => if plainName x && sto sc x then (match cx.slot x with
      | some i => .set i (cx.mu.contains x) (cE cx fu sc e)
      | none => .bad) else .bad
    | .Assign [.Tuple tgs _ _] (.Tuple es _ _) _ => if noStars es && tgs.length == es.length && decide (tgs.length ≤ 3) && decide (2 ≤ tgs.length) && (es.all (foldedForSure 8) || !(es.all (constantsAlone 8))) then (match cTgs cx sc tgs with
      | some ts => if nodupN ts then .par ts (cL cx fu sc es) else .bad
      | none => .bad) else .bad
    | .Assign [.Tuple tgs k p] e _ => match cT cx sc fu (.Tuple tgs k p) with
      | some t => .tset t (cE cx fu sc e)
      | none => .bad
    | .Assign [.Subscript (.Name v _) i _] e _ => if vis sc v && plainName v && !sliced i then (match cx.slot v with
      | some j => .six j (cE cx fu sc i) (cE cx fu sc e)
      | none => .bad) else .bad
    | .AugAssign (.Name x _) o e _ => if plainName x && sto sc x then (match cx.slot x, augOf o with
      | some i, some o' => .aug i o' (cE cx fu sc e)
      | _, _ => .bad) else .bad
    | .AugAssign (.Subscript (.Name v _) i _) o e _ => if vis sc v && plainName v && !sliced i then (match cx.slot v, augOf o with
      | some j, some o' => .aix j (cE cx fu sc i) o' (cE cx fu sc e)
      | _, _ => .bad) else .bad
    | .Expr x _ => match x with
      | .Call _ _ _ _ => .ex (cE cx fu sc x)
      | _ => .bad
    | .Return (some x) _ => .ret (cE cx fu sc x)
    | .If c xs ys _ => .ite (cQ cx fu sc c) (cSs cx sc fu n xs) (cSs cx sc fu n ys)
    | .While c xs [] _ => .wh (cQ cx fu sc c) (cSs cx sc fu n xs)
    | .For tg it xs [] _ => match cT cx sc fu tg, cI cx fu sc tg it with
      | some t, some (k, l) => .for t k l (cSs cx sc fu n xs)
      | _, _ => .bad
    | .Raise (some (.Call (.Name x _) as [] _)) none _ => cR cx sc fu x as
    | .Try xs (h :: hs) [] [] _ => (match cHs cx.slot sc cx.cls (h :: hs) with
      | some k => .try (cSs cx sc fu n xs) k
      | none => .bad)
    | .Pass _ => .pass
    | .Break _ => .brk
    | .Continue _ => .cont
    | _ => .bad
def cSs (cx : Ct) (sc : Scope) (fu : Nat) : Nat → List Stmt → S
  | 0, _ => .bad
  | n + 1, [] => .nil
  | n + 1, s :: r => .cons (cS cx sc fu n s) (cSs cx sc fu n r)
end
end Lt
end
section
set_option maxRecDepth 100000
namespace Lt
open PySem PySem.Spec PyProof.Rows L2
theorem nodupS_ok : ∀ {l : List Str}, nodupS l = true → l.Nodup
  | [], _ => List.nodup_nil
  | x :: r, h => by
    obtain ⟨h1, h2⟩ := Bool.and_eq_true_iff.mp (show (!r.contains x && nodupS r) = true from h)
    exact List.nodup_cons.mpr ⟨fun z => by simp [z] at h1, nodupS_ok h2⟩
def bltNames : List Str := ["len", "all", "any", "tuple", "list", "int", "abs", "min", "max", "sum", "sorted", "set", "range", "isinstance", "enumerate", "zip", "bool", "str"]
/-- what is known of a frame -/
structure Cok (cx : Ct) (sc : Scope) (G : Nat → Option Addr) (XR : XRel) (C : Calls) (X : Cx) : Prop where
  calm : X.calm = true
  N : X.N = cx.N
  nd : cx.N.Nodup
  sc : X.env.scope = sc
  un : X.A.units + 65 < cLine
  blt : ∀ x ∈ bltNames, cx.fn x = none → X.mg x = none
  fns : ∀ g ∈ cx.tab, ∃ f fd k, X.mg g.name = some (.ref f) ∧ G g.ix = some f ∧ PySem.W.keepIn X.K (.ref f) = true ∧ Binds X.K fd g.ps [] ∧ PlainFd fd g.ps ∧ FnOk X.prog X.w X.K X.mg X.base (CX X.prog X.w) k f fd g.ps (prom G XR C g.ix g.io) ∧ Room k X.A
  ex : Excs X cx.cls XR
  isi : X.mg "isinstance" = none
section
variable {cx : Ct} {sc : Scope} {G : Nat → Option Addr} {XR : XRel} {C : Calls} {X : Cx} {Z : Set1} {W : WX} {pos : Pos}
theorem pe_bad {x : Expr} : PE X x (tE G Z XR W (ev C .bad)) := ⟨fun pins s σ H Q I ⟨e, rel, q⟩ => by unfold ev at q; exact q.elim⟩
theorem pa_bad {x : List Expr} : PA X x (tL G Z XR W (evl C .bad)) := ⟨fun pos pins s σ H Q I ⟨e, rel, q⟩ => by unfold evl at q; exact q.elim⟩
theorem slot_at {x : Str} {i : Nat} (h : cx.slot x = some i) : cx.N[i]? = some x := by
  obtain ⟨h1, h2, _⟩ := List.findIdx?_eq_some_iff_getElem.mp h
  rw [List.getElem?_eq_getElem h1, eq_of_beq h2]
theorem fn_mem {x : Str} {g : Fn} (h : cx.fn x = some g) : g ∈ cx.tab := List.mem_of_find?_eq_some h
theorem fn_name {x : Str} {g : Fn} (h : cx.fn x = some g) : g.name = x := eq_of_beq (List.find?_some (p := fun f : Fn => f.name == x) h)
theorem Cok.fn (k : Cok cx sc G XR C X) {x : Str} {g : Fn} (h : cx.fn x = some g) : ∃ f fd n, X.mg x = some (.ref f) ∧ G g.ix = some f ∧ PySem.W.keepIn X.K (.ref f) = true ∧ Binds X.K fd g.ps [] ∧ PlainFd fd g.ps ∧ FnOk X.prog X.w X.K X.mg X.base (CX X.prog X.w) n f fd g.ps (prom G XR C g.ix g.io) ∧ Room n X.A := by
  obtain ⟨f, fd, n, h1, h2⟩ := k.fns g (fn_mem h)
  rw [fn_name h] at h1
  exact ⟨f, fd, n, h1, h2⟩
theorem Cok.gl (k : Cok cx sc G XR C X) {x : Str} (h : glo sc x = true) : Gl X x := by
  show X.env.scope.names.lookup x = _
  rw [k.sc]
  exact glo_at h
theorem Cok.vi (k : Cok cx sc G XR C X) {x : Str} (h : vis sc x = true) : Vis X.env.scope x := by
  rw [k.sc]
  exact vis_at h
theorem name_ok (k : Cok cx sc G XR C X) {x : Str} : PE X (.Name x pos) (tE G Z XR W (ev C (cName cx sc x))) := by
  unfold cName
  by_cases hp : plainName x = true
  · rw [if_pos hp]
    obtain ⟨p1, p2, p3⟩ := plain_at hp
    by_cases hv : vis sc x = true
    · rw [if_pos hv]
      cases hs : cx.slot x with
      | none => exact pe_bad
      | some i => exact sE_var (pe_var (by rw [k.N]; exact slot_at hs) (k.vi hv) p1 p2)
    · rw [if_neg hv]
      by_cases hg : glo sc x = true
      · rw [if_pos hg]
        cases hf : cx.fn x with
        | none => exact pe_bad
        | some g =>
          obtain ⟨f, fd, n, h1, h2, _⟩ := k.fn hf
          exact sE_cst (pe_glob (v := .ref f) (k.gl hg) h1 rfl p1) fun Z H => Rp.fn h2
      · rw [if_neg hg]; exact pe_bad
  · rw [if_neg hp]; exact pe_bad
theorem const_ok {c : Const} {j : Nat} : PE X (.Constant c j pos) (tE G Z XR W (ev C (cConst c))) := by
  cases c with
  | none => exact sE_cst pe_non fun Z H => .non
  | bool b => exact sE_cst pe_bl fun Z H => .bl b
  | int i => exact sE_cst pe_int fun Z H => .int i
  | str x =>
    show PE X _ (tE G Z XR W (ev C (if PyData.strOk x = true then .cst (.str x) else .bad)))
    by_cases h : PyData.strOk x = true
    · rw [if_pos h]; exact sE_cst pe_str fun Z H => .str x h
    · rw [if_neg h]; exact pe_bad
  | _ => exact pe_bad
/-- a target; ss: the scope whose names may be stored -/
theorem target_ok {ss : Scope} (k : Cok cx sc G XR C X) (loc1 : ∀ x, sto ss x = true → Loc X.env.scope x ∧ (X.fn x = true ∨ X.env.scope.names.lookup x = some .local)) : ∀ n, (∀ x t, cT cx ss n x = some t → PG X x (gT X.K t)) ∧ (∀ xs t, cTs cx ss n xs = some t → noStars xs = true → PGs X xs (gTs X.K t) ∧ (assignEach xs X.env).length = lenT t ∧ (assignEach xs X.env).findIdx? (·.1) = none)
  | 0 => ⟨fun x t h => (by unfold cT at h; cases h), fun xs t h _ => (by unfold cTs at h; cases h)⟩
  | n + 1 => by
    obtain ⟨ih1, ih2⟩ := target_ok k loc1 n
    refine ⟨fun x t h => ?_, fun xs t h hs => ?_⟩
    · unfold cT at h
      cases x with
      | Name y p =>
        have h' : (if (plainName y && sto ss y) = true then (cx.slot y).map .nm else none) = some t := h
        by_cases hc : (plainName y && sto ss y) = true
        · rw [if_pos hc] at h'
          obtain ⟨c1, c2⟩ := Bool.and_eq_true_iff.mp hc
          obtain ⟨l1, l2⟩ := loc1 y c2
          cases hsl : cx.slot y with
          | none => rw [hsl] at h'; cases h'
          | some i =>
            rw [hsl] at h'
            cases h'
            exact pg_name (by rw [k.N]; exact k.nd) (by rw [k.N]; exact slot_at hsl) l1 l2
        · rw [if_neg hc] at h'; cases h'
      | Tuple es kk p =>
        have h' : (if noStars es = true then (cTs cx ss n es).map .tp else none) = some t := h
        by_cases hc : noStars es = true
        · rw [if_pos hc] at h'
          cases ht : cTs cx ss n es with
          | none => rw [ht] at h'; cases h'
          | some u =>
            rw [ht] at h'
            cases h'
            obtain ⟨a1, a2, a3⟩ := ih2 es u ht hc
            exact pg_tup k.calm a1 a2 a3
        · rw [if_neg hc] at h'; cases h'
      | _ => cases h
    · unfold cTs at h
      cases xs with
      | nil => cases h; exact ⟨pgs_nil, rfl, rfl⟩
      | cons x r =>
        have h' : (match cT cx ss n x, cTs cx ss n r with
          | some t, some u => some (T.cons t u)
          | _, _ => none) = some t := h
        obtain ⟨s1, s2⟩ := stars_cons hs
        cases h1 : cT cx ss n x with
        | none => rw [h1] at h'; cases h'
        | some t1 =>
          cases h2 : cTs cx ss n r with
          | none => rw [h1, h2] at h'; cases h'
          | some u =>
            rw [h1, h2] at h'
            cases h'
            obtain ⟨a1, a2, a3⟩ := ih2 r u h2 s2
            have e : assignEach (x :: r) X.env = (false, assign x X.env) :: assignEach r X.env := by cases x <;> first | rfl | cases s1
            refine ⟨pgs_cons (ih1 x t1 h1) a1 (by rw [e]; rfl), by rw [e]; exact congrArg (· + 1) a2, ?_⟩
            rw [e, List.findIdx?_cons, a3]
            rfl
end
end Lt
end
section
set_option maxRecDepth 100000
namespace Lt
open PySem PySem.Spec PyProof.Rows L2
section
variable {cx : Ct} {sc : Scope} {G : Nat → Option Addr} {XR : XRel} {C : Calls} {X : Cx} {Z : Set1} {W : WX} {pos : Pos}
theorem op_ok {op : Operator} {o : Op} (h : opOf op = some o) : OpR X (binaryOp op) (r2 G (binD o)) := by
  cases op <;> cases h
  · exact oAdd
  · exact oSub
  · exact oMul
  · exact oMod
  · exact oPow
  · exact oDiv
theorem cm_ok (hu : X.A.units + 65 < cLine) {op : CmpOp} {o : Cm} (h : cmOf op = some o) : OpR X (compareOp op) (r2B G (cmpD o)) := by
  cases op <;> cases h
  · exact oEq hu
  · exact oNe hu
  · exact oLt
  · exact oLe
  · exact oGt
  · exact oGe
  · exact oIs
  · exact oIsn
  · exact oIn hu
  · exact oNin hu
/-- what the compiler's parts keep, at fuel n -/
structure All (cx : Ct) (G : Nat → Option Addr) (XR : XRel) (C : Calls) (n : Nat) : Prop where
  e : ∀ {sc X W}, Cok cx sc G XR C X → Takes X W → ∀ (x : Expr) (Z : Set1), PE X x (tE G Z XR W (ev C (cE cx n sc x)))
  l : ∀ {sc X W}, Cok cx sc G XR C X → Takes X W → ∀ (es : List Expr) (Z : Set1), noStars es = true → PA X es (tL G Z XR W (evl C (cL cx n sc es)))
  b : ∀ {sc X W}, Cok cx sc G XR C X → Takes X W → ∀ (k : Bool) (es : List Expr) (pos : Pos) (Z : Set1), PE X (.BoolOp (if k then .And else .Or) es pos) (tE G Z XR W (ev C (cB cx n sc k es)))
  q : ∀ {sc X W}, Cok cx sc G XR C X → Takes X W → ∀ (x : Expr) (Z : Set1), PT X x (tB2 G Z XR W fun e => testR (ev C (cQ cx n sc x) e))
  w : ∀ {sc X W}, Cok cx sc G XR C X → Takes X W → ∀ (k : Bool) (es : List Expr) (pos : Pos) (Z : Set1), PW X (.BoolOp (if k then .And else .Or) es pos) (tB2 G Z XR W fun e => testR (ev C (cW cx n sc k es) e))
  o : ∀ {sc X W}, Cok cx sc G XR C X → Takes X W → ∀ (x : Option Expr) (Z : Set1), PO X x (tO (G := G) (Z := Z) (XR := XR) (W := W) (ev C (cO cx n sc x)))
  c : ∀ {sc X W}, Cok cx sc G XR C X → Takes X W → ∀ (f : Str) (as : List Expr) (p pos : Pos) (Z : Set1), PE X (.Call (.Name f p) as [] pos) (tE G Z XR W (ev C (cC cx n sc f as)))
  kl : ∀ {sc X W}, Cok cx sc G XR C X → Takes X W → ∀ (kws : List Keyword) (Z : Set1), PK X kws (tL G Z XR W (evl C (cKL cx n sc kws)))
  k : ∀ {sc X W}, Cok cx sc G XR C X → Takes X W → ∀ (f : Str) (kws : List Keyword) (p pos : Pos) (Z : Set1), PE X (.Call (.Name f p) [] kws pos) (tE G Z XR W (ev C (cK cx n sc f kws)))
  v : ∀ {sc X W}, Cok cx sc G XR C X → Takes X W → ∀ (fe : Expr) (as : List Expr) (pos : Pos) (Z : Set1), (∀ e es, as = e :: es → eval (.Call fe (e :: es) [] pos) X.env = (do callWith pos (← eval fe X.env) [] (backTo pos (starEach (e :: es) X.env)) (backToKw pos (keywordEach [] X.env)))) → PE X (.Call fe as [] pos) (tE G Z XR W (ev C (cV cx n sc fe as)))
  m : ∀ {sc X W}, Cok cx sc G XR C X → Takes X W → ∀ (o : Expr) (m : Str) (apos : Pos) (as : List Expr) (cpos : Pos) (Z : Set1), PE X (.Call (.Attribute o m apos) as [] cpos) (tE G Z XR W (ev C (cM cx n sc o m apos as cpos)))
  i : ∀ {sc X W}, Cok cx sc G XR C X → Takes X W → ∀ (tg it : Expr) (k : It) (l : E) (Z : Set1), cI cx n sc tg it = some (k, l) → PI X tg it (fun σ H R => tL G Z XR W (evl C l) σ H fun vs H1 => rIt G k vs H1 R)
  lc : ∀ {sc X W}, Cok cx sc G XR C X → Takes X W → ∀ (elt tg iter : Expr) (ifs : List Expr) (scope : Scope) (pos : Pos) (Z : Set1), PE X (.ListComp elt [⟨tg, iter, ifs, 0⟩] scope pos) (tE G Z XR W (ev C (cLC cx n sc elt tg iter ifs scope)))
theorem pi_none {tg it : Expr} {k : It} {l : E} {t : TI} {o : Option (It × E)} (h : o = some (k, l)) (n : o = none) : PI X tg it t := by rw [n] at h; cases h
theorem pt_bad {x : Expr} : PT X x (tB2 G Z XR W fun e => testR (ev C .bad e)) := ⟨fun pins s σ H Q I ⟨e, rel, q⟩ => by unfold ev at q; exact q.elim⟩
theorem pw_bad {x : Expr} : PW X x (tB2 G Z XR W fun e => testR (ev C .bad e)) := ⟨fun wh pins s σ H Q I ⟨e, rel, q⟩ => by unfold ev at q; exact q.elim⟩
theorem po_bad {x : Option Expr} : PO X x (tO (G := G) (Z := Z) (XR := XR) (W := W) (ev C .bad)) := ⟨fun pins s σ H Q I ⟨e, rel, q⟩ => by unfold ev at q; exact q.elim⟩
theorem po_E {x : Expr} {f : Env → Out R} (h : PE X x (tE G Z XR W f)) : PO X (some x) (tO (G := G) (Z := Z) (XR := XR) (W := W) f) := by
  refine ⟨fun pins s σ H Q I hw => ?_⟩
  rw [evalPart_some]
  refine thn (h.run pins s σ H _ I hw) fun u s1 ⟨x, H1, I1, r1, q1⟩ => ?_
  rcases q1 with ⟨rfl, q1⟩ | ⟨i, rfl, q1⟩
  · cases r1
    exact ⟨none, H1, I1, .none, q1⟩
  · obtain ⟨t, rfl⟩ := r1
    exact ⟨some i, H1, I1, .int i t, q1⟩
theorem po_N : PO X none (tO (G := G) (Z := Z) (XR := XR) (W := W) (ev C (.cst .non))) := by
  refine ⟨fun pins s σ H Q I ⟨e, rel, q⟩ => ?_⟩
  rw [evalPart_none]
  unfold ev at q
  refine wpAny_pure ⟨none, H, I, .none, ?_⟩
  rcases q .non H rel (.refl _ _ _) .non with ⟨_, h⟩ | ⟨i, h, _⟩
  · exact h
  · cases h
theorem pk_bad {kws : List Keyword} : PK X kws (tL G Z XR W (evl C .bad)) := ⟨fun pos pins s σ H Q I ⟨e, rel, q⟩ => by unfold evl at q; exact q.elim⟩
theorem all0 : All cx G XR C 0 where
  e := fun _ _ x Z => by unfold cE; exact pe_bad
  l := fun _ _ es Z _ => by unfold cL; exact pa_bad
  b := fun _ _ k es pos Z => by unfold cB; exact pe_bad
  q := fun _ _ x Z => by unfold cQ; exact pt_bad
  w := fun _ _ k es pos Z => by unfold cW; exact pw_bad
  o := fun _ _ x Z => by unfold cO; exact po_bad
  c := fun _ _ f as p pos Z => by unfold cC; exact pe_bad
  kl := fun _ _ kws Z => by unfold cKL; exact pk_bad
  k := fun _ _ f kws p pos Z => by unfold cK; exact pe_bad
  v := fun _ _ fe as pos Z _ => by unfold cV; exact pe_bad
  m := fun _ _ o m apos as cpos Z => by unfold cM; exact pe_bad
  i := fun _ _ tg it k l Z h => by unfold cI at h; cases h
  lc := fun _ _ elt tg iter ifs scope pos Z => by unfold cLC; exact pe_bad
variable {n : Nat}
theorem stepL (ih : All cx G XR C n) {sc X W} (k : Cok cx sc G XR C X) (tk : Takes X W) (es : List Expr) (Z : Set1) (h : noStars es = true) : PA X es (tL G Z XR W (evl C (cL cx (n + 1) sc es))) := by
  cases es with
  | nil => unfold cL; exact sL_nil
  | cons x r =>
    obtain ⟨h1, h2⟩ := stars_cons h
    unfold cL
    exact sL_cons (fun Z => ih.e k tk x Z) (fun Z => ih.l k tk r Z h2) (star1 h1)
theorem stepKL (ih : All cx G XR C n) {sc X W} (k : Cok cx sc G XR C X) (tk : Takes X W) (kws : List Keyword) (Z : Set1) : PK X kws (tL G Z XR W (evl C (cKL cx (n + 1) sc kws))) := by
  cases kws with
  | nil => unfold cKL; exact sK_nil
  | cons kw r =>
    obtain ⟨nm, x, kp⟩ := kw
    unfold cKL
    exact sK_cons (fun Z => ih.e k tk x Z) fun Z => ih.kl k tk r Z
theorem stepB (ih : All cx G XR C n) {sc X W} (k : Cok cx sc G XR C X) (tk : Takes X W) (b : Bool) (es : List Expr) (pos : Pos) (Z : Set1) : PE X (.BoolOp (if b then .And else .Or) es pos) (tE G Z XR W (ev C (cB cx (n + 1) sc b es))) := by
  match es with
  | [] => unfold cB; exact pe_bad
  | [x] => unfold cB; exact pe_one (ih.e k tk x Z)
  | x :: y :: r =>
    cases b with
    | true => unfold cB; exact sE_and (ih.e k tk x Z) (ih.b k tk true (y :: r) pos Z)
    | false => unfold cB; exact sE_or (ih.e k tk x Z) (ih.b k tk false (y :: r) pos Z)
theorem pt_of_w {op : BoolOp} {es : List Expr} {t : TT} (h : PW X (.BoolOp op es pos) t) : PT X (.BoolOp op es pos) t := ⟨fun pins s σ H Q I q => h.run _ pins s σ H Q I q⟩
theorem stepW (ih : All cx G XR C n) {sc X W} (k : Cok cx sc G XR C X) (tk : Takes X W) (b : Bool) (es : List Expr) (pos : Pos) (Z : Set1) : PW X (.BoolOp (if b then .And else .Or) es pos) (tB2 G Z XR W fun e => testR (ev C (cW cx (n + 1) sc b es) e)) := by
  match es with
  | [] => unfold cW; exact pw_bad
  | [x] =>
    cases b with
    | true => unfold cW; exact pw_and1 (ih.q k tk x Z)
    | false => unfold cW; exact pw_or1 (ih.q k tk x Z)
  | x :: y :: r =>
    cases b with
    | true => unfold cW; exact sW_and (ih.q k tk x Z) (ih.w k tk true (y :: r) pos Z)
    | false => unfold cW; exact sW_or (ih.q k tk x Z) (ih.w k tk false (y :: r) pos Z)
theorem stepE (ih : All cx G XR C n) {sc X W} (k : Cok cx sc G XR C X) (tk : Takes X W) (x : Expr) (Z : Set1) : PE X x (tE G Z XR W (ev C (cE cx (n + 1) sc x))) := by
  unfold cE
  split
  · exact name_ok k
  · exact const_ok
  · rename_i es kk p
    by_cases h : noStars es = true
    · rw [if_pos h]; exact sE_tup (ih.l k tk es Z h)
    · rw [if_neg h]; exact pe_bad
  · rename_i es p
    by_cases h : noStars es = true
    · rw [if_pos h]; exact sE_lst (ih.l k tk es Z h)
    · rw [if_neg h]; exact pe_bad
  · rename_i a op b p
    cases ho : opOf op with
    | none => exact pe_bad
    | some o => exact sE_bin (op_ok ho) (ih.e k tk a Z) (ih.e k tk b Z)
  · exact sE_not (ih.e k tk _ Z)
  · exact sE_neg (ih.e k tk _ Z)
  · exact ih.b k tk true _ _ Z
  · exact ih.b k tk false _ _ Z
  · exact sE_ite (ih.q k tk _ Z) (ih.e k tk _ Z) (ih.e k tk _ Z)
  · rename_i a o b p
    cases ho : cmOf o with
    | none => exact pe_bad
    | some o' =>
      show PE X _ (tE G Z XR W (ev C (if behindInMarks o b = true then .bad else .cmp o' (cE cx n sc a) (cE cx n sc b))))
      by_cases h : behindInMarks o b = true
      · rw [if_pos h]; exact pe_bad
      · rw [if_neg h]; exact sE_cmp (cm_ok k.un ho) (Bool.eq_false_iff.mpr h) (ih.e k tk a Z) (ih.e k tk b Z)
  · rename_i a o p b c pp
    cases ho : cmOf o with
    | none => exact pe_bad
    | some o' =>
      cases hp : cmOf p with
      | none => exact pe_bad
      | some p' =>
        show PE X _ (tE G Z XR W (ev C (if lastMarks [o, p] [b, c] = true then .bad else .chain (cE cx n sc a) o' (cE cx n sc b) p' (cE cx n sc c))))
        by_cases h : lastMarks [o, p] [b, c] = true
        · rw [if_pos h]; exact pe_bad
        · rw [if_neg h]; exact sE_chain (cm_ok k.un ho) (cm_ok k.un hp) (Bool.eq_false_iff.mpr h) (ih.e k tk a Z) (ih.e k tk b Z) (ih.e k tk c Z)
  · exact sE_sl xSl (ih.e k tk _ Z) (ih.o k tk _ Z) (ih.o k tk _ Z)
  · rename_i a b p hne
    by_cases h : sliced b = true
    · rw [if_pos h]; exact pe_bad
    · rw [if_neg h]; exact sE_ix xIx (by intro o i; cases b <;> first | rfl | exact absurd rfl h) (ih.e k tk a Z) (ih.e k tk b Z)
  · exact ih.c k tk _ _ _ _ Z
  · exact ih.m k tk _ _ _ _ _ Z
  · exact ih.k k tk _ _ _ _ Z
  · exact ih.v k tk _ _ _ Z fun e es _ => rfl
  · exact ih.v k tk _ _ _ Z fun e es _ => rfl
  · exact ih.lc k tk _ _ _ _ _ _ Z
  · exact pe_bad
theorem stepO (ih : All cx G XR C n) {sc X W} (k : Cok cx sc G XR C X) (tk : Takes X W) (x : Option Expr) (Z : Set1) : PO X x (tO (G := G) (Z := Z) (XR := XR) (W := W) (ev C (cO cx (n + 1) sc x))) := by
  cases x with
  | none => unfold cO; exact po_N
  | some y => unfold cO; exact po_E (ih.e k tk y Z)
theorem stepQ (ih : All cx G XR C n) {sc X W} (k : Cok cx sc G XR C X) (tk : Takes X W) (x : Expr) (Z : Set1) : PT X x (tB2 G Z XR W fun e => testR (ev C (cQ cx (n + 1) sc x) e)) := by
  unfold cQ
  split
  · exact sT_not (ih.q k tk _ Z)
  · exact pt_of_w (ih.w k tk true _ _ Z)
  · exact pt_of_w (ih.w k tk false _ _ Z)
  · exact pt_bad
  · rename_i a o b p
    cases ho : cmOf o with
    | none => exact pt_bad
    | some o' =>
      show PT X _ (tB2 G Z XR W fun e => testR (ev C (if behindInMarks o b = true then .bad else .cmp o' (cE cx n sc a) (cE cx n sc b)) e))
      by_cases h : behindInMarks o b = true
      · rw [if_pos h]; exact pt_bad
      · rw [if_neg h]; exact sT_cmp (cm_ok k.un ho) (Bool.eq_false_iff.mpr h) (ih.e k tk a Z) (ih.e k tk b Z)
  · exact pt_bad
  · rename_i y h1 h2 h3 h4 h5 h6
    refine sT_val (ih.e k tk x Z) fun whole => ?_
    cases x with
    | UnaryOp op a p => cases op <;> first | rfl | exact (h1 _ _ rfl).elim
    | BoolOp op es p => cases op <;> first | exact (h2 _ _ rfl).elim | exact (h3 _ _ rfl).elim
    | IfExp a b c p => exact (h4 _ _ _ _ rfl).elim
    | Compare a os bs p => exact (h6 _ _ _ _ rfl).elim
    | _ => rfl
end
end Lt
end
section
set_option maxRecDepth 100000
namespace Lt
open PySem PySem.Spec PyProof.Rows L2
section
variable {cx : Ct} {sc : Scope} {G : Nat → Option Addr} {XR : XRel} {C : Calls} {X : Cx} {Z : Set1} {W : WX} {pos p : Pos} {n : Nat}
theorem bt_len : bootBuiltins "len" = some (.builtin "len") := by decide +kernel
theorem bt_all : bootBuiltins "all" = some (.builtin "all") := by decide +kernel
theorem bt_any : bootBuiltins "any" = some (.builtin "any") := by decide +kernel
theorem bt_tuple : bootBuiltins "tuple" = some (.type "tuple") := by decide +kernel
theorem bt_list : bootBuiltins "list" = some (.type "list") := by decide +kernel
theorem bt_int : bootBuiltins "int" = some (.type "int") := by decide +kernel
theorem bt_bool : bootBuiltins "bool" = some (.type "bool") := by decide +kernel
theorem bt_str : bootBuiltins "str" = some (.type "str") := by decide +kernel
theorem bt_abs : bootBuiltins "abs" = some (.builtin "abs") := by decide +kernel
theorem bt_min : bootBuiltins "min" = some (.builtin "min") := by decide +kernel
theorem bt_max : bootBuiltins "max" = some (.builtin "max") := by decide +kernel
theorem bt_sum : bootBuiltins "sum" = some (.builtin "sum") := by decide +kernel
theorem bt_sorted : bootBuiltins "sorted" = some (.builtin "sorted") := by decide +kernel
theorem one_at {as : List Expr} (h : as.length = 1) : ∃ y, as = [y] := by
  match as, h with
  | [y], _ => exact ⟨y, rfl⟩
theorem two_at {as : List Expr} (h : as.length = 2) : ∃ y z, as = [y, z] := by
  match as, h with
  | [y, z], _ => exact ⟨y, z, rfl⟩
theorem hit {f : Str} {g : String} {n m : Nat} (h : (f == (g : Str) && n == m) = true) : f = (g : Str) ∧ n = m := by
  obtain ⟨h1, h2⟩ := Bool.and_eq_true_iff.mp h
  exact ⟨eq_of_beq h1, eq_of_beq h2⟩
theorem blt_ok (k : Cok cx sc G XR C X) {f : Str} {as : List Expr} {b : Bl} (hf : cx.fn f = none) (hg : glo sc f = true) (hs : noStars as = true) (hb : bltOf f as.length = some b) : ∀ t, PA X as t → PE X (.Call (.Name f p) as [] pos) (tCB (rN G (bltD b)) t) := by
  have st : ∀ {e : Expr} {es : List Expr}, noStars (e :: es) = true → starEach (e :: es) X.env = (false, eval e X.env) :: starEach es X.env ∧ (backTo pos (starEach es X.env)).any (·.1) = false := fun {e es} h => ⟨star1 (stars_cons h).1, stars_any (stars_cons h).2⟩
  intro t ha
  unfold bltOf at hb
  by_cases h : (f == ("len" : Str) && as.length == 1) = true
  · rw [if_pos h] at hb
    obtain ⟨rfl, h1⟩ := hit h
    obtain ⟨y, rfl⟩ := one_at h1
    cases hb
    exact pe_callB bLen (k.gl hg) (k.blt _ (by decide) hf) bt_len ha (by decide) (by decide) (st hs).1 (st hs).2
  rw [if_neg h] at hb
  clear h
  by_cases h : (f == ("all" : Str) && as.length == 1) = true
  · rw [if_pos h] at hb
    obtain ⟨rfl, h1⟩ := hit h
    obtain ⟨y, rfl⟩ := one_at h1
    cases hb
    exact pe_callB (bAll k.calm) (k.gl hg) (k.blt _ (by decide) hf) bt_all ha (by decide) (by decide) (st hs).1 (st hs).2
  rw [if_neg h] at hb
  clear h
  by_cases h : (f == ("any" : Str) && as.length == 1) = true
  · rw [if_pos h] at hb
    obtain ⟨rfl, h1⟩ := hit h
    obtain ⟨y, rfl⟩ := one_at h1
    cases hb
    exact pe_callB (bAny k.calm) (k.gl hg) (k.blt _ (by decide) hf) bt_any ha (by decide) (by decide) (st hs).1 (st hs).2
  rw [if_neg h] at hb
  clear h
  by_cases h : (f == ("tuple" : Str) && as.length == 1) = true
  · rw [if_pos h] at hb
    obtain ⟨rfl, h1⟩ := hit h
    obtain ⟨y, rfl⟩ := one_at h1
    cases hb
    exact pe_callTy bTuple (k.gl hg) (k.blt _ (by decide) hf) bt_tuple ha (by decide) (by decide) (st hs).1 (st hs).2
  rw [if_neg h] at hb
  clear h
  by_cases h : (f == ("list" : Str) && as.length == 1) = true
  · rw [if_pos h] at hb
    obtain ⟨rfl, h1⟩ := hit h
    obtain ⟨y, rfl⟩ := one_at h1
    cases hb
    exact pe_callTy bList (k.gl hg) (k.blt _ (by decide) hf) bt_list ha (by decide) (by decide) (st hs).1 (st hs).2
  rw [if_neg h] at hb
  clear h
  by_cases h : (f == ("int" : Str) && as.length == 1) = true
  · rw [if_pos h] at hb
    obtain ⟨rfl, h1⟩ := hit h
    obtain ⟨y, rfl⟩ := one_at h1
    cases hb
    exact pe_callTy bInt (k.gl hg) (k.blt _ (by decide) hf) bt_int ha (by decide) (by decide) (st hs).1 (st hs).2
  rw [if_neg h] at hb
  clear h
  by_cases h : (f == ("abs" : Str) && as.length == 1) = true
  · rw [if_pos h] at hb
    obtain ⟨rfl, h1⟩ := hit h
    obtain ⟨y, rfl⟩ := one_at h1
    cases hb
    exact pe_callB bAbs (k.gl hg) (k.blt _ (by decide) hf) bt_abs ha (by decide) (by decide) (st hs).1 (st hs).2
  rw [if_neg h] at hb
  clear h
  by_cases h : (f == ("min" : Str) && as.length == 1) = true
  · rw [if_pos h] at hb
    obtain ⟨rfl, h1⟩ := hit h
    obtain ⟨y, rfl⟩ := one_at h1
    cases hb
    exact pe_callB (bMin1 k.calm) (k.gl hg) (k.blt _ (by decide) hf) bt_min ha (by decide) (by decide) (st hs).1 (st hs).2
  rw [if_neg h] at hb
  clear h
  by_cases h : (f == ("min" : Str) && as.length == 2) = true
  · rw [if_pos h] at hb
    obtain ⟨rfl, h1⟩ := hit h
    obtain ⟨y, z, rfl⟩ := two_at h1
    cases hb
    exact pe_callB (bMin2 k.calm) (k.gl hg) (k.blt _ (by decide) hf) bt_min ha (by decide) (by decide) (st hs).1 (st hs).2
  rw [if_neg h] at hb
  clear h
  by_cases h : (f == ("max" : Str) && as.length == 1) = true
  · rw [if_pos h] at hb
    obtain ⟨rfl, h1⟩ := hit h
    obtain ⟨y, rfl⟩ := one_at h1
    cases hb
    exact pe_callB (bMax1 k.calm) (k.gl hg) (k.blt _ (by decide) hf) bt_max ha (by decide) (by decide) (st hs).1 (st hs).2
  rw [if_neg h] at hb
  clear h
  by_cases h : (f == ("max" : Str) && as.length == 2) = true
  · rw [if_pos h] at hb
    obtain ⟨rfl, h1⟩ := hit h
    obtain ⟨y, z, rfl⟩ := two_at h1
    cases hb
    exact pe_callB (bMax2 k.calm) (k.gl hg) (k.blt _ (by decide) hf) bt_max ha (by decide) (by decide) (st hs).1 (st hs).2
  rw [if_neg h] at hb
  clear h
  by_cases h : (f == ("sum" : Str) && as.length == 1) = true
  · rw [if_pos h] at hb
    obtain ⟨rfl, h1⟩ := hit h
    obtain ⟨y, rfl⟩ := one_at h1
    cases hb
    exact pe_callB (bSum k.calm) (k.gl hg) (k.blt _ (by decide) hf) bt_sum ha (by decide) (by decide) (st hs).1 (st hs).2
  rw [if_neg h] at hb
  clear h
  by_cases h : (f == ("sorted" : Str) && as.length == 1) = true
  · rw [if_pos h] at hb
    obtain ⟨rfl, h1⟩ := hit h
    obtain ⟨y, rfl⟩ := one_at h1
    cases hb
    exact pe_callB bSorted (k.gl hg) (k.blt _ (by decide) hf) bt_sorted ha (by decide) (by decide) (st hs).1 (st hs).2
  rw [if_neg h] at hb
  clear h
  cases hb
theorem ty_ok {x : Str} {t : Ty} (h : tyOf x = some t) : x ∈ bltNames ∧ bootBuiltins x = some (.type t.nm) ∧ x ≠ "__name__" ∧ (x == ("__debug__" : Str)) = false := by
  unfold tyOf at h
  by_cases e : (x == ("int" : Str)) = true
  · rw [if_pos e] at h
    have q := eq_of_beq e
    subst q
    cases h
    exact ⟨by decide, bt_int, by decide, by decide⟩
  rw [if_neg e] at h
  clear e
  by_cases e : (x == ("bool" : Str)) = true
  · rw [if_pos e] at h
    have q := eq_of_beq e
    subst q
    cases h
    exact ⟨by decide, bt_bool, by decide, by decide⟩
  rw [if_neg e] at h
  clear e
  by_cases e : (x == ("str" : Str)) = true
  · rw [if_pos e] at h
    have q := eq_of_beq e
    subst q
    cases h
    exact ⟨by decide, bt_str, by decide, by decide⟩
  rw [if_neg e] at h
  clear e
  by_cases e : (x == ("list" : Str)) = true
  · rw [if_pos e] at h
    have q := eq_of_beq e
    subst q
    cases h
    exact ⟨by decide, bt_list, by decide, by decide⟩
  rw [if_neg e] at h
  clear e
  by_cases e : (x == ("tuple" : Str)) = true
  · rw [if_pos e] at h
    have q := eq_of_beq e
    subst q
    cases h
    exact ⟨by decide, bt_tuple, by decide, by decide⟩
  rw [if_neg e] at h
  clear e
  cases h
theorem bt_set : bootBuiltins "set" = some (.type "set") := by decide +kernel
theorem name_in {x y : Str} {q : Pos} (h : (x == y) = true) : x = y := eq_of_beq h
theorem isi1_ok (ih : All cx G XR C n) {sc X W} (k : Cok cx sc G XR C X) (tk : Takes X W) {y : Expr} {t : Str} {t' : Ty} {q p pos : Pos} (Z : Set1) (hf : cx.fn "isinstance" = none) (hg : glo sc "isinstance" = true) (hs : noStars [y, .Name t q] = true) (h1 : glo sc t = true) (h2 : cx.fn t = none) (h3 : tyOf t = some t') :
    PE X (.Call (.Name "isinstance" p) [y, .Name t q] [] pos) (tE G Z XR W (ev C (.isi (cE cx n sc y) [t']))) := by
  obtain ⟨a1, a2, a3, a4⟩ := ty_ok h3
  obtain ⟨s1, s2⟩ := stars_cons hs
  exact sE_isi1 (fun te ha => pe_isi1 (k.gl hg) (k.blt _ (by decide) hf) (k.gl h1) (k.blt _ a1 h2) a2 a3 a4 (star1 s1) (star1 (stars_cons s2).1) (stars_any s2) ha) (ih.e k tk y Z)
theorem isi2_ok (ih : All cx G XR C n) {sc X W} (k : Cok cx sc G XR C X) (tk : Takes X W) {y : Expr} {t u : Str} {t' u' : Ty} {kk : Nat} {q q2 q3 p pos : Pos} (Z : Set1) (hf : cx.fn "isinstance" = none) (hg : glo sc "isinstance" = true) (hs : noStars [y, .Tuple [.Name t q, .Name u q2] kk q3] = true)
    (h1 : glo sc t = true) (h2 : cx.fn t = none) (h3 : tyOf t = some t') (h4 : glo sc u = true) (h5 : cx.fn u = none) (h6 : tyOf u = some u') :
    PE X (.Call (.Name "isinstance" p) [y, .Tuple [.Name t q, .Name u q2] kk q3] [] pos) (tE G Z XR W (ev C (.isi (cE cx n sc y) [t', u']))) := by
  obtain ⟨a1, a2, a3, a4⟩ := ty_ok h3
  obtain ⟨b1, b2, b3, b4⟩ := ty_ok h6
  obtain ⟨s1, s2⟩ := stars_cons hs
  exact sE_isiT (by show 2 ≤ sizeLine; rw [sizeLine_eq]; omega) (fun te ha => pe_isi2 (k.gl hg) (k.blt _ (by decide) hf) (k.gl h1) (k.blt _ a1 h2) a2 a3 a4 (k.gl h4) (k.blt _ b1 h5) b2 b3 b4 (star1 s1) (star1 (stars_cons s2).1) (star1 rfl) (star1 rfl) (stars_any s2) ha) (ih.e k tk y Z)
theorem call1_ok (ih : All cx G XR C n) {sc X W} (k : Cok cx sc G XR C X) (tk : Takes X W) {f : Str} {as : List Expr} {p pos : Pos} (Z : Set1) (hf : cx.fn f = none) (hg : glo sc f = true) (hs : noStars as = true) :
    PE X (.Call (.Name f p) as [] pos) (tE G Z XR W (ev C (match bltOf f as.length with
      | some b => .blt b (cL cx n sc as)
      | none => .bad))) := by
  cases hb : bltOf f as.length with
  | none => exact pe_bad
  | some b => exact sE_blt (f := .none) (blt_ok k hf hg hs hb) (ih.l k tk as Z hs)
theorem fn_ok (ih : All cx G XR C n) {sc X W} (k : Cok cx sc G XR C X) (tk : Takes X W) {f : Str} {g : Fn} {as : List Expr} {p pos : Pos} (Z : Set1) (hf : cx.fn f = some g) (hp : plainName f = true) (hg : glo sc f = true) (hs : noStars as = true) :
    PE X (.Call (.Name f p) as [] pos) (tE G Z XR W (ev C (if (as.length == g.ps.length) = true then .call g.ix g.io (cL cx n sc as) else .bad))) := by
  by_cases h : (as.length == g.ps.length) = true
  · rw [if_pos h]
    obtain ⟨ff, fd, m, g1, g2, g3, g4, _, g5, g6⟩ := k.fn hf
    match as, hs with
    | e :: es, hs =>
      refine sE_call (fun t ha => pe_callS g5 g6 (k.gl hg) g1 g3 g4 (fun σ => passAt tk σ) ha (plain_at hp).1 (star1 (stars_cons hs).1) (stars_any (stars_cons hs).2)) (ih.l k tk (e :: es) Z hs)
    | [], _ =>
      have h0 := pe_callS0 (p := p) (pos := pos) g5 g6 (k.gl hg) g1 g3 g4 (fun σ => passAt tk σ) (plain_at hp).1
      match n, ih with
      | 0, _ => exact ⟨fun pins s σ H Q I ⟨e, rel, q⟩ => by unfold ev cL evl at q; exact q.elim⟩
      | m + 1, _ => exact sE_call0 h0 (by unfold cL; rfl)
  · rw [if_neg h]; exact pe_bad
theorem kl_len : ∀ {kws : List Keyword} {m : Nat} {e1 e2 : Env} {rs : List R}, evl C (cKL cx m sc kws) e1 = .ok rs e2 → rs.length = kws.length
  | [], 0, _, _, _, h => by unfold cKL evl at h; cases h
  | _ :: _, 0, _, _, _, h => by unfold cKL evl at h; cases h
  | [], m + 1, _, _, _, h => by unfold cKL evl at h; cases h; rfl
  | ⟨nm, x, kp⟩ :: r, m + 1, e1, e2, rs, h => by
    unfold cKL evl at h
    cases ha : ev C (cE cx m sc x) e1 with
    | st => rw [ha] at h; cases h
    | ex x e => rw [ha] at h; cases h
    | ok r1 e3 =>
      rw [ha] at h
      have h' : ((evl C (cKL cx m sc r) e3).bind fun rs e2 => Out.ok (r1 :: rs) e2) = .ok rs e2 := h
      cases hb : evl C (cKL cx m sc r) e3 with
      | st => rw [hb] at h'; cases h'
      | ex x e => rw [hb] at h'; cases h'
      | ok rs' e4 =>
        rw [hb] at h'
        cases h'
        exact congrArg (· + 1) (kl_len hb)
/-- f(k = v, ..) -/
theorem stepK (ih : All cx G XR C n) {sc X W} (k : Cok cx sc G XR C X) (tk : Takes X W) (f : Str) (kws : List Keyword) (p pos : Pos) (Z : Set1) : PE X (.Call (.Name f p) [] kws pos) (tE G Z XR W (ev C (cK cx (n + 1) sc f kws))) := by
  unfold cK
  by_cases h : (plainName f && glo sc f) = true
  · rw [if_pos h]
    obtain ⟨h1, h2⟩ := Bool.and_eq_true_iff.mp h
    cases hf : cx.fn f with
    | none => exact pe_bad
    | some g =>
      cases hn : kwNames kws with
      | none => exact pe_bad
      | some ks =>
        show PE X _ (tE G Z XR W (ev C (if (kwOk g.ps ks && nodupS ks && g.calm g.ps.length) = true then .callk g.ix (placesOf g.ps ks) (cKL cx n sc kws) else .bad)))
        by_cases c : (kwOk g.ps ks && nodupS ks && g.calm g.ps.length) = true
        · rw [if_pos c]
          obtain ⟨c1, c2⟩ := Bool.and_eq_true_iff.mp c
          obtain ⟨c3, c4⟩ := Bool.and_eq_true_iff.mp c1
          obtain ⟨ff, fd, m, g1, g2, g3, g4, g4', g5, g6⟩ := k.fn hf
          have hio : g.io = List.replicate g.ps.length false := eq_of_beq c2
          rw [hio] at g5
          have hl : kws.length = ks.length := (kw_each (env := X.env) (pos := pos) hn).2.2.2
          refine sE_callk (n := g.ps.length) (kws := kws) (fun t hk => pe_imp (pe_callKW (ks := ks) g5 g6 (k.gl h2) g1 g3 g4' (nodupS_ok c4) c3 (fun σ => passAt tk σ) hn hk (plain_at h1).1) fun σ H Q q => ?_) (by unfold placesOf; rw [List.length_map]) (fun e' rs e2 he => ?_) (ih.kl k tk kws Z)
          · rw [← hl]
            exact q
          · exact kl_len he
        · rw [if_neg c]; exact pe_bad
  · rw [if_neg h]; exact pe_bad
/-- a value is called -/
theorem stepV (ih : All cx G XR C n) {sc X W} (k : Cok cx sc G XR C X) (tk : Takes X W) (fe : Expr) (as : List Expr) (pos : Pos) (Z : Set1) (arm : ∀ e es, as = e :: es → eval (.Call fe (e :: es) [] pos) X.env = (do callWith pos (← eval fe X.env) [] (backTo pos (starEach (e :: es) X.env)) (backToKw pos (keywordEach [] X.env)))) :
    PE X (.Call fe as [] pos) (tE G Z XR W (ev C (cV cx (n + 1) sc fe as))) := by
  unfold cV
  by_cases h : (noStars as && decide (0 < as.length)) = true
  · rw [if_pos h]
    obtain ⟨h1, h2⟩ := Bool.and_eq_true_iff.mp h
    match as, h1, of_decide_eq_true h2, arm with
    | e :: es, h1, _, arm =>
      refine sE_calv (fun te t hf ha => pe_callV hf ha (fun σ => passAt tk σ) (arm e es rfl) (star1 (stars_cons h1).1) (stars_any (stars_cons h1).2)) (ih.e k tk fe Z) (fun f b hok hG => ?_) fun Z => ih.l k tk (e :: es) Z h1
      have hm : f ∈ oks cx (e :: es).length := List.contains_iff_mem.mp hok
      obtain ⟨g, hg, rfl⟩ := List.mem_map.mp hm
      obtain ⟨hg1, hg2⟩ := List.mem_filter.mp hg
      obtain ⟨ff, fd, m, g1, g2, g3, g4, _, g5, g6⟩ := k.fns g hg1
      rw [hG] at g2
      cases g2
      have hio : g.io = List.replicate (e :: es).length false := eq_of_beq hg2
      rw [hio] at g5
      exact ⟨m, fd, g.ps, g5, g6, g3, g4⟩
  · rw [if_neg h]; exact pe_bad
end
end Lt
end
section
set_option maxRecDepth 100000
namespace Lt
open PySem PySem.Spec PyProof.Rows L2
section
variable {cx : Ct} {sc : Scope} {G : Nat → Option Addr} {XR : XRel} {C : Calls} {X : Cx} {Z : Set1} {W : WX} {pos p : Pos} {n : Nat}
theorem none_of {o : Option Fn} (h : o.isNone = true) : o = none := by
  cases o with
  | none => rfl
  | some _ => cases h
theorem stepC (ih : All cx G XR C n) {sc X W} (k : Cok cx sc G XR C X) (tk : Takes X W) (f : Str) (as : List Expr) (p pos : Pos) (Z : Set1) : PE X (.Call (.Name f p) as [] pos) (tE G Z XR W (ev C (cC cx (n + 1) sc f as))) := by
  unfold cC
  by_cases h : (plainName f && glo sc f && noStars as) = true
  · rw [if_pos h]
    obtain ⟨h1, hs⟩ := Bool.and_eq_true_iff.mp h
    obtain ⟨hp, hg⟩ := Bool.and_eq_true_iff.mp h1
    cases hf : cx.fn f with
    | some g => exact fn_ok ih k tk Z hf hp hg hs
    | none =>
      dsimp only
      by_cases hi : (f == ("isinstance" : Str)) = true
      · rw [if_pos hi]
        have e := eq_of_beq hi
        subst e
        split
        · rename_i y t q
          by_cases c : (glo sc t && (cx.fn t).isNone) = true
          · rw [if_pos c]
            obtain ⟨c1, c2⟩ := Bool.and_eq_true_iff.mp c
            cases ht : tyOf t with
            | none => exact pe_bad
            | some t' => exact isi1_ok ih k tk Z hf hg hs c1 (none_of c2) ht
          · rw [if_neg c]; exact pe_bad
        · rename_i y t q u q2 kk q3
          by_cases c : (glo sc t && glo sc u && (cx.fn t).isNone && (cx.fn u).isNone) = true
          · rw [if_pos c]
            obtain ⟨c1, c2⟩ := Bool.and_eq_true_iff.mp c
            obtain ⟨c3, c4⟩ := Bool.and_eq_true_iff.mp c1
            obtain ⟨c5, c6⟩ := Bool.and_eq_true_iff.mp c3
            cases ht : tyOf t with
            | none => exact pe_bad
            | some t' =>
              cases hu : tyOf u with
              | none => exact pe_bad
              | some u' => exact isi2_ok ih k tk Z hf hg hs c5 (none_of c4) ht c6 (none_of c2) hu
          · rw [if_neg c]; exact pe_bad
        · exact pe_bad
      · rw [if_neg hi]
        split
        · rename_i g gp y gpos
          obtain ⟨s1, s2⟩ := stars_cons hs
          by_cases c : (f == ("len" : Str) && g == ("set" : Str) && glo sc g && (cx.fn g).isNone && !starred y) = true
          · rw [if_pos c]
            obtain ⟨c1, c2⟩ := Bool.and_eq_true_iff.mp c
            obtain ⟨c3, c4⟩ := Bool.and_eq_true_iff.mp c1
            obtain ⟨c5, c6⟩ := Bool.and_eq_true_iff.mp c3
            obtain ⟨c7, c8⟩ := Bool.and_eq_true_iff.mp c5
            have e1 := eq_of_beq c7
            have e2 := eq_of_beq c8
            subst e1 e2
            have sy : starred y = false := by simpa using c2
            exact sE_blt1 (fun te ha => pe_lenset k.calm (k.gl hg) (k.blt _ (by decide) hf) (k.gl c6) (k.blt _ (by decide) (none_of c4)) (star1 sy) (star1 rfl) ha) (ih.e k tk y Z)
          · rw [if_neg c]
            by_cases c : (f == ("list" : Str) && g == ("range" : Str) && glo sc g && (cx.fn g).isNone && !starred y) = true
            · rw [if_pos c]
              obtain ⟨c1, c2⟩ := Bool.and_eq_true_iff.mp c
              obtain ⟨c3, c4⟩ := Bool.and_eq_true_iff.mp c1
              obtain ⟨c5, c6⟩ := Bool.and_eq_true_iff.mp c3
              obtain ⟨c7, c8⟩ := Bool.and_eq_true_iff.mp c5
              have e1 := eq_of_beq c7
              have e2 := eq_of_beq c8
              subst e1 e2
              have sy : starred y = false := by simpa using c2
              exact sE_blt1 (fun te ha => pe_rlist k.calm (k.gl hg) (k.blt _ (by decide) hf) (k.gl c6) (k.blt _ (by decide) (none_of c4)) (star1 sy) (star1 rfl) ha) (ih.e k tk y Z)
            · rw [if_neg c]
              exact call1_ok ih k tk Z hf hg hs
        · exact call1_ok ih k tk Z hf hg hs
  · rw [if_neg h]; exact pe_bad
theorem stepI (ih : All cx G XR C n) {sc X W} (k : Cok cx sc G XR C X) (tk : Takes X W) (tg it : Expr) (kk : It) (l : E) (Z : Set1) (h : cI cx (n + 1) sc tg it = some (kk, l)) : PI X tg it (fun σ H R => tL G Z XR W (evl C l) σ H fun vs H1 => rIt G kk vs H1 R) := by
  have plain : ∀ y : Expr, PI X tg y (fun σ H R => tL G Z XR W (evl C (.cons (cE cx n sc y) .nil)) σ H fun vs H1 => rIt G .pl vs H1 R) := fun y => pi_one (fun te ha => p_pl ha) (ih.e k tk y Z)
  have spl : ∀ {b : Bool} {a c : Prop}, True := trivial
  unfold cI at h
  split at h
  · rename_i f fp y pos
    by_cases c : (f == ("range" : Str) && glo sc f && (cx.fn f).isNone && !starred y) = true
    · rw [if_pos c] at h
      cases h
      obtain ⟨c1, c2⟩ := Bool.and_eq_true_iff.mp c
      obtain ⟨c3, c4⟩ := Bool.and_eq_true_iff.mp c1
      obtain ⟨c5, c6⟩ := Bool.and_eq_true_iff.mp c3
      have e1 := eq_of_beq c5
      subst e1
      have sy : starred y = false := by simpa using c2
      exact pi_one (fun te ha => p_rg1 (k.gl c6) (k.blt _ (by decide) (none_of c4)) (star1 sy) ha) (ih.e k tk y Z)
    · rw [if_neg c] at h
      by_cases c : (f == ("enumerate" : Str) && glo sc f && (cx.fn f).isNone && !starred y) = true
      · rw [if_pos c] at h
        obtain ⟨c1, c2⟩ := Bool.and_eq_true_iff.mp c
        obtain ⟨c3, c4⟩ := Bool.and_eq_true_iff.mp c1
        obtain ⟨c5, c6⟩ := Bool.and_eq_true_iff.mp c3
        have e1 := eq_of_beq c5
        subst e1
        have sy : starred y = false := by simpa using c2
        cases tg with
        | Tuple es kk' tp =>
          cases h
          exact pi_one (fun te ha => p_en (k.gl c6) (k.blt _ (by decide) (none_of c4)) (star1 sy) ha) (ih.e k tk y Z)
        | _ => cases h
      · rw [if_neg c] at h
        cases h
        exact plain _
  · rename_i f fp y z pos
    by_cases c : (f == ("range" : Str) && glo sc f && (cx.fn f).isNone && !starred y && !starred z) = true
    · rw [if_pos c] at h
      cases h
      obtain ⟨c0, c7⟩ := Bool.and_eq_true_iff.mp c
      obtain ⟨c1, c2⟩ := Bool.and_eq_true_iff.mp c0
      obtain ⟨c3, c4⟩ := Bool.and_eq_true_iff.mp c1
      obtain ⟨c5, c6⟩ := Bool.and_eq_true_iff.mp c3
      have e1 := eq_of_beq c5
      subst e1
      have sy : starred y = false := by simpa using c2
      have hs : noStars [y, z] = true := by
        show ((!starred y) && ((!starred z) && true)) = true
        rw [c2, c7]; rfl
      exact p_rg2 (k.gl c6) (k.blt _ (by decide) (none_of c4)) (star1 sy) (stars_any (stars_cons hs).2) (ih.l k tk [y, z] Z hs)
    · rw [if_neg c] at h
      by_cases c : (f == ("zip" : Str) && glo sc f && (cx.fn f).isNone && !starred y && !starred z) = true
      · rw [if_pos c] at h
        obtain ⟨c0, c7⟩ := Bool.and_eq_true_iff.mp c
        obtain ⟨c1, c2⟩ := Bool.and_eq_true_iff.mp c0
        obtain ⟨c3, c4⟩ := Bool.and_eq_true_iff.mp c1
        obtain ⟨c5, c6⟩ := Bool.and_eq_true_iff.mp c3
        have e1 := eq_of_beq c5
        subst e1
        have sy : starred y = false := by simpa using c2
        have hs : noStars [y, z] = true := by
          show ((!starred y) && ((!starred z) && true)) = true
          rw [c2, c7]; rfl
        cases tg with
        | Tuple es kk' tp =>
          cases h
          exact p_zp (k.gl c6) (k.blt _ (by decide) (none_of c4)) (star1 sy) (stars_any (stars_cons hs).2) (ih.l k tk [y, z] Z hs)
        | _ => cases h
      · rw [if_neg c] at h
        cases h
        exact plain _
  · cases h
  · cases h
    exact plain _
theorem few1 {y : Expr} {env : PySem.Env} (h : starred y = false) : ((backTo pos (starEach [y] env)).all (fun x => !x.1) && (backToKw pos (keywordEach [] env)).all (fun x => x.1.isSome)
      && decide (([y] : List Expr).length + ([] : List Keyword).length + (if ([] : List Keyword).isEmpty then 0 else 1) < 30)) = true := by
  rw [star1 h]
  rfl
theorem cnt_ok (ih : All cx G XR C n) {sc X W} (k : Cok cx sc G XR C X) (tk : Takes X W) {o y : Expr} {apos cpos : Pos} (Z : Set1) (hb : attributeBase o "count" X.env (eval o X.env) = eval o X.env) (hl : (apos.endLine == cpos.line) = true) (hs : starred y = false) :
    PE X (.Call (.Attribute o "count" apos) [y] [] cpos) (tE G Z XR W (ev C (.cnt (cE cx n sc o) (cE cx n sc y)))) :=
  sE_mtK (f := countD) (fun to t ho ha => pe_mtK PySem.F.slot_list_count PySem.F.type_list_count (mCount k.un).1 PySem.F.slot_tuple_count PySem.F.type_tuple_count (mCount k.un).2 ho ha hb (few1 hs) hl (star1 hs)) (star1 hs) (ih.e k tk o Z) (ih.e k tk y Z) (fun e => by rw [ev] <;> rfl) fun d d' r h => let ⟨l, h1, _⟩ := countD_at h; ⟨l, h1⟩
theorem idx_ok (ih : All cx G XR C n) {sc X W} (k : Cok cx sc G XR C X) (tk : Takes X W) {o y : Expr} {apos cpos : Pos} (Z : Set1) (hb : attributeBase o "index" X.env (eval o X.env) = eval o X.env) (hl : (apos.endLine == cpos.line) = true) (hs : starred y = false) :
    PE X (.Call (.Attribute o "index" apos) [y] [] cpos) (tE G Z XR W (ev C (.idx (cE cx n sc o) (cE cx n sc y)))) :=
  sE_mtK (f := indexD) (fun to t ho ha => pe_mtK PySem.F.slot_list_index PySem.F.type_list_index (mIndex k.un).1 PySem.F.slot_tuple_index PySem.F.type_tuple_index (mIndex k.un).2 ho ha hb (few1 hs) hl (star1 hs)) (star1 hs) (ih.e k tk o Z) (ih.e k tk y Z) (fun e => by rw [ev] <;> rfl) fun d d' r h => let ⟨l, j, h1, _⟩ := indexD_at h; ⟨l, h1⟩
theorem bm_ok {X : Cx} {v : Str} {vp : Pos} {i : Nat} {m : Str} {id : String} {r : V → List V → Hp → VK → Prop} {y : Expr} {apos cpos : Pos} (sl : Slot "list" m id) (ty : typeOf (.builtin id) = pure (.type "method_descriptor")) (mt : MtR X id r) (hv : PE X (.Name v vp) (tVar i)) (hl : (apos.endLine == cpos.line) = true) (hs : starred y = false) :
    ∀ t, PA X [y] t → PE X (.Call (.Attribute (.Name v vp) m apos) [y] [] cpos) (tBM X.K "list" r (tVar i) t) := fun t ha =>
  pe_bm PySem.F.plainAttrs_list sl ty mt hv ha rfl (few1 hs) hl (star1 hs) rfl
theorem nm_at {o : Expr} {v : Str} (h : nmOf o = some v) : ∃ p, o = .Name v p := by
  cases o with
  | Name x p => cases h; exact ⟨p, rfl⟩
  | _ => cases h
theorem stepM (ih : All cx G XR C n) {sc X W} (k : Cok cx sc G XR C X) (tk : Takes X W) (o : Expr) (m : Str) (apos : Pos) (as : List Expr) (cpos : Pos) (Z : Set1) : PE X (.Call (.Attribute o m apos) as [] cpos) (tE G Z XR W (ev C (cM cx (n + 1) sc o m apos as cpos))) := by
  unfold cM
  by_cases h : (apos.endLine == cpos.line && noStars as) = true
  · rw [if_pos h]
    obtain ⟨hl, hs⟩ := Bool.and_eq_true_iff.mp h
    split
    · rename_i v hn
      obtain ⟨vp, rfl⟩ := nm_at hn
      cases hi : cx.slot v with
      | none => exact pe_bad
      | some i =>
        dsimp only
        by_cases c : (vis sc v && plainName v && m == ("pop" : Str) && cx.mu.contains v) = true
        · rw [if_pos c]
          obtain ⟨c1, _⟩ := Bool.and_eq_true_iff.mp c
          obtain ⟨c2, c3⟩ := Bool.and_eq_true_iff.mp c1
          obtain ⟨c4, c5⟩ := Bool.and_eq_true_iff.mp c2
          have e := eq_of_beq c3
          subst e
          obtain ⟨p1, p2, _⟩ := plain_at c5
          exact sE_pop (pe_bm0 PySem.F.plainAttrs_list PySem.F.slot_list_pop PySem.F.type_list_pop mt_pop (pe_var (by rw [k.N]; exact slot_at hi) (k.vi c4) p1 p2) rfl hl)
        · rw [if_neg c]; exact pe_bad
    · rename_i v y hn
      obtain ⟨vp, rfl⟩ := nm_at hn
      obtain ⟨sy, _⟩ := stars_cons hs
      by_cases c : (m == ("count" : Str)) = true
      · rw [if_pos c]
        have e := eq_of_beq c
        subst e
        exact cnt_ok ih k tk Z rfl hl sy
      rw [if_neg c]
      by_cases c2 : (m == ("index" : Str)) = true
      · rw [if_pos c2]
        have e := eq_of_beq c2
        subst e
        exact idx_ok ih k tk Z rfl hl sy
      rw [if_neg c2]
      cases hi : cx.slot v with
      | none => exact pe_bad
      | some i =>
        dsimp only
        by_cases c3 : (vis sc v && plainName v) = true
        · rw [if_pos c3]
          obtain ⟨c4, c5⟩ := Bool.and_eq_true_iff.mp c3
          obtain ⟨p1, p2, _⟩ := plain_at c5
          have hv : PE X (.Name v vp) (tVar i) := pe_var (by rw [k.N]; exact slot_at hi) (k.vi c4) p1 p2
          by_cases c6 : (m == ("append" : Str)) = true
          · rw [if_pos c6]
            have e := eq_of_beq c6
            subst e
            exact sE_app (bm_ok PySem.F.slot_list_append PySem.F.type_list_append mt_append hv hl sy) (star1 sy) (ih.e k tk y Z)
          rw [if_neg c6]
          by_cases c7 : (m == ("extend" : Str)) = true
          · rw [if_pos c7]
            have e := eq_of_beq c7
            subst e
            exact sE_ext (bm_ok PySem.F.slot_list_extend PySem.F.type_list_extend mExt hv hl sy) (star1 sy) (ih.e k tk y Z)
          rw [if_neg c7]
          by_cases c8 : (m == ("pop" : Str)) = true
          · rw [if_pos c8]
            have e := eq_of_beq c8
            subst e
            exact sE_popa (bm_ok PySem.F.slot_list_pop PySem.F.type_list_pop mPopA hv hl sy) (star1 sy) (ih.e k tk y Z)
          rw [if_neg c8]; exact pe_bad
        · rw [if_neg c3]; exact pe_bad
    · rename_i y hn
      obtain ⟨sy, _⟩ := stars_cons hs
      split
      · by_cases c : (m == ("count" : Str)) = true
        · rw [if_pos c]
          have e := eq_of_beq c
          subst e
          exact cnt_ok ih k tk Z rfl hl sy
        rw [if_neg c]
        by_cases c2 : (m == ("index" : Str)) = true
        · rw [if_pos c2]
          have e := eq_of_beq c2
          subst e
          exact idx_ok ih k tk Z rfl hl sy
        rw [if_neg c2]; exact pe_bad
      · exact pe_bad
    · exact pe_bad
  · rw [if_neg h]; exact pe_bad
end
end Lt
end
section
set_option maxRecDepth 100000
namespace Lt
open PySem PySem.Spec PyProof.Rows L2
section
variable {cx : Ct} {sc : Scope} {G : Nat → Option Addr} {XR : XRel} {C : Calls} {X : Cx} {Z : Set1} {W : WX} {pos p : Pos} {n : Nat}
theorem relab {env : PySem.Env} (scope : Scope) (h : env.scope = sc) : relabel scope env = blkSc scope sc := by
  unfold relabel blkSc PySem.Env.kindOf
  rw [h]
theorem blk_ok (k : Cok cx sc G XR C X) (scope : Scope) (s : Shared) (H : Hp) (Cc : Addr) (cl : List (Str × Addr)) (fp : List Addr) : Cok cx (blkSc scope sc) G XR C (X.blk s H scope (compEnvC scope cl Cc X.env) fp) where
  calm := k.calm
  N := k.N
  nd := k.nd
  sc := relab scope k.sc
  un := k.un
  blt := k.blt
  fns := k.fns
  ex := { cls := k.ex.cls, xr := k.ex.xr, ve := k.ex.ve, le := k.ex.le, su := k.ex.su, dp := k.ex.dp }
  isi := k.isi
/-- names stored in a block -/
theorem look_rel {sc : Scope} : ∀ {names : List (Str × NameKind)} {x : Str} {kd : NameKind}, kd ≠ .free → names.lookup x = some kd →
    (names.map fun (n, k) => if (k == NameKind.free && sc.kind == .function && sc.names.lookup n == some .cell) then (n, NameKind.cell) else (n, k)).lookup x = some kd
  | [], _, _, _, h => by simp at h
  | (m, k) :: r, x, kd, hk, h => by
    have ih := @look_rel sc r x kd hk
    show List.lookup x ((if (k == NameKind.free && sc.kind == .function && sc.names.lookup m == some .cell) = true then (m, NameKind.cell) else (m, k)) :: _) = _
    cases hx : x == m with
    | true =>
      simp only [List.lookup_cons, hx] at h
      cases h
      have hc : ¬ (k == NameKind.free && sc.kind == .function && sc.names.lookup m == some .cell) = true := fun z => by
        obtain ⟨z1, _⟩ := Bool.and_eq_true_iff.mp z
        obtain ⟨z2, _⟩ := Bool.and_eq_true_iff.mp z1
        exact hk (by cases k <;> first | rfl | cases z2)
      rw [if_neg hc]
      simp [List.lookup_cons, hx]
    | false =>
      simp only [List.lookup_cons, hx] at h
      by_cases hc : (k == NameKind.free && sc.kind == .function && sc.names.lookup m == some .cell) = true
      · rw [if_pos hc]; simp only [List.lookup_cons, hx]; exact ih h
      · rw [if_neg hc]; simp only [List.lookup_cons, hx]; exact ih h
theorem blk_loc (k : Cok cx sc G XR C X) (scope : Scope) (s : Shared) (H : Hp) (Cc : Addr) (cl : List (Str × Addr)) (fp : List Addr) : ∀ x, sto scope x = true → Loc (X.blk s H scope (compEnvC scope cl Cc X.env) fp).env.scope x ∧ ((X.blk s H scope (compEnvC scope cl Cc X.env) fp).fn x = true ∨ (X.blk s H scope (compEnvC scope cl Cc X.env) fp).env.scope.names.lookup x = some .local) := fun x h => by
  have e : (X.blk s H scope (compEnvC scope cl Cc X.env) fp).env.scope = blkSc scope sc := relab scope k.sc
  rw [e]
  rcases sto_at h with h | h
  · have := look_rel (sc := sc) (kd := .local) (by decide) h
    exact ⟨.inl this, .inr this⟩
  · have := look_rel (sc := sc) (kd := .cell) (by decide) h
    exact ⟨.inr this, .inl (by show (scope.names.lookup x == some .cell) = true; rw [h]; rfl)⟩
theorem notSet {tg it : Expr} {k : It} {l : E} : ∀ n, cI cx n sc tg it = some (k, l) → ∀ (env : PySem.Env) x, foldedSetIterable it env x = pure x
  | 0, h => by unfold cI at h; cases h
  | n + 1, h => fun env x => by
    cases it with
    | Set a b c => unfold cI at h; cases h
    | _ => rfl
theorem pts_yes : PTs X [] (tB2 G Z XR W fun e => testR (ev C (.cst (.bl true)) e)) := ⟨fun pins s σ H Q I ⟨e, rel, q⟩ => pts_nil.run pins s σ H Q I (by
  have q' : FinB G Z XR W e σ H (.ok true e) Q := by
    unfold ev at q
    exact q
  exact q' H rel (.refl _ _ _))⟩
theorem takes_no {X : Cx} : Takes X W0 := fun _ _ ⟨_, _, _, _, _, _, _, _, _, _, _, _, _, _, _, _, w⟩ => w.elim
theorem stepLC (ih : All cx G XR C n) {sc X W} (k : Cok cx sc G XR C X) (tk : Takes X W) (elt tg iter : Expr) (ifs : List Expr) (scope : Scope) (pos : Pos) (Z : Set1) : PE X (.ListComp elt [⟨tg, iter, ifs, 0⟩] scope pos) (tE G Z XR W (ev C (cLC cx (n + 1) sc elt tg iter ifs scope))) := by
  unfold cLC
  by_cases h : blkC cx.N sc scope (owns cx scope.names) = true
  · rw [if_pos h]
    have ok : BlkOk X.N X.env.scope scope (owns cx scope.names) := by rw [k.N, k.sc]; exact blkOk_by h
    cases ht : cT cx scope n tg with
    | none => exact pe_bad
    | some t =>
      cases hi : cI cx n sc tg iter with
      | none => exact pe_bad
      | some kl =>
        obtain ⟨kk, l⟩ := kl
        have go : ∀ (cond : E), (∀ Z, Blk X scope fun Y => PTs Y ifs (tB2 G Z XR W0 fun e => testR (ev C cond e))) →
            PE X (.ListComp elt [⟨tg, iter, ifs, 0⟩] scope pos) (tE G Z XR W (ev C (if (t.slots.all fun i => ((owns cx scope.names).map (·.2)).contains i) = true then .comp (cE cx n (blkSc scope sc) elt) t ((owns cx scope.names).map (·.2)) kk l cond else .bad))) := fun cond hc => by
          by_cases hw : (t.slots.all fun i => ((owns cx scope.names).map (·.2)).contains i) = true
          · rw [if_pos hw]
            exact sE_comp k.calm (by rw [k.N]; exact k.nd) (ih.i k tk tg iter kk l Z hi) ok rfl (fun i hm => List.contains_iff_mem.mp (List.all_eq_true.mp hw i hm)) (notSet n hi X.env)
              (fun s H Cc cl fp => (target_ok (blk_ok k scope s H Cc cl fp) (blk_loc k scope s H Cc cl fp) n).1 tg t ht) hc (fun Z s H Cc cl fp => ih.e (blk_ok k scope s H Cc cl fp) takes_no elt Z)
          · rw [if_neg hw]; exact pe_bad
        match ifs with
        | [] => exact go _ fun Z s H Cc cl fp => pts_yes
        | [c] => exact go _ fun Z s H Cc cl fp => pts_one (ih.q (blk_ok k scope s H Cc cl fp) takes_no c Z)
        | _ :: _ :: _ => exact pe_bad
  · rw [if_neg h]; exact pe_bad
/-- the compiler keeps what the evaluator tells, at every fuel -/
theorem all_ok : ∀ n, All cx G XR C n
  | 0 => all0
  | n + 1 =>
    have ih := all_ok n
    { e := stepE ih, l := stepL ih, b := stepB ih, q := stepQ ih, w := stepW ih, o := stepO ih, c := stepC ih, kl := stepKL ih, k := stepK ih, v := stepV ih, m := stepM ih, i := stepI ih, lc := stepLC ih }
end
end Lt
end
section
set_option maxRecDepth 100000
namespace Lt
open PySem PySem.Spec PyProof.Rows L2
/-- what is known of a def's frame at a statement -/
structure Sok (cx : Ct) (sc : Scope) (G : Nat → Option Addr) (XR : XRel) (C : Calls) (X : Cx) (W : WX) : Prop where
  k : Cok cx sc G XR C X
  tk : Takes X W
  own : PassesOwn (model X.prog X.w) X.A X.env X.xe
  fn : ∀ x, X.fn x = true
  bk : X.env.blockKind = .function
  st : X.stack = X.env :: X.outer
  fr : X.env.frame = some X.env.locals
section
variable {cx : Ct} {sc : Scope} {G : Nat → Option Addr} {XR : XRel} {C : Calls} {X : Cx} {Z : Set1} {W : WX} {pos p : Pos} {n fu : Nat}
theorem ps_bad {s : Stmt} : PS X s (tS G Z XR W (es C .bad)) := ⟨fun pins s σ H D I ⟨e, rel, q⟩ => by unfold es at q; exact q.elim⟩
theorem pss_bad {s : List Stmt} : PSs X s (tS G Z XR W (es C .bad)) := ⟨fun pins s σ H D I ⟨e, rel, q⟩ => by unfold es at q; exact q.elim⟩
theorem Sok.lo (k : Sok cx sc G XR C X W) {x : Str} (h : sto sc x = true) : Loc X.env.scope x ∧ (X.fn x = true ∨ X.env.scope.names.lookup x = some .local) := by
  rw [k.k.sc]
  exact ⟨sto_at h, .inl (k.fn x)⟩
/-- no comprehension that is stored at once -/
def calmE : Expr → Bool
  | .ListComp _ _ _ _ => false
  | .SetComp _ _ _ _ => false
  | .DictComp _ _ _ _ _ => false
  | _ => true
theorem swaps_no {e : Expr} {t : Option Expr} {l : Nat} {env : PySem.Env} (h : calmE e = true) : swapsWith e t l env = pure false := by
  cases e <;> first | rfl | cases h
theorem swaps_other {e t : Expr} {l : Nat} {env : PySem.Env} (h : nmOf t = none) : swapsWith e (some t) l env = pure false := by
  cases e <;> first | rfl | (cases t <;> first | rfl | cases h)
theorem no_star {r : List Expr} (h : noStars r = true) : r.any starred = false := by
  induction r with
  | nil => rfl
  | cons x r ih =>
    obtain ⟨h1, h2⟩ := stars_cons h
    rw [List.any_cons, ih h2, h1]
    rfl
/-- the names that a, b = .. stores at once -/
def nmsOf (env : PySem.Env) (l : Nat) (ts : List Expr) : List Str := ts.filterMap fun
  | .Name id pos => if env.kindOf id == some .local && pos.line == l then some id else none
  | _ => none
theorem sw_at {ts es : List Expr} {pt pt2 : Pos} {kt k2 : Nat} {env : PySem.Env} (bk : env.blockKind = .function) (hs : noStars es = true) (hl : ts.length = es.length) (h23 : ts.length = 2 ∨ ts.length = 3) (hf : (es.all (foldedForSure 8) || !(es.all (constantsAlone 8))) = true) :
    (swappedStores [.Tuple ts kt pt] (.Tuple es k2 pt2) env = pure (some (nmsOf env ((ts.head?.map (·.pos.line)).getD 0) ts)) ∧ (nmsOf env ((ts.head?.map (·.pos.line)).getD 0) ts).length = ts.length) ∨ swappedStores [.Tuple ts kt pt] (.Tuple es k2 pt2) env = pure none := by
  have c1 : ¬ (!(ts.length == 2 || ts.length == 3) || es.length != ts.length || env.blockKind != .function) = true := by
    rw [bk, hl]
    rcases h23 with h | h <;> (rw [← hl, h]; decide)
  unfold swappedStores
  dsimp only
  rw [if_neg c1]
  change ((if es.any starred = true then pure none else _) = _ ∧ _) ∨ (if es.any starred = true then pure none else _) = _
  rw [if_neg (show ¬ es.any starred = true from fun z => by rw [no_star hs] at z; exact Bool.false_ne_true z)]
  show ((if ((nmsOf env ((ts.head?.map (·.pos.line)).getD 0) ts).length != ts.length || (nmsOf env ((ts.head?.map (·.pos.line)).getD 0) ts).eraseDups.length != (nmsOf env ((ts.head?.map (·.pos.line)).getD 0) ts).length) = true then pure none else _) = _ ∧ _) ∨ (if ((nmsOf env ((ts.head?.map (·.pos.line)).getD 0) ts).length != ts.length || (nmsOf env ((ts.head?.map (·.pos.line)).getD 0) ts).eraseDups.length != (nmsOf env ((ts.head?.map (·.pos.line)).getD 0) ts).length) = true then pure none else _) = _
  by_cases c2 : ((nmsOf env ((ts.head?.map (·.pos.line)).getD 0) ts).length != ts.length || (nmsOf env ((ts.head?.map (·.pos.line)).getD 0) ts).eraseDups.length != (nmsOf env ((ts.head?.map (·.pos.line)).getD 0) ts).length) = true
  · right
    rw [if_pos c2]
  · rw [if_neg c2]
    have len : (nmsOf env ((ts.head?.map (·.pos.line)).getD 0) ts).length = ts.length := by
      have := (Bool.or_eq_false_iff.mp (Bool.eq_false_iff.mpr c2)).1
      simpa using this
    by_cases c3 : es.all (foldedForSure 8) = true
    · right
      rw [if_pos c3]
    · left
      have c4 : ¬ es.all (constantsAlone 8) = true := by
        rcases Bool.or_eq_true_iff.mp hf with h | h
        · exact absurd h c3
        · simpa using h
      rw [if_neg c3, if_neg c4]
      exact ⟨rfl, len⟩
def gsOf : List (Nat × Bool) → TGs
  | [] => gNil
  | (i, _) :: r => gCons (gName i) (gsOf r)
theorem gsOf_ok : ∀ {ts : List (Nat × Bool)} {σ : L2.St} {H : Hp} {vs : List V} {Q : L2.St → Hp → Prop}, vs.length = ts.length → Q (sets σ ts vs) H → gsOf ts vs σ H Q
  | [], σ, H, [], Q, _, h => ⟨rfl, h⟩
  | (i, a) :: r, σ, H, v :: vs, Q, l, h => ⟨v, vs, rfl, gsOf_ok (ts := r) (vs := vs) (Nat.succ.inj l) h⟩
  | [], _, _, _ :: _, _, l, _ => by cases l
  | _ :: _, _, _, [], _, l, _ => by cases l
theorem cTgs_cons {x : Expr} {r : List Expr} {ts : List (Nat × Bool)} (h : cTgs cx sc (x :: r) = some ts) : ∃ v p i u, x = .Name v p ∧ plainName v = true ∧ sto sc v = true ∧ cx.slot v = some i ∧ cTgs cx sc r = some u ∧ ts = (i, cx.mu.contains v) :: u := by
  cases x with
  | Name v p =>
    have h' : (if (plainName v && sto sc v) = true then (match cx.slot v, cTgs cx sc r with
      | some i, some ts => some ((i, cx.mu.contains v) :: ts)
      | _, _ => none) else none) = some ts := h
    by_cases c : (plainName v && sto sc v) = true
    · rw [if_pos c] at h'
      obtain ⟨c1, c2⟩ := Bool.and_eq_true_iff.mp c
      cases hi : cx.slot v with
      | none => rw [hi] at h'; cases h'
      | some i =>
        cases hu : cTgs cx sc r with
        | none => rw [hi, hu] at h'; cases h'
        | some u => rw [hi, hu] at h'; exact ⟨v, p, i, u, rfl, c1, c2, hi, rfl, (Option.some.inj h').symm⟩
    · rw [if_neg c] at h'; cases h'
  | _ => cases h
theorem cTgs_ok {X W} (k : Sok cx sc G XR C X W) : ∀ {tgs : List Expr} {ts : List (Nat × Bool)}, cTgs cx sc tgs = some ts → PGs X tgs (gsOf ts) ∧ tgs.length = ts.length ∧ (assignEach tgs X.env).length = ts.length ∧ (assignEach tgs X.env).findIdx? (·.1) = none
  | [], ts, h => by cases h; exact ⟨pgs_nil, rfl, rfl, rfl⟩
  | x :: r, ts, h => by
    obtain ⟨v, p, i, u, rfl, c1, c2, hi, hu, rfl⟩ := cTgs_cons h
    obtain ⟨a1, a2, a3, a4⟩ := cTgs_ok k hu
    obtain ⟨l1, l2⟩ := k.lo c2
    have e : assignEach (.Name v p :: r) X.env = (false, assign (.Name v p) X.env) :: assignEach r X.env := rfl
    refine ⟨pgs_cons (pg_name (by rw [k.k.N]; exact k.k.nd) (by rw [k.k.N]; exact slot_at hi) l1 l2) a1 rfl, congrArg (· + 1) a2, by rw [e]; exact congrArg (· + 1) a3, ?_⟩
    rw [e, List.findIdx?_cons, a4]
    rfl
theorem nms_cons {env : PySem.Env} {l : Nat} {v : Str} {q : Pos} {r : List Expr} : nmsOf env l (.Name v q :: r) = if (env.kindOf v == some .local && q.line == l) = true then v :: nmsOf env l r else nmsOf env l r := by
  unfold nmsOf
  rw [List.filterMap_cons]
  by_cases h : (env.kindOf v == some .local && q.line == l) = true
  · simp [h]
  · simp [h]
theorem nms_le {env : PySem.Env} {l : Nat} (r : List Expr) : (nmsOf env l r).length ≤ r.length := List.length_filterMap_le ..
theorem nms_all {env : PySem.Env} {l : Nat} {v : Str} {q : Pos} {r : List Expr} (h : (nmsOf env l (.Name v q :: r)).length = r.length + 1) : env.kindOf v = some .local ∧ nmsOf env l (.Name v q :: r) = v :: nmsOf env l r ∧ (nmsOf env l r).length = r.length := by
  rw [nms_cons] at h ⊢
  by_cases c : (env.kindOf v == some .local && q.line == l) = true
  · rw [if_pos c] at h ⊢
    exact ⟨eq_of_beq (Bool.and_eq_true_iff.mp c).1, rfl, Nat.succ.inj h⟩
  · rw [if_neg c] at h
    have := nms_le (env := env) (l := l) r
    omega
theorem par_ok {X W} (k : Sok cx sc G XR C X W) {tgs es' : List Expr} {kt k2 : Nat} {pt pt2 pos : Pos} {ts : List (Nat × Bool)} (Z : Set1) (h1 : noStars es' = true) (h2 : tgs.length = es'.length) (h3 : tgs.length ≤ 3) (h4 : 2 ≤ tgs.length) (h5 : (es'.all (foldedForSure 8) || !(es'.all (constantsAlone 8))) = true) (ht : cTgs cx sc tgs = some ts) (hn : nodupN ts = true) :
    PS X (.Assign [.Tuple tgs kt pt] (.Tuple es' k2 pt2) pos) (tS G Z XR W (es C (.par ts (cL cx fu sc es')))) := by
  have ha := (all_ok (cx := cx) (G := G) (XR := XR) (C := C) fu).l k.k k.tk es' Z h1
  have nd : X.N.Nodup := by rw [k.k.N]; exact k.k.nd
  obtain ⟨g1, g2, g3, g4⟩ := cTgs_ok k ht
  have hs : ∀ {t : Expr}, nmOf t = none → swapsWithSole [t] (.Tuple es' k2 pt2) pos.line X.env = pure false := fun {t} h => (show swapsWith (.Tuple es' k2 pt2) (some t) pos.line X.env = pure false from swaps_other h)
  rcases sw_at (kt := kt) (pt := pt) (k2 := k2) (pt2 := pt2) k.bk h1 h2 (by omega) h5 with ⟨w1, w2⟩ | w
  · match tgs, es', ht, hn with
    | [t1, t2], [a, b], ht, hn =>
      obtain ⟨v, vp, i, u, rfl, c1, c2, hi, hu, rfl⟩ := cTgs_cons ht
      obtain ⟨y, yp, j, u2, rfl, d1, d2, hj, hu2, rfl⟩ := cTgs_cons hu
      cases hu2
      obtain ⟨kx, e1, l1⟩ := nms_all w2
      obtain ⟨ky, e2, l2⟩ := nms_all l1
      have e3 : ∀ l, nmsOf X.env l [] = [] := fun _ => rfl
      rw [e1, e2, e3] at w1
      have ij : i ≠ j := fun z => by
        subst z
        simp [nodupN] at hn
      exact sS_par2 k.k.calm nd (by rw [k.k.N]; exact slot_at hi) (by rw [k.k.N]; exact slot_at hj) ij kx ky ha w1 (hs rfl)
    | [t1, t2, t3], [a, b, c], ht, hn =>
      obtain ⟨v, vp, i, u, rfl, c1, c2, hi, hu, rfl⟩ := cTgs_cons ht
      obtain ⟨y, yp, j, u2, rfl, d1, d2, hj, hu2, rfl⟩ := cTgs_cons hu
      obtain ⟨z, zp, m, u3, rfl, f1, f2, hm, hu3, rfl⟩ := cTgs_cons hu2
      cases hu3
      obtain ⟨kx, e1, l1⟩ := nms_all w2
      obtain ⟨ky, e2, l2⟩ := nms_all l1
      obtain ⟨kz, e4, l3⟩ := nms_all l2
      have e3 : ∀ l, nmsOf X.env l [] = [] := fun _ => rfl
      rw [e1, e2, e4, e3] at w1
      simp [nodupN] at hn
      exact sS_par3 k.k.calm nd (by rw [k.k.N]; exact slot_at hi) (by rw [k.k.N]; exact slot_at hj) (by rw [k.k.N]; exact slot_at hm) (fun q => by omega) (fun q => by omega) (fun q => by omega) kx ky kz ha w1 (hs rfl)
  · exact sS_parT k.k.calm ha g1 g3 g4 (fun σ H vs Q l q => gsOf_ok l q) (hs rfl) w (by rw [← g2, sizeLine_eq]; omega)
/-- statements at fuel n (fu: that of their expressions) -/
structure AllS (cx : Ct) (sc : Scope) (G : Nat → Option Addr) (XR : XRel) (C : Calls) (fu n : Nat) : Prop where
  s : ∀ {X W}, Sok cx sc G XR C X W → ∀ (s : Stmt) (Z : Set1), PS X s (tS G Z XR W (es C (cS cx sc fu n s)))
  ss : ∀ {X W}, Sok cx sc G XR C X W → ∀ (s : List Stmt) (Z : Set1), PSs X s (tS G Z XR W (es C (cSs cx sc fu n s)))
theorem stepSs (ih : AllS cx sc G XR C fu n) {X W} (k : Sok cx sc G XR C X W) (s : List Stmt) (Z : Set1) : PSs X s (tS G Z XR W (es C (cSs cx sc fu (n + 1) s))) := by
  cases s with
  | nil => unfold cSs; exact sSs_nil
  | cons x r => unfold cSs; exact sSs_cons (ih.s k x Z) (ih.ss k r Z)
theorem set_bad {s : Stmt} {i : Nat} {ann : Bool} : PS X s (tS G Z XR W (es C (.set i ann .bad))) := ⟨fun pins s σ H D I ⟨e, rel, q⟩ => by unfold es ev at q; exact q.elim⟩
theorem setLC_ok {m : Nat} {X W} (k : Sok cx sc G XR C X W) {x : Str} {xp lp : Pos} {i : Nat} {ann : Bool} {elt tg iter : Expr} {ifs : List Expr} {scope : Scope} (Z : Set1) (hi : cx.slot x = some i) (hl : X.env.scope.names.lookup x = some .local) (hsw : swapsWith (.ListComp elt [⟨tg, iter, ifs, 0⟩] scope lp) (some (.Name x xp)) pos.line X.env = pure true) :
    PS X (.Assign [.Name x xp] (.ListComp elt [⟨tg, iter, ifs, 0⟩] scope lp) pos) (tS G Z XR W (es C (.set i ann (cLC cx (m + 1) sc elt tg iter ifs scope)))) := by
  have ih := all_ok (cx := cx) (G := G) (XR := XR) (C := C) m
  have kk := k.k
  unfold cLC
  by_cases h : blkC cx.N sc scope (owns cx scope.names) = true
  · rw [if_pos h]
    have ok : BlkOk X.N X.env.scope scope (owns cx scope.names) := by rw [kk.N, kk.sc]; exact blkOk_by h
    cases ht : cT cx scope m tg with
    | none => exact set_bad
    | some t =>
      cases hit : cI cx m sc tg iter with
      | none => exact set_bad
      | some kl =>
        obtain ⟨kd, l⟩ := kl
        have go : ∀ (cond : E), (∀ Z, Blk X scope fun Y => PTs Y ifs (tB2 G Z XR W0 fun e => testR (ev C cond e))) →
            PS X (.Assign [.Name x xp] (.ListComp elt [⟨tg, iter, ifs, 0⟩] scope lp) pos) (tS G Z XR W (es C (.set i ann (if (t.slots.all fun i => ((owns cx scope.names).map (·.2)).contains i) = true then .comp (cE cx m (blkSc scope sc) elt) t ((owns cx scope.names).map (·.2)) kd l cond else .bad)))) := fun cond hc => by
          by_cases hw : (t.slots.all fun i => ((owns cx scope.names).map (·.2)).contains i) = true
          · rw [if_pos hw]
            exact sS_setC kk.calm (by rw [kk.N]; exact kk.nd) (by rw [kk.N]; exact slot_at hi) hl hsw (ih.i kk k.tk tg iter kd l Z hit) ok rfl (fun i hm => List.contains_iff_mem.mp (List.all_eq_true.mp hw i hm)) (notSet m hit X.env)
              (fun s H Cc cl fp => (target_ok (blk_ok kk scope s H Cc cl fp) (blk_loc kk scope s H Cc cl fp) m).1 tg t ht) hc (fun Z s H Cc cl fp => ih.e (blk_ok kk scope s H Cc cl fp) takes_no elt Z)
          · rw [if_neg hw]; exact set_bad
        match ifs with
        | [] => exact go _ fun Z s H Cc cl fp => pts_yes
        | [c] => exact go _ fun Z s H Cc cl fp => pts_one (ih.q (blk_ok kk scope s H Cc cl fp) takes_no c Z)
        | _ :: _ :: _ => exact set_bad
  · rw [if_neg h]; exact set_bad
theorem set_ok {X W} (k : Sok cx sc G XR C X W) {x : Str} {xp : Pos} {e : Expr} {i : Nat} {ann : Bool} (Z : Set1) (hx : plainName x = true) (hs : sto sc x = true) (hi : cx.slot x = some i) : PS X (.Assign [.Name x xp] e pos) (tS G Z XR W (es C (.set i ann (cE cx fu sc e)))) := by
  have N := k.k.N
  obtain ⟨l1, l2⟩ := k.lo hs
  have plain : swapsWith e (some (.Name x xp)) pos.line X.env = pure false → PS X (.Assign [.Name x xp] e pos) (tS G Z XR W (es C (.set i ann (cE cx fu sc e)))) := fun hc =>
    sS_set (ps_set (by rw [N]; exact k.k.nd) (by rw [N]; exact slot_at hi) l1 ((all_ok fu).e k.k k.tk e Z) hc l2) fun σ H Q h => h
  by_cases hc : calmE e = true
  · exact plain (swaps_no hc)
  · match fu, plain with
    | 0, _ => unfold cE; exact set_bad
    | m + 1, plain =>
      cases e with
      | ListComp elt gens scope lp =>
        have sw : swapsWith (.ListComp elt gens scope lp) (some (.Name x xp)) pos.line X.env = pure (X.env.blockKind == .function && X.env.kindOf x == some .local && xp.line == lp.line && !(scope.names.any fun (n, k) => n == x && (k == .local || k == .cell))) := rfl
        cases hb : (X.env.blockKind == .function && X.env.kindOf x == some .local && xp.line == lp.line && !(scope.names.any fun (n, k) => n == x && (k == .local || k == .cell))) with
        | false => exact plain (by rw [sw, hb])
        | true =>
          rw [hb] at sw
          obtain ⟨b1, _⟩ := Bool.and_eq_true_iff.mp hb
          obtain ⟨b2, _⟩ := Bool.and_eq_true_iff.mp b1
          obtain ⟨_, b3⟩ := Bool.and_eq_true_iff.mp b2
          have hl : X.env.scope.names.lookup x = some .local := eq_of_beq b3
          clear plain
          unfold cE
          split <;> first | exact set_bad | skip
          all_goals first
            | (rename_i heq; cases heq; match m with
               | 0 => unfold cLC; exact set_bad
               | m' + 1 => exact setLC_ok k Z hi hl sw)
            | exact set_bad
            | (exfalso; rename_i heq; cases heq)
      | SetComp _ _ _ _ => unfold cE; exact set_bad
      | DictComp _ _ _ _ _ => unfold cE; exact set_bad
      | _ => exact (hc rfl).elim
theorem stepS (ih : AllS cx sc G XR C fu n) {X W} (k : Sok cx sc G XR C X W) (s : Stmt) (Z : Set1) : PS X s (tS G Z XR W (es C (cS cx sc fu (n + 1) s))) := by
  have A := all_ok (cx := cx) (G := G) (XR := XR) (C := C) fu
  have N := k.k.N
  have nd : X.N.Nodup := by rw [N]; exact k.k.nd
  unfold cS
  split
  · rename_i x xp e pos
    by_cases c : (plainName x && sto sc x) = true
    · rw [if_pos c]
      obtain ⟨c1, c2⟩ := Bool.and_eq_true_iff.mp c
      cases hi : cx.slot x with
      | none => exact ps_bad
      | some i => exact set_ok k Z c1 c2 hi
    · rw [if_neg c]; exact ps_bad
  · rename_i tgs kt pt es' k2 pt2 pos
    by_cases c : (noStars es' && tgs.length == es'.length && decide (tgs.length ≤ 3) && decide (2 ≤ tgs.length) && (es'.all (foldedForSure 8) || !(es'.all (constantsAlone 8)))) = true
    · rw [if_pos c]
      obtain ⟨c1, c2⟩ := Bool.and_eq_true_iff.mp c
      obtain ⟨c3, c4⟩ := Bool.and_eq_true_iff.mp c1
      obtain ⟨c5, c6⟩ := Bool.and_eq_true_iff.mp c3
      obtain ⟨c7, c8⟩ := Bool.and_eq_true_iff.mp c5
      cases ht : cTgs cx sc tgs with
      | none => exact ps_bad
      | some ts =>
        show PS X _ (tS G Z XR W (es C (if nodupN ts = true then .par ts (cL cx fu sc es') else .bad)))
        by_cases hn : nodupN ts = true
        · rw [if_pos hn]
          exact par_ok k Z c7 (eq_of_beq c8) (of_decide_eq_true c6) (of_decide_eq_true c4) c2 ht hn
        · rw [if_neg hn]; exact ps_bad
    · rw [if_neg c]; exact ps_bad
  · rename_i tgs kk p e pos hne
    cases ht : cT cx sc fu (.Tuple tgs kk p) with
    | none => exact ps_bad
    | some t =>
      have hg := (target_ok k.k (fun x h => k.lo h) fu).1 _ _ ht
      refine sS_tset (fun te he => ps_asg he hg (show swapsWith e (some (.Tuple tgs kk p)) pos.line X.env = pure false from swaps_other rfl) ?_ rfl) (A.e k.k k.tk e Z)
      cases e <;> first | rfl | exact (hne _ _ _ rfl).elim
  · rename_i v vp i ip e pos
    by_cases c : (vis sc v && plainName v && !sliced i) = true
    · rw [if_pos c]
      obtain ⟨c1, c2⟩ := Bool.and_eq_true_iff.mp c
      obtain ⟨c3, c4⟩ := Bool.and_eq_true_iff.mp c1
      obtain ⟨p1, p2, _⟩ := plain_at c4
      cases hi : cx.slot v with
      | none => exact ps_bad
      | some j =>
        exact sS_six (fun te ti he hy => ps_asg he (pg_sub (pe_var (by rw [N]; exact slot_at hi) (k.k.vi c3) p1 p2) hy set_list (by intro w; cases i <;> first | rfl | cases c2)) (show swapsWith e (some (.Subscript (.Name v vp) i ip)) pos.line X.env = pure false from swaps_other rfl) rfl rfl) (A.e k.k k.tk e Z) (A.e k.k k.tk i Z)
    · rw [if_neg c]; exact ps_bad
  · rename_i x xp o e pos
    by_cases c : (plainName x && sto sc x) = true
    · rw [if_pos c]
      obtain ⟨c1, c2⟩ := Bool.and_eq_true_iff.mp c
      obtain ⟨l1, l2⟩ := k.lo c2
      cases hi : cx.slot x with
      | none => exact ps_bad
      | some i =>
        have hN : X.N[i]? = some x := by rw [N]; exact slot_at hi
        cases o <;> first
          | exact ps_bad
          | exact sS_aug (o := .add) (fun te he => ps_aug nd hN l1 he ipAdd l2) (A.e k.k k.tk e Z)
          | exact sS_aug (o := .sub) (fun te he => ps_aug nd hN l1 he ipSub l2) (A.e k.k k.tk e Z)
    · rw [if_neg c]; exact ps_bad
  · rename_i v vp i ip o e pos
    by_cases c : (vis sc v && plainName v && !sliced i) = true
    · rw [if_pos c]
      obtain ⟨c1, c2⟩ := Bool.and_eq_true_iff.mp c
      obtain ⟨c3, c4⟩ := Bool.and_eq_true_iff.mp c1
      obtain ⟨p1, p2, _⟩ := plain_at c4
      cases hi : cx.slot v with
      | none => exact ps_bad
      | some j =>
        have hv : PE X (.Name v vp) (tVar j) := pe_var (by rw [N]; exact slot_at hi) (k.k.vi c3) p1 p2
        cases o <;> first
          | exact ps_bad
          | exact sS_aix (o := .add) (fun te ti he hy => ps_augS hv hy pGet he ipAdd set_list (by intro a b w; cases i <;> first | rfl | cases c2)) (A.e k.k k.tk e Z) (A.e k.k k.tk i Z)
          | exact sS_aix (o := .sub) (fun te ti he hy => ps_augS hv hy pGet he ipSub set_list (by intro a b w; cases i <;> first | rfl | cases c2)) (A.e k.k k.tk e Z) (A.e k.k k.tk i Z)
    · rw [if_neg c]; exact ps_bad
  · rename_i x pos
    split
    · exact sS_ex rfl (A.e k.k k.tk _ Z)
    · exact ps_bad
  · exact sS_ret (A.e k.k k.tk _ Z)
  · exact sS_if (A.q k.k k.tk _ Z) (ih.ss k _ Z) (ih.ss k _ Z)
  · exact sS_wh k.own (A.q k.k k.tk _ Z) (ih.ss k _ Z)
  · rename_i tg it xs pos
    cases ht : cT cx sc fu tg with
    | none => exact ps_bad
    | some t =>
      cases hi : cI cx fu sc tg it with
      | none => exact ps_bad
      | some kl =>
        obtain ⟨kk, l⟩ := kl
        exact sS_for k.own k.k.calm (A.i k.k k.tk tg it kk l Z hi) ((target_ok k.k (fun x h => k.lo h) fu).1 _ _ ht) (notSet fu hi X.env) fun Z => ih.ss k xs Z
  · rename_i x xp as cp pos
    unfold cR
    cases hcl : clIx cx.cls x with
    | none => exact ps_bad
    | some ic =>
      obtain ⟨i, c⟩ := ic
      obtain ⟨c1, c2⟩ := clIx_at hcl
      show PS X _ (tS G Z XR W (es C (if (plainName x && glo sc x) = true then (match c.fld, as with
        | none, [] => .rais i .nil
        | some _, [y] => if starred y then .bad else .rais i (.cons (cE cx fu sc y) .nil)
        | _, _ => .bad) else .bad)))
      by_cases h : (plainName x && glo sc x) = true
      · rw [if_pos h]
        obtain ⟨h1, h2⟩ := Bool.and_eq_true_iff.mp h
        have hd := (plain_at h1).1
        cases hf : c.fld with
        | none =>
          match as with
          | [] => exact raise0_ok k.k.ex k.k.calm k.tk c1 c2 hf (k.k.gl h2) hd
          | _ :: _ => exact ps_bad
        | some f =>
          match as with
          | [] => exact ps_bad
          | [y] =>
            show PS X _ (tS G Z XR W (es C (if starred y = true then .bad else .rais i (.cons (cE cx fu sc y) .nil))))
            by_cases hs : starred y = true
            · rw [if_pos hs]; exact ps_bad
            · rw [if_neg hs]
              exact raise1_ok k.k.ex k.k.calm k.tk c1 c2 hf (k.k.gl h2) hd (star1 (Bool.eq_false_iff.mpr hs)) (A.e k.k k.tk y Z)
          | _ :: _ :: _ => exact ps_bad
      · rw [if_neg h]; exact ps_bad
  · rename_i xs h0 hs pos
    cases hc : cHs cx.slot sc cx.cls (h0 :: hs) with
    | none => exact ps_bad
    | some kk =>
      have S : Suit X sc cx.cls XR cx.slot := { ex := k.k.ex, nd := nd, sc := k.k.sc, sl := fun x i h => by rw [N]; exact slot_at h, isi := k.k.isi, fn := k.fn }
      refine sS_try S k.st k.fr k.tk hc fun W' pn xe tk' own' => ?_
      have k' : Sok cx sc G XR C (X.tr pn xe) W' :=
        { k := { calm := k.k.calm, N := k.k.N, nd := k.k.nd, sc := k.k.sc, un := k.k.un, blt := k.k.blt, fns := k.k.fns, ex := { cls := k.k.ex.cls, xr := k.k.ex.xr, ve := k.k.ex.ve, le := k.k.ex.le, su := k.k.ex.su, dp := k.k.ex.dp }, isi := k.k.isi }
          tk := tk', own := own', fn := k.fn, bk := k.bk, st := k.st, fr := k.fr }
      exact ih.ss k' xs Z
  · exact sS_pass
  · exact sS_brk
  · exact sS_cont
  · exact ps_bad
theorem alls_ok : ∀ n, AllS cx sc G XR C fu n
  | 0 => { s := fun _ s Z => by unfold cS; exact ps_bad, ss := fun _ s Z => by unfold cSs; exact pss_bad }
  | n + 1 => { s := stepS (alls_ok n), ss := stepSs (alls_ok n) }
end
end Lt
end
section
set_option maxRecDepth 100000
namespace Lt
open PySem PySem.Spec PyProof.Rows L2
section
variable {G : Nat → Option Addr} {Z : Set1} {H : Hp}
theorem Ars.len {as0 : List Addr} : ∀ {io : List Bool} {ds : List D} {vs : List V} {as : List Addr}, Ars G Z as0 H io ds vs as → ds.length = vs.length ∧ io.length = vs.length
  | _, _, _, _, .nil => ⟨rfl, rfl⟩
  | _, _, _, _, .val _ t => ⟨congrArg (· + 1) t.len.1, congrArg (· + 1) t.len.2⟩
  | _, _, _, _, .chg _ _ _ t => ⟨congrArg (· + 1) t.len.1, congrArg (· + 1) t.len.2⟩
/-- the slots at the start of a def -/
theorem Ars.start {as0 : List Addr} : ∀ {io : List Bool} {ds : List D} {vs : List V} {as : List Addr}, Ars G Z as0 H io ds vs as → ∃ e, start0 io ds = some e ∧ e.length = vs.length ∧
    (∀ j d, slot e j = .pu d → ∃ v, vs[j]? = some v ∧ Rp G (also Z (inA as0)) H d v) ∧ (∀ j o l d, slot e j = .mu o l d → o = false ∧ l = false ∧ ∃ a, a ∈ as ∧ vs[j]? = some (.ref a) ∧ Bx G (also Z (inA as0)) H a d ∧ ¬ Z a) ∧
    (∀ j k o l d o' l' d' a, slot e j = .mu o l d → slot e k = .mu o' l' d' → vs[j]? = some (.ref a) → vs[k]? = some (.ref a) → j = k) ∧ (∀ a, a ∈ as → ∃ j d, slot e j = .mu false false d ∧ vs[j]? = some (.ref a))
  | _, _, _, _, .nil => ⟨[], rfl, rfl, fun _ _ h => (nomatch (show Sl.no = .pu _ from h)), fun _ _ _ _ h => (nomatch (show Sl.no = .mu _ _ _ from h)), fun _ _ _ _ _ _ _ _ _ h => (nomatch (show Sl.no = .mu _ _ _ from h)), fun _ h => by cases h⟩
  | _, _, _, _, @Ars.val _ _ _ _ d v bs ds vs as r t => by
    obtain ⟨e, h1, h2, h3, h4, h5, h6⟩ := t.start
    refine ⟨.pu d :: e, by unfold start0; rw [h1]; rfl, congrArg (· + 1) h2, fun j d' h => ?_, fun j o l d' h => ?_, fun j k o l d1 o' l' d2 a p q u w => ?_, fun a ha => ?_⟩
    · cases j with
      | zero => cases (show Sl.pu d = .pu d' from h); exact ⟨v, rfl, r⟩
      | succ j => exact h3 j d' h
    · cases j with
      | zero => cases (show Sl.pu d = .mu o l d' from h)
      | succ j => exact h4 j o l d' h
    · cases j with
      | zero => cases (show Sl.pu d = .mu o l d1 from p)
      | succ j =>
        cases k with
        | zero => cases (show Sl.pu d = .mu o' l' d2 from q)
        | succ k => exact congrArg (· + 1) (h5 j k o l d1 o' l' d2 a p q u w)
    · obtain ⟨j, d', k1, k2⟩ := h6 a ha
      exact ⟨j + 1, d', k1, k2⟩
  | _, _, _, _, @Ars.chg _ _ _ _ d a bs ds vs as r nz na t => by
    obtain ⟨e, h1, h2, h3, h4, h5, h6⟩ := t.start
    have far : ∀ j o l d', slot e j = .mu o l d' → vs[j]? ≠ some (.ref a) := fun j o l d' h z => by
      obtain ⟨_, _, b, hb, hv, _⟩ := h4 j o l d' h
      rw [z] at hv
      cases hv
      exact na hb
    refine ⟨.mu false false d :: e, by unfold start0; rw [h1]; rfl, congrArg (· + 1) h2, fun j d' h => ?_, fun j o l d' h => ?_, fun j k o l d1 o' l' d2 b p q u w => ?_, fun b hb => ?_⟩
    · cases j with
      | zero => cases (show Sl.mu false false d = .pu d' from h)
      | succ j => exact h3 j d' h
    · cases j with
      | zero => cases (show Sl.mu false false d = .mu o l d' from h); exact ⟨rfl, rfl, a, List.mem_cons_self, rfl, r, nz⟩
      | succ j =>
        obtain ⟨k1, k2, b, k3, k4⟩ := h4 j o l d' h
        exact ⟨k1, k2, b, List.mem_cons_of_mem _ k3, k4⟩
    · cases j with
      | zero =>
        cases k with
        | zero => rfl
        | succ k =>
          cases (show some (V.ref a) = some (.ref b) from u)
          exact absurd w (far k o' l' d2 q)
      | succ j =>
        cases k with
        | zero =>
          cases (show some (V.ref a) = some (.ref b) from w)
          exact absurd u (far j o l d1 p)
        | succ k => exact congrArg (· + 1) (h5 j k o l d1 o' l' d2 b p q u w)
    · rcases List.mem_cons.mp hb with rfl | hb
      · exact ⟨0, d, rfl, rfl⟩
      · obtain ⟨j, d', k1, k2⟩ := h6 b hb
        exact ⟨j + 1, d', k1, k2⟩
theorem slot_app {e : Env} {m j : Nat} : slot (e ++ List.replicate m .no) j = slot e j := by
  unfold slot
  rw [List.getD_eq_getElem?_getD, List.getD_eq_getElem?_getD]
  by_cases h : j < e.length
  · rw [List.getElem?_append_left h]
  · rw [List.getElem?_append_right (by omega), List.getElem?_eq_none (l := e) (by omega)]
    rw [List.getElem?_replicate]
    split <;> rfl
theorem start_at {N : List Str} {vs : List V} {j : Nat} {v : V} (h : vs[j]? = some v) : (L2.start N vs)[j]? = some (some v) := by
  unfold L2.start
  have hj : j < vs.length := (List.getElem?_eq_some_iff.mp h).1
  rw [List.getElem?_append_left (by rw [List.length_map]; exact hj), List.getElem?_map, h]
  rfl
/-- the state at the start of a def -/
theorem start_ok {io : List Bool} {ds : List D} {vs : List V} {as : List Addr} {N : List Str} {m : Nat} (ha : Ars G Z as H io ds vs as) (zd : ∀ b, Z b → H b ≠ none) (hN : N.length = vs.length + m) :
    ∃ e, start0 io ds = some e ∧ Rel G Z (e ++ List.replicate m .no) (L2.start N vs) H ∧ (∀ b, own (e ++ List.replicate m .no) (L2.start N vs) b ↔ b ∈ as) ∧ (∀ j d, slot (e ++ List.replicate m .no) j = .mu false false d → ∃ a, a ∈ as ∧ vs[j]? = some (.ref a)) := by
  obtain ⟨e, h1, h2, h3, h4, h5, h6⟩ := ha.start
  have ow : ∀ b, own (e ++ List.replicate m .no) (L2.start N vs) b ↔ b ∈ as := fun b => by
    constructor
    · rintro ⟨j, o, d, k1, k2⟩
      rw [slot_app] at k1
      obtain ⟨_, _, a, a1, a2, _⟩ := h4 j o false d k1
      rw [start_at a2] at k2
      cases k2
      exact a1
    · intro hb
      obtain ⟨j, d, k1, k2⟩ := h6 b hb
      exact ⟨j, false, d, by rw [slot_app]; exact k1, start_at k2⟩
  have sub : ∀ b, also Z (own (e ++ List.replicate m .no) (L2.start N vs)) b → also Z (inA as) b := fun b z => z.imp id (ow b).mp
  refine ⟨e, h1, ⟨?_, fun j d h => ?_, fun j o d h => ?_, fun j o d h => ?_, fun j k o d o' d' a p q u w => ?_, zd⟩, ow, fun j d h => ?_⟩
  · unfold L2.start
    rw [List.length_append, List.length_replicate, List.length_append, List.length_map, List.length_replicate, h2, hN]
    omega
  · rw [slot_app] at h
    obtain ⟨v, k1, k2⟩ := h3 j d h
    exact ⟨v, start_at k1, k2.anti sub⟩
  · rw [slot_app] at h
    obtain ⟨_, _, a, _, k1, k2, k3⟩ := h4 j o false d h
    exact ⟨a, start_at k1, k2.anti sub, k3⟩
  · rw [slot_app] at h
    obtain ⟨_, k, _⟩ := h4 j o true d h
    cases k
  · rw [slot_app] at p q
    obtain ⟨_, _, b, _, k1, _⟩ := h4 j o false d p
    obtain ⟨_, _, c, _, k2, _⟩ := h4 k o' false d' q
    have z1 := start_at (N := N) k1
    have z2 := start_at (N := N) k2
    rw [u] at z1
    rw [w] at z2
    cases z1
    cases z2
    exact h5 j k o false d o' false d' a p q k1 k2
  · rw [slot_app] at h
    obtain ⟨_, _, a, a1, a2, _⟩ := h4 j false false d h
    exact ⟨a, a1, a2⟩
end
end Lt
end
section
set_option maxRecDepth 100000
namespace Lt
open PySem PySem.Spec PyProof.Rows L2
section
variable {G : Nat → Option Addr} {Z Z' : Set1} {H H' : Hp} {e0 e' : Env} {σ0 σ' : L2.St}
/-- what is lent stands where it stood -/
theorem outs_own {as0 : List Addr} {vs0 : List V} (rel : Rel G Z' e' σ' H') (st : Stp e0 σ0 H e' σ' H') (at0 : ∀ (j : Nat) (a : Addr), vs0[j]? = some (V.ref a) → σ0[j]? = some (some (V.ref a))) :
    ∀ {io : List Bool} {ds : List D} {vs : List V} {as : List Addr}, Ars G Z as0 H io ds vs as → ∀ (e : Env) (k : Nat) (outs : List D), (∀ j, slot e j = slot e' (k + j)) → (∀ j, vs[j]? = vs0[k + j]?) → outsOf io e = some outs →
      (∀ a, a ∈ as → own e' σ' a) ∧ Outs G (also Z' (own e' σ')) H' as outs
  | _, _, _, _, .nil, e, k, outs, _, _, h => by
    cases h
    exact ⟨fun a ha => (by cases ha), trivial⟩
  | _, _, _, _, @Ars.val _ _ _ _ d v bs ds vs as r t, e, k, outs, se, sv, h => by
    cases e with
    | nil => cases h
    | cons x e =>
      exact outs_own rel st at0 t e (k + 1) outs (fun j => by rw [Nat.add_assoc, Nat.add_comm 1 j]; exact se (j + 1)) (fun j => by rw [Nat.add_assoc, Nat.add_comm 1 j]; exact sv (j + 1)) h
  | _, _, _, _, @Ars.chg _ _ _ _ d a bs ds vs as r nz na t, e, k, outs, se, sv, h => by
    cases e with
    | nil => cases h
    | cons x e =>
      cases x with
      | mu o l d2 =>
        cases o with
        | true => cases h
        | false =>
          cases l with
          | true => cases h
          | false =>
            have h' : (outsOf bs e).map (d2 :: ·) = some outs := h
            cases ho : outsOf bs e with
            | none => rw [ho] at h'; cases h'
            | some os =>
              rw [ho] at h'
              cases h'
              obtain ⟨i1, i2⟩ := outs_own rel st at0 t e (k + 1) os (fun j => by rw [Nat.add_assoc, Nat.add_comm 1 j]; exact se (j + 1)) (fun j => by rw [Nat.add_assoc, Nat.add_comm 1 j]; exact sv (j + 1)) ho
              have hk : slot e' k = .mu false false d2 := (se 0).symm
              obtain ⟨b, b1, b2, _⟩ := rel.mu k false d2 hk
              have e1 := (st.io k d2 hk).2
              rw [b1, at0 k a (sv 0).symm] at e1
              cases e1
              refine ⟨fun c hc => ?_, b2, i2⟩
              rcases List.mem_cons.mp hc with rfl | hc
              · exact ⟨k, false, d2, hk, b1⟩
              · exact i1 c hc
      | _ => cases h
/-- the end of a def -/
theorem ends_ok {XR : XRel} {io : List Bool} {ds : List D} {vs : List V} {as : List Addr} {N : List Str} {m : Nat} {e : Env} {o : Fl} {Q : VK} {E : XK} (ha : Ars G Z as H io ds vs as) (ow : ∀ b, own e (L2.start N vs) b ↔ b ∈ as)
    (q : match backs io o with
      | .rt fr d outs => ∀ v H', Left as H H' → (match fr with
          | false => Rp G (also Z (inA as)) H' d v ∧ Outs G (also Z (inA as)) H' as outs
          | true => ∃ a, v = .ref a ∧ H a = none ∧ Bx G (also (plus Z a) (inA as)) H' a d ∧ Outs G (also (plus Z a) (inA as)) H' as outs) → Q v H'
      | .ex x => ∀ cls dx H', Left as H H' → XR x cls dx H' → E cls dx H'
      | .st => False) : FinS G Z XR (fun cls dx _ H' => E cls dx H') e (L2.start N vs) H o { nx := fun _ H' => Q .non H', rt := Q } := by
  have left : ∀ {e' : Env} {σ' : L2.St} {H' : Hp}, Stp e (L2.start N vs) H e' σ' H' → Left as H H' := fun st => ⟨fun b ob h n => (st.keep.keep b ob h fun z => n ((ow b).mp z)).1, st.keep.tup, st.dom⟩
  cases o with
  | nx e' =>
    intro σ' H' rel st
    cases ho : outsOf io e' with
    | none =>
      have : backs io (.nx e') = .st := by show (match outsOf io e' with | some ds => CR.rt false .non ds | none => .st) = _; rw [ho]
      rw [this] at q
      exact q.elim
    | some outs =>
      have : backs io (.nx e') = .rt false .non outs := by show (match outsOf io e' with | some ds => CR.rt false .non ds | none => .st) = _; rw [ho]
      rw [this] at q
      obtain ⟨k1, k2⟩ := outs_own rel st (fun j a h => start_at h) ha e' 0 outs (fun j => by rw [Nat.zero_add]) (fun j => by rw [Nat.zero_add]) ho
      exact q .non H' (left st) ⟨.non, k2.anti fun b z => z.imp id (k1 b)⟩
  | rt fr d e' =>
    intro v σ' H' rel st rt
    cases ho : outsOf io e' with
    | none =>
      have : backs io (.rt fr d e') = .st := by show (match outsOf io e' with | some ds => CR.rt fr d ds | none => .st) = _; rw [ho]
      rw [this] at q
      exact q.elim
    | some outs =>
      have : backs io (.rt fr d e') = .rt fr d outs := by show (match outsOf io e' with | some ds => CR.rt fr d ds | none => .st) = _; rw [ho]
      rw [this] at q
      cases fr with
      | false =>
        obtain ⟨k1, k2⟩ := outs_own rel st (fun j a h => start_at h) ha e' 0 outs (fun j => by rw [Nat.zero_add]) (fun j => by rw [Nat.zero_add]) ho
        exact q v H' (left st) ⟨rt.anti fun b z => z.imp id (k1 b), k2.anti fun b z => z.imp id (k1 b)⟩
      | true =>
        obtain ⟨a, e1, e2, e3, e4, e5⟩ := rt
        obtain ⟨k1, k2⟩ := outs_own e5 st (fun j a h => start_at h) ha e' 0 outs (fun j => by rw [Nat.zero_add]) (fun j => by rw [Nat.zero_add]) ho
        refine q v H' (left st) ⟨a, e1, ?_, e4.anti fun b z => z.imp id (k1 b), k2.anti fun b z => z.imp id (k1 b)⟩
        rcases e2 with e2 | e2
        · exact e2
        · exact absurd (k1 a ((ow a).mp e2)) e5.apart
  | ex x e' => exact fun cls dx σ' H' rel st xr => q cls dx H' (left st) xr
  | st => exact q
  | bk e' => exact q.elim
  | ct e' => exact q.elim
end
end Lt
end
section
set_option maxRecDepth 100000
namespace Lt
open PySem PySem.Spec PyProof.Rows L2
section
variable {P : Program} {w : World} {K : PySem.W.Frag} {mg : Str → Option Value} {base : Heap} {G : Nat → Option Addr} {XR : XRel} {tab : List Df} {k fu : Nat}
/-- what is known of the module beside its defs -/
structure Glob (P : Program) (K : PySem.W.Frag) (mg : Str → Option Value) (cs : List Cl) (XR : XRel) : Prop where
  cls : ∀ i c, cs[i]? = some c → ∃ C, ClsOk P K mg cs i c C
  xr : XR = xrOf cs mg
  ve : mg "ValueError" = none
  le : mg "LookupError" = none
  su : mg "super" = none
  isi : mg "isinstance" = none
/-- a def keeps its promise if those that it calls do -/
theorem fn_step {x qual : Str} {params : Arguments} {body : List Stmt} {scope : Scope} {f : Addr} {fd : FuncData} {g : Fn} {cx : Ct} (F : FunD K x qual params body scope [] [] f fd) (S : FnScope cx.N g.ps scope)
    (row : tab[g.ix]? = some ⟨g.ps.length, g.io, cx.N.length, cSs cx scope fu fu body⟩) (hio : g.io.length = g.ps.length) (hN : g.ps.length ≤ cx.N.length) (blt : ∀ x ∈ bltNames, cx.fn x = none → mg x = none)
    (gl : Glob P K mg cx.cls XR) (fns : ∀ g ∈ cx.tab, ∃ f fd, mg g.name = some (.ref f) ∧ G g.ix = some f ∧ PySem.W.keepIn K (.ref f) = true ∧ Binds K fd g.ps [] ∧ PlainFd fd g.ps ∧ FnOk P w K mg base (CX P w) k f fd g.ps (prom G XR (run tab k) g.ix g.io)) :
    FnOk P w K mg base (CX P w) (k + 1) f fd g.ps (prom G XR (run tab (k + 1)) g.ix g.io) := by
  refine F.ok S (fun vs H Q E ⟨Z, ds, as, ha, _⟩ => by rw [← hio]; exact ha.len.2.symm) fun cdv A outer s H vs Q E hr ⟨Z, ds, as, ha, zd, q⟩ => ?_
  have hl : vs.length = g.ps.length := by rw [← hio]; exact ha.len.2.symm
  obtain ⟨e, s1, rel, ow, _⟩ := start_ok (N := cx.N) (m := cx.N.length - g.ps.length) ha zd (by omega)
  have eq : run tab (k + 1) g.ix ds = backs g.io (es (run tab k) (cSs cx scope fu fu body) (e ++ List.replicate (cx.N.length - g.ps.length) .no)) := by
    show (match tab[g.ix]? with
      | some df => runDf (run tab k) df ds
      | none => .st) = _
    rw [row]
    show runDf (run tab k) _ ds = _
    unfold runDf
    rw [s1]
  rw [eq] at q
  have sok : Sok cx scope G XR (run tab k) (cxOf (CX P w) P w K mg base cx.N qual scope f cdv A outer s H E) (fun cls dx _ H' => E cls dx H') :=
    { k := { calm := rfl, N := rfl, nd := S.nd, sc := rfl, un := by have := hr.un; show (A.deeper _).units + 65 < _; omega, blt := blt, fns := fun g h => let ⟨f, fd, h1, h2, h3, h4, h5, h6⟩ := fns g h; ⟨f, fd, k, h1, h2, h3, h4, h5, h6, hr⟩
             ex := { cls := gl.cls, xr := gl.xr, ve := gl.ve, le := gl.le, su := gl.su, dp := by have := hr.dp; show (A.deeper _).depth + 5 < _; omega }
             isi := gl.isi }
      tk := takes_of rfl rfl rfl rfl
      own := passes_of rfl
      fn := fun _ => rfl
      st := rfl
      fr := rfl
      bk := by show (if scope.kind.isAnnotationScope = true then ScopeKind.function else scope.kind) = _; rw [S.kind]; rfl }
  refine ⟨_, (alls_ok (fu := fu) fu).ss sok body Z, ?_⟩
  exact ⟨_, rel, ends_ok (m := cx.N.length - g.ps.length) ha ow q⟩
end
end Lt
namespace Lt
open PySem PySem.Spec PyProof.Rows L2
section
variable {P : Program} {w : World} {K : PySem.W.Frag} {mg : Str → Option Value} {base : Heap} {G : Nat → Option Addr} {XR : XRel} {tab : List Df} {fu : Nat}
/-- all that is asked of a def of the table -/
structure DefOk (K : PySem.W.Frag) (mg : Str → Option Value) (G : Nat → Option Addr) (tab : List Df) (fu : Nat) (fns : List Fn) (cls : List Cl) (g : Fn) : Prop where
  ok : ∃ (x qual : Str) (params : Arguments) (body : List Stmt) (scope : Scope) (f : Addr) (fd : FuncData) (N mu : List Str), FunD K x qual params body scope [] [] f fd ∧ FnScope N g.ps scope ∧ tab[g.ix]? = some ⟨g.ps.length, g.io, N.length, cSs ⟨N, fns, mu, cls⟩ scope fu fu body⟩ ∧
    g.io.length = g.ps.length ∧ g.ps.length ≤ N.length ∧ mg g.name = some (.ref f) ∧ G g.ix = some f ∧ Binds K fd g.ps [] ∧ PlainFd fd g.ps
theorem fns_ok {fns : List Fn} {cls : List Cl} (gl : Glob P K mg cls XR) (all : ∀ g ∈ fns, DefOk K mg G tab fu fns cls g) (blt : ∀ x ∈ bltNames, (fns.find? fun f => f.name == x) = none → mg x = none) :
    ∀ k, ∀ g ∈ fns, ∃ f fd, mg g.name = some (.ref f) ∧ G g.ix = some f ∧ PySem.W.keepIn K (.ref f) = true ∧ Binds K fd g.ps [] ∧ PlainFd fd g.ps ∧ FnOk P w K mg base (CX P w) k f fd g.ps (prom G XR (run tab k) g.ix g.io)
  | 0, g, hg => by
    obtain ⟨x, qual, params, body, scope, f, fd, N, mu, F, S, row, hio, hN, h1, h2, h3, h4⟩ := (all g hg).ok
    refine ⟨f, fd, h1, h2, F.kp, h3, h4, ⟨fun vs H Q E ⟨Z, ds, as, ha, zd, q⟩ => q.elim, fun A outer s H args us vs Q E hr e0 hb hv ⟨Z, ds, as, ha, zd, q⟩ => q.elim⟩⟩
  | k + 1, g, hg => by
    obtain ⟨x, qual, params, body, scope, f, fd, N, mu, F, S, row, hio, hN, h1, h2, h3, h4⟩ := (all g hg).ok
    exact ⟨f, fd, h1, h2, F.kp, h3, h4, fn_step (cx := ⟨N, fns, mu, cls⟩) F S row hio hN blt gl fun g' hg' => fns_ok gl all blt k g' hg'⟩
end
end Lt
end
section
set_option maxRecDepth 100000
namespace Lt
open PySem PySem.Spec PyProof.Rows L2
/-! the known objects without lists -/
def isL (o : Obj) : Bool := (match o.data with
  | .seq _ _ => true
  | _ => false) && o.cls == .type "list"
def thinF (K : PySem.W.Frag) (a : Addr) : Bool := match K.lookup a with
  | some o => !isL o
  | none => true
def thin (K : PySem.W.Frag) : PySem.W.Frag := K.filter fun p => thinF K p.1
theorem look_key {f : Addr → Bool} {a : Addr} : ∀ {l : List (Addr × Obj)}, (l.filter fun p => f p.1).lookup a = if f a = true then l.lookup a else none
  | [] => by simp
  | (b, o) :: r => by
    have ih := look_key (f := f) (a := a) (l := r)
    by_cases hb : f b = true
    · rw [List.filter_cons_of_pos (by exact hb)]
      by_cases e : a = b
      · subst e
        rw [if_pos hb]
        simp
      · simp only [List.lookup_cons, beq_eq_false_iff_ne.mpr e]
        exact ih
    · rw [List.filter_cons_of_neg (by exact hb), ih]
      by_cases e : a = b
      · subst e
        rw [if_neg hb, if_neg hb]
      · simp only [List.lookup_cons, beq_eq_false_iff_ne.mpr e]
theorem thin_some {K : PySem.W.Frag} {a : Addr} {o : Obj} (h : (thin K).lookup a = some o) : K.lookup a = some o ∧ isL o = false := by
  unfold thin at h
  rw [look_key] at h
  by_cases c : thinF K a = true
  · rw [if_pos c] at h
    refine ⟨h, ?_⟩
    unfold thinF at c
    rw [h] at c
    simpa using c
  · rw [if_neg c] at h; cases h
theorem thin_keep {K : PySem.W.Frag} {a : Addr} {o : Obj} (h : K.lookup a = some o) (n : isL o = false) : (thin K).lookup a = some o := by
  unfold thin
  rw [look_key, if_pos (by unfold thinF; rw [h]; simp [n])]
  exact h
theorem thin_in {K : PySem.W.Frag} {h : Heap} (X : K.In h) : (thin K).In h := fun a o e => X a o (thin_some e).1
/-- a list that is read is a tracked one -/
theorem thin_rd {K : PySem.W.Frag} {H : Hp} {a : Addr} {xs : List V} (h : SqL (thin K) H a xs) : Rd H a (.lst xs) := by
  rcases h with h | ⟨o, its, n, h1, h2, h3, h4, _⟩
  · exact h
  · have := (thin_some h1).2
    unfold isL at this
    rw [h4, h2] at this
    exact absurd this (by simp)
theorem thin_code {K : PySem.W.Frag} {cd : Value} {q : Str} (h : PySem.W.codeIn K cd q = true) : PySem.W.codeIn (thin K) cd q = true := by
  unfold PySem.W.codeIn at h ⊢
  cases cd with
  | ref c =>
    dsimp only at h ⊢
    cases hc : K.lookup c with
    | none => rw [hc] at h; cases h
    | some o =>
      rw [hc] at h
      obtain ⟨oc, od, dt, sl⟩ := o
      cases dt with
      | fields vs =>
        rw [thin_keep hc rfl]
        exact h
      | _ => cases h
  | _ => cases h
theorem thin_fun {K : PySem.W.Frag} {x qual : Str} {params : Arguments} {body : List Stmt} {scope : Scope} {f : Addr} {fd : FuncData} (F : FunD K x qual params body scope [] [] f fd) : FunD (thin K) x qual params body scope [] [] f fd where
  ex := by
    obtain ⟨oc, od, dV, kV, doc, pm, an, cdv, ct, osl, h1, h2, h3, h4, h5⟩ := F.ex
    refine ⟨oc, od, dV, kV, doc, pm, an, cdv, ct, osl, h1, thin_keep h2 rfl, thin_code h3, ?_, .inl rfl⟩
    rcases h4 with h4 | ⟨h4, _⟩
    · exact .inl h4
    · exact absurd rfl h4
  kp := by
    obtain ⟨oc, od, dV, kV, doc, pm, an, cdv, ct, osl, h1, h2, _⟩ := F.ex
    unfold PySem.W.keepIn
    dsimp only
    rw [thin_keep h2 rfl]
end Lt
end
section
set_option maxRecDepth 100000
namespace Lt
open PySem PySem.Spec PyProof.Rows L2
/-! ### the classes of the row: all that is asked of them, as one truth about the known objects -/
theorem zip_look : ∀ {ps : List Str} {us : List Value}, us.length = ps.length → ∀ n ∈ ps, ((ps.zip us).lookup n).isSome = true
  | [], _, _, n, h => by cases h
  | p :: ps, u :: us, l, n, h => by
    by_cases e : n = p
    · subst e; simp
    · rcases List.mem_cons.mp h with h | h
      · exact absurd h e
      · rw [List.zip_cons_cons, List.lookup_cons, beq_false_of_ne e]
        exact zip_look (Nat.succ.inj l) n h
  | _ :: _, [], l, _, _ => by cases l
theorem zip_fm : ∀ {ps : List Str} {us : List Value}, ps.Nodup → us.length = ps.length → ∀ (q : Str → Option Value), (∀ n ∈ ps, q n = (ps.zip us).lookup n) → ps.filterMap (fun n => (q n).map (n, ·)) = ps.zip us
  | [], _, _, _, _, _ => rfl
  | p :: ps, u :: us, nd, l, q, h => by
    have h0 := h p (List.mem_cons_self ..)
    rw [List.zip_cons_cons, List.lookup_cons, beq_self_eq_true] at h0
    rw [List.filterMap_cons, h0]
    show (p, u) :: _ = _
    rw [List.zip_cons_cons]
    congr 1
    refine zip_fm (List.nodup_cons.mp nd).2 (Nat.succ.inj l) q fun n hn => ?_
    rw [h n (List.mem_cons_of_mem _ hn), List.zip_cons_cons, List.lookup_cons, beq_false_of_ne]
    rintro rfl
    exact (List.nodup_cons.mp nd).1 hn
  | _ :: _, [], _, l, _, _ => by cases l
theorem bind_pos {fd : FuncData} {ps : List Str} {us : List Value} (pl : PlainFd fd ps) (nd : ps.Nodup) (hl : us.length = ps.length) : bindArgs fd ⟨us, []⟩ = pure (ps.zip us) := by
  obtain ⟨as, h1, h2, h3⟩ := pl
  have miss : ps.filter (fun n => ((ps.zip us).lookup n).isNone) = [] := by
    rw [List.filter_eq_nil_iff]
    intro n hn
    have := zip_look hl n hn
    cases h : (ps.zip us).lookup n <;> simp_all
  have fm := zip_fm nd hl (fun n => (ps.zip us).lookup n) fun _ _ => rfl
  unfold bindArgs
  have sq : seqItems? .none = pure none := by first | rfl | (unfold seqItems? notAStandIn; rfl)
  rw [h1, h3]
  dsimp only
  simp only [List.nil_append, List.map_nil, sq, h2]
  have pb : ∀ {α β : Type} (a : α) (f : α → Sem β), (pure a >>= f) = f a := fun _ _ => rfl
  simp only [List.forIn_nil, pb, hl, Option.isNone_none, Option.getD_none, Nat.lt_irrefl, gt_iff_lt, decide_false, Bool.false_and, Bool.false_eq_true, if_false, List.drop_nil, List.length_nil, Nat.sub_zero, List.take_length, List.drop_length, miss, List.isEmpty_nil, Bool.not_true, List.append_nil, List.zip_nil_right, fm]
  try rfl
def eqV (a b : Option (Option Value)) : Bool := decide (a = b)
def isB (K : PySem.W.Frag) (C : Addr) : Bool :=
  (PySem.W.clsIn K C).isSome && decide (PySem.W.findIn K (.ref C) "__getattribute__" = some (some (.builtin "BaseException.__getattribute__"))) && decide (PySem.W.findIn K (.ref C) "__getattr__" = some none) && decide (PySem.W.subIn K (.ref C) (.type "BaseException") = some true) &&
  decide (PySem.W.findIn K (.ref C) "__class__" = some (some (.builtin "object.__class__"))) && decide (PySem.W.specialIn K (.builtin "object.__class__") "__get__" = some (some (.builtin "getset_descriptor.__get__"))) && decide (PySem.W.takesIn K (.builtin "object.__class__") = some true) && decide (PySem.W.mroIn K C (.type "object") = some true)
theorem isB_ok {K : PySem.W.Frag} {C : Addr} (h : isB K C = true) : IsC K C := by
  unfold isB at h
  simp only [Bool.and_eq_true, decide_eq_true_eq] at h
  obtain ⟨⟨⟨⟨⟨⟨⟨h1, h2⟩, h3⟩, h4⟩, h5⟩, h6⟩, h7⟩, h8⟩ := h
  exact ⟨h1, h2, h3, h4, h5, h6, h7, h8⟩
/-- __init__'s two statements -/
def bodyB (sf pn f : Str) : List Stmt → Bool
  | [.Expr (.Call (.Attribute (.Call (.Name s _) [] [] _) i p2) [.Name a _] [] p4) _, .Assign [.Attribute (.Name b _) g _] (.Name c _) _] =>
    s == ("super" : Str) && i == ("__init__" : Str) && a == pn && b == sf && g == f && c == pn && (p2.endLine == p4.line)
  | _ => false
theorem bodyB_ok {sf pn f : Str} {body : List Stmt} (h : bodyB sf pn f body = true) : LowBody sf pn f body := by
  unfold bodyB at h
  split at h
  · simp only [Bool.and_eq_true, beq_iff_eq] at h
    obtain ⟨⟨⟨⟨⟨⟨h1, h2⟩, h3⟩, h4⟩, h5⟩, h6⟩, h7⟩ := h
    subst h1 h2 h3 h4 h5 h6
    exact ⟨_, _, _, _, _, _, _, _, _, _, by simpa using h7, rfl⟩
  · cases h
def lookB (sc : Scope) (x : Str) (k : NameKind) : Bool := decide (sc.names.lookup x = some k)
def noCell (sc : Scope) : Bool := sc.names.all fun y => match y.2 with
  | .cell => false
  | _ => true
def scLow (sc : Scope) (sf pn : Str) : Bool := lookB sc "super" .globalImplicit && lookB sc "__class__" .free && lookB sc sf .local && lookB sc pn .local && (match sc.kind with
  | .function => true
  | _ => false) && !sc.isCoroutine && !sc.isGenerator && noCell sc
def cellB (K : PySem.W.Frag) (cc C : Addr) : Bool := match K.lookup cc with
  | some ⟨_, _, .cell (some (.ref D)), _⟩ => D == C
  | _ => false
def fileB (P : Program) (K : PySem.W.Frag) (cda : Addr) : Bool := match K.lookup cda with
  | some ⟨_, _, .fields vs, _⟩ => (match (vs[2]? : Option Value) with
    | some (.str file _) => (P.main.file : Str) == file
    | _ => false)
  | _ => false
def isNo : Value → Bool
  | .none => true
  | _ => false
def fnB (P : Program) (K : PySem.W.Frag) (C : Addr) (f sf pn : Str) (fd : FuncData) : Bool := match fd.code, fd.closure, fd.body, fd.params with
  | .ref cda, [(cn, cc)], .stmts body, ⟨[], [a1, a2], none, [], [], none, []⟩ => cn == ("__class__" : Str) && a1.arg == sf && a2.arg == pn && fd.globals == mainGlobals && fd.builtins == builtinsNs && isNo fd.defaults && PySem.W.codeIn K (.ref cda) fd.qualname && fileB P K cda && cellB K cc C && bodyB sf pn f body && scLow fd.scope sf pn
  | _, _, _, _ => false
def parOf (fd : FuncData) : Str × Str := match fd.params.args with
  | [a, b] => (a.arg, b.arg)
  | _ => ("", "")
def lowB (P : Program) (K : PySem.W.Frag) (C : Addr) (v : Bool) (f : Str) : Bool := match PySem.W.findIn K (.ref C) "__init__" with
  | some (some (.ref fI)) =>
    PySem.W.excInitIn K C (bmOf v) (newOf v) && PySem.W.excOver K C (bmOf v) && PySem.W.hasDictIn K C && decide (PySem.W.typeIn K (.ref fI) = some (.type "function")) && decide (PySem.W.findIn K (.ref C) "__setattr__" = some (some (.builtin "object.__setattr__"))) &&
    decide (PySem.W.takerIn K C f = some none) && decide (PySem.W.subIn K (.ref C) (.type (basOf v)) = some true) && decide (PySem.W.mroIn K C (.ref C) = some true) && decide (PySem.W.ks_superIn K C C "__init__" = some (some (.builtin (iniOf v)))) && decide (PySem.W.nsIn K cStatics "thirdparty.any" = some none) &&
    decide (PySem.W.subIn K (.ref C) (.type "BaseException") = some true) && decide (PySem.W.typeIn K (.ref C) = some (.type "type")) && PySem.W.keepIn K (.ref C) && !(P.main.scope.names.lookup ("super" : Str)).isSome && (match K.lookup fI with
      | some ⟨_, _, .func fd, _⟩ => fnB P K C f (parOf fd).1 (parOf fd).2 fd && !((parOf fd).1 == (parOf fd).2) && !((parOf fd).1 == ("__debug__" : Str)) && !((parOf fd).2 == ("__debug__" : Str))
      | _ => false)
  | _ => false
theorem kf_ok (v : Bool) : PySem.W.KxsFacts (basOf v) (iniOf v) := by cases v; exact PySem.W.kxs_LookupError; exact PySem.W.kxs_ValueError
theorem sf_ok (v : Bool) : StoreFacts (basOf v) (bmOf v) "object.__setattr__" "object" := by cases v; exact PySem.F.store_LookupError; exact PySem.F.store_ValueError
theorem lowB_ok {P : Program} {K : PySem.W.Frag} {C : Addr} {v : Bool} {f : Str} (h : lowB P K C v f = true) : ∃ fI sf pn, LowC P K (basOf v) (newOf v) (iniOf v) (bmOf v) C fI sf pn f := by
  unfold lowB at h
  split at h
  · rename_i fI hI
    simp only [Bool.and_eq_true, decide_eq_true_eq, Bool.not_eq_true'] at h
    obtain ⟨⟨⟨⟨⟨⟨⟨⟨⟨⟨⟨⟨⟨⟨h1, h2⟩, h3⟩, h4⟩, h5⟩, h6⟩, h7⟩, h8⟩, h9⟩, h10⟩, h11⟩, h12⟩, h13⟩, h14⟩, h15⟩ := h
    split at h15
    · rename_i oc od fd osl hl
      simp only [Bool.and_eq_true, Bool.not_eq_true'] at h15
      obtain ⟨⟨⟨g1, g2⟩, g3⟩, g4⟩ := h15
      generalize hsf : (parOf fd).1 = sf at *
      generalize hpn : (parOf fd).2 = pn at *
      refine ⟨fI, sf, pn, ⟨fb_ok v, kf_ok v, sf_ok v, h1, h2, h3, hI, h4, h5, h6, h7, h8, h9, h10, h11, h12, h13, ?_, fun z => by rw [z] at g2; simp at g2, g3, g4, h14⟩⟩
      unfold fnB at g1
      split at g1
      · rename_i cda cn cc body a1 a2 e1 e2 e3 e4
        simp only [Bool.and_eq_true] at g1
        obtain ⟨⟨⟨⟨⟨⟨⟨⟨⟨⟨k1, k2⟩, k3⟩, k4⟩, k5⟩, k6⟩, k7⟩, k8⟩, k9⟩, k10⟩, k11⟩ := g1
        obtain ⟨n1, n2, n3, n4, n5, n6, n7, n8, n9, n10, n11, n12, n13, n14, n15⟩ := fd
        dsimp only at e1 e2 e3 e4 k4 k5 k6 k7 k11
        subst e1 e2 e3 e4
        have k1' : cn = ("__class__" : Str) := eq_of_beq k1
        have k2' : a1.arg = sf := eq_of_beq k2
        have k3' : a2.arg = pn := eq_of_beq k3
        have k4' : n6 = mainGlobals := eq_of_beq k4
        have k5' : n15 = builtinsNs := eq_of_beq k5
        have k6' : n8 = .none := by cases n8 <;> first | rfl | cases k6
        subst k1' k4' k5' k6'
        unfold fileB at k8
        split at k8
        · rename_i _ cc1 cd1 vs sl1 hlc
          split at k8
          · rename_i _ file tf hvs
            unfold cellB at k9
            split at k9
            · rename_i _ x1 x2 D x3 hcc
              have hD : D = C := eq_of_beq k9
              subst hD
              unfold scLow lookB at k11
              simp only [Bool.and_eq_true, decide_eq_true_eq, Bool.not_eq_true'] at k11
              obtain ⟨⟨⟨⟨⟨⟨⟨m1, m2⟩, m3⟩, m4⟩, m5⟩, m6⟩, m7⟩, m8⟩ := k11
              refine ⟨_, _, _, _, _, _, _, _, _, cda, _, cc, _, _, _, vs, _, file, tf, _, _, _, _, body, none, none, default, default, none, none, hl, k7, hlc, hvs, k8, hcc, bodyB_ok k10, by show some a1.arg = _; rw [k2'], fun s u v => ?_, m1, m2, m3, m4, ?_, m6, m7, ?_⟩
              · have := bind_pos (fd := PySem.W.ksFn n1 n2 ⟨[], [a1, a2], none, [], [], none, []⟩ body n5 .none n9 n10 n11 n12 (.ref cda) n14 cc) (ps := [sf, pn]) (us := [u, v]) ⟨[a1, a2], rfl, by rw [← k2', ← k3']; rfl, rfl⟩ (by
                  refine List.nodup_cons.mpr ⟨fun z => ?_, List.nodup_cons.mpr ⟨by simp, List.nodup_nil⟩⟩
                  rw [List.mem_singleton] at z
                  rw [z] at g2
                  simp at g2) rfl
                exact .of_eq this
              · revert m5
                cases n5.kind <;> intro m5 <;> first | rfl | cases m5
              · intro y hy z
                have := List.all_eq_true.mp m8 y hy
                rw [z] at this
                cases this
            · cases k9
          · cases k8
        · cases k8
      · cases g1
    · cases h15
  · cases h
/-- one class -/
def clsB (P : Program) (K : PySem.W.Frag) (cls : List Cl) (i : Nat) (c : Cl) : Bool :=
  isB K (He.ga K c.name) && decide (PySem.W.kitOne K (.ref (He.ga K c.name)) (.type "ValueError") = some c.val) && decide (PySem.W.kitOne K (.ref (He.ga K c.name)) (.type "LookupError") = some (!c.val)) &&
  ((List.range cls.length).all fun j => match cls[j]? with
    | some c' => decide (PySem.W.exmOne K (.ref (He.ga K c.name)) (.ref (He.ga K c'.name)) = some (i == j))
    | none => true) &&
  (match c.fld with
    | none => PySem.W.excIn K (He.ga K c.name) (bmOf c.val) (newOf c.val) && PySem.W.keepIn K (.ref (He.ga K c.name)) && decide (PySem.W.subIn K (.ref (He.ga K c.name)) (.type "BaseException") = some true) && decide (PySem.W.typeIn K (.ref (He.ga K c.name)) = some (.type "type"))
    | some f => lowB P K (He.ga K c.name) c.val f && xfB K (He.ga K c.name) && decide (PySem.W.findIn K (.ref (He.ga K c.name)) f = some none))
theorem clsB_ok {P : Program} {K : PySem.W.Frag} {mg : Str → Option Value} {cls : List Cl} {i : Nat} {c : Cl} (hm : ∀ c ∈ cls, mg c.name = some (.ref (He.ga K c.name))) (hc : c ∈ cls) (h : clsB P K cls i c = true) : ClsOk P K mg cls i c (He.ga K c.name) := by
  unfold clsB at h
  simp only [Bool.and_eq_true, decide_eq_true_eq] at h
  obtain ⟨⟨⟨⟨h1, h2⟩, h3⟩, h4⟩, h5⟩ := h
  refine ⟨hm c hc, isB_ok h1, h2, h3, fun j c' C' hj hC => ?_, ?_⟩
  · have hlt : j < cls.length := (List.getElem?_eq_some_iff.mp hj).1
    have := List.all_eq_true.mp h4 j (List.mem_range.mpr hlt)
    rw [hj] at this
    have h6 := of_decide_eq_true this
    have h7 := hm c' (List.mem_of_getElem? hj)
    rw [hC] at h7
    cases h7
    exact h6
  · cases hf : c.fld with
    | none =>
      rw [hf] at h5
      simp only [Bool.and_eq_true, decide_eq_true_eq] at h5
      obtain ⟨⟨⟨g1, g2⟩, g3⟩, g4⟩ := h5
      exact ⟨g1, g2, g3, g4⟩
    | some f =>
      rw [hf] at h5
      simp only [Bool.and_eq_true, decide_eq_true_eq] at h5
      obtain ⟨⟨g1, g2⟩, g3⟩ := h5
      exact ⟨lowB_ok g1, xfB_ok g2, g3⟩
def allClsB (P : Program) (K : PySem.W.Frag) (cls : List Cl) : Bool := (List.range cls.length).all fun i => match cls[i]? with
  | some c => clsB P K cls i c
  | none => true
end Lt
end
section
set_option maxRecDepth 100000
namespace Lt
open PySem PySem.Spec PyProof.Rows L2
theorem plain_of {K : PySem.W.Frag} {x qual : Str} {params : Arguments} {as : List Arg} {body : List Stmt} {scope : Scope} {f : Addr} {fd : FuncData} {ps : List Str} (F : FunD K x qual params body scope [] [] f fd) (e : params = ⟨[], as, none, [], [], none, []⟩) (e2 : as.map (·.arg) = ps) : PlainFd fd ps := by
  obtain ⟨oc, od, dV, kV, doc, pm, an, cdv, ct, osl, rfl, lk, hcd, hD, hK⟩ := F.ex
  rcases hD with ⟨_, rfl⟩ | ⟨z, _⟩
  · exact ⟨as, e, e2, rfl⟩
  · exact absurd rfl z
theorem binds_of {K : PySem.W.Frag} {fd : FuncData} {ps : List Str} (p : PlainFd fd ps) (nd : ps.Nodup) : Binds K fd ps [] ∧ ∀ (s : Shared) (us : List Value), us.length = ps.length → BindsTo s fd ⟨us, []⟩ (ps.zip us) :=
  ⟨.all fun us hl => bind_pos p nd hl, fun s us hl => .of_eq (bind_pos p nd hl)⟩
end Lt
end
section
set_option maxRecDepth 100000
namespace Lt
open PySem PySem.Spec PyProof.Rows L2
/-! ### the end: from a table of defs to the law's row -/
structure Rw where
  g : Fn
  i : Nat
  N : List Str
  mu : List Str
def fnsOf (rs : List Rw) : List Fn := rs.map (·.g)
section
variable (tp : Nat → Stmt) (fu : Nat) (cls : List Cl)
def dfOf (fns : List Fn) (r : Rw) : Df := ⟨r.g.ps.length, r.g.io, r.N.length, cSs ⟨r.N, fns, r.mu, cls⟩ (defScope (tp r.i)) fu fu (defBody (tp r.i))⟩
def tabOf (rs : List Rw) : List Df := rs.map (dfOf tp fu cls (fnsOf rs))
def Gof (fns : List Fn) (mg : Str → Option Value) (ix : Nat) : Option Addr := match fns[ix]? with
  | some g => (match mg g.name with
    | some (.ref a) => some a
    | _ => none)
  | none => none
def plainA (a : Arguments) (ps : List Str) : Bool := match a with
  | ⟨[], as, none, [], [], none, []⟩ => as.map (·.arg) == ps
  | _ => false
def locB (sc : Scope) (x : Str) : Bool := match sc.names.lookup x with
  | some .local => true
  | some .cell => true
  | _ => false
def notFree (y : Str × NameKind) : Bool := match y.2 with
  | .free => false
  | _ => true
def kindB (sc : Scope) : Bool := match sc.kind with
  | .function => true
  | _ => false
def scB (N ps : List Str) (sc : Scope) : Bool := kindB sc && !sc.isCoroutine && !sc.isGenerator && nodupS N && (N.take ps.length == ps) && ps.all (locB sc) && sc.names.all notFree
def rowB (r : Rw) (j : Nat) : Bool := r.g.ix == j && plainA (defArgs (tp r.i)) r.g.ps && nodupS r.g.ps && scB r.N r.g.ps (defScope (tp r.i)) && r.g.io.length == r.g.ps.length && decide (r.g.ps.length ≤ r.N.length)
def rowsB : List Rw → Nat → Bool
  | [], _ => true
  | r :: rs, j => rowB tp r j && rowsB rs (j + 1)
def ddOf (r : Rw) : He.DefD := { at_ := (r.g.name, none), name := r.g.name, qual := r.g.name, params := defArgs (tp r.i), body := defBody (tp r.i), scope := defScope (tp r.i) }
end
theorem scB_ok {N ps : List Str} {sc : Scope} (h : scB N ps sc = true) : FnScope N ps sc := by
  unfold scB at h
  simp only [Bool.and_eq_true] at h
  obtain ⟨⟨⟨⟨⟨⟨h1, h2⟩, h3⟩, h4⟩, h5⟩, h6⟩, h7⟩ := h
  refine ⟨?_, by simpa using h2, by simpa using h3, nodupS_ok h4, eq_of_beq h5, fun x hx => ?_, fun y hy => ?_⟩
  · unfold kindB at h1
    cases hk : sc.kind <;> rw [hk] at h1 <;> first | rfl | cases h1
  · have := List.all_eq_true.mp h6 x hx
    unfold locB at this
    split at this
    · exact .inl ‹_›
    · exact .inr ‹_›
    · cases this
  · have := List.all_eq_true.mp h7 y hy
    unfold notFree at this
    intro e
    rw [e] at this
    cases this
theorem plainA_ok {a : Arguments} {ps : List Str} (h : plainA a ps = true) : ∃ as : List Arg, a = ⟨[], as, none, [], [], none, []⟩ ∧ as.map (·.arg) = ps := by
  unfold plainA at h
  split at h
  · exact ⟨_, rfl, eq_of_beq h⟩
  · cases h
theorem rowsB_ok {tp : Nat → Stmt} : ∀ {rs : List Rw} {j : Nat}, rowsB tp rs j = true → ∀ (k : Nat) (r : Rw), rs[k]? = some r → rowB tp r (j + k) = true
  | [], _, _, k, r, h => by simp at h
  | s :: rs, j, h, 0, r, e => by
    obtain ⟨h1, h2⟩ := Bool.and_eq_true_iff.mp (show (rowB tp s j && rowsB tp rs (j + 1)) = true from h)
    simp at e
    subst e
    exact h1
  | s :: rs, j, h, k + 1, r, e => by
    obtain ⟨h1, h2⟩ := Bool.and_eq_true_iff.mp (show (rowB tp s j && rowsB tp rs (j + 1)) = true from h)
    have := rowsB_ok h2 k r (by simpa using e)
    rwa [show j + 1 + k = j + (k + 1) by omega] at this
section
variable {tp : Nat → Stmt} {fu : Nat} {cls : List Cl} {rs : List Rw} {K : PySem.W.Frag} {mg : Str → Option Value} {h : Heap} {fa : List He.Fa} {fn : List He.DefD}
theorem row_facts {r : Rw} (hr : r ∈ rs) (ok : rowsB tp rs 0 = true) (X : K.In h) (Gn : h.Ns mainGlobals mg) (c : He.SaysD fa fn K) (hfa : ∀ r ∈ rs, He.Fa.glo r.g.name ∈ fa) (hfn : ∀ r ∈ rs, ddOf tp r ∈ fn) :
    ∃ (f : Addr) (fd : FuncData), FunD (thin K) r.g.name r.g.name (defArgs (tp r.i)) (defBody (tp r.i)) (defScope (tp r.i)) [] [] f fd ∧ FnScope r.N r.g.ps (defScope (tp r.i)) ∧ (tabOf tp fu cls rs)[r.g.ix]? = some (dfOf tp fu cls (fnsOf rs) r) ∧ r.g.io.length = r.g.ps.length ∧ r.g.ps.length ≤ r.N.length ∧ mg r.g.name = some (.ref f) ∧ Gof (fnsOf rs) mg r.g.ix = some f ∧
      Binds (thin K) fd r.g.ps [] ∧ PlainFd fd r.g.ps ∧ ∀ (s : Shared) (us : List Value), us.length = r.g.ps.length → BindsTo s fd ⟨us, []⟩ (r.g.ps.zip us) := by
  obtain ⟨j, hj, e⟩ := List.mem_iff_getElem.mp hr
  have ej : rs[j]? = some r := by rw [List.getElem?_eq_getElem hj, e]
  have b := rowsB_ok ok j r ej
  unfold rowB at b
  simp only [Bool.and_eq_true, Nat.zero_add] at b
  obtain ⟨⟨⟨⟨⟨b1, b2⟩, b3⟩, b4⟩, b5⟩, b6⟩ := b
  obtain ⟨fd, F⟩ := c.defs (hfn r hr)
  have hx : r.g.ix = j := by simpa using b1
  have g1 : mg r.g.name = some (.ref (He.ga K r.g.name)) := He.glo_ok X Gn (c.facts (hfa r hr))
  obtain ⟨as, p1, p2⟩ := plainA_ok b2
  have F' : FunD (thin K) r.g.name r.g.name (defArgs (tp r.i)) (defBody (tp r.i)) (defScope (tp r.i)) [] [] (He.ga K r.g.name) fd := thin_fun F
  have pl := plain_of F' p1 p2
  obtain ⟨k1, k2⟩ := binds_of (K := thin K) pl (nodupS_ok b3)
  refine ⟨He.ga K r.g.name, fd, F', scB_ok b4, ?_, by simpa using b5, by simpa using b6, g1, ?_, k1, pl, k2⟩
  · unfold tabOf
    rw [List.getElem?_map, hx, ej]
    rfl
  · unfold Gof fnsOf
    rw [List.getElem?_map, hx, ej]
    show (match mg r.g.name with
      | some (.ref a) => some a
      | _ => none) = _
    rw [g1]
theorem defs_all (ok : rowsB tp rs 0 = true) (X : K.In h) (Gn : h.Ns mainGlobals mg) (c : He.SaysD fa fn K) (hfa : ∀ r ∈ rs, He.Fa.glo r.g.name ∈ fa) (hfn : ∀ r ∈ rs, ddOf tp r ∈ fn) :
    ∀ g ∈ fnsOf rs, DefOk (thin K) mg (Gof (fnsOf rs) mg) (tabOf tp fu cls rs) fu (fnsOf rs) cls g := by
  intro g hg
  obtain ⟨r, hr, rfl⟩ := List.mem_map.mp hg
  obtain ⟨f, fd, h1, h2, h3, h4, h5, h6, h7, h8, h9, _⟩ := row_facts (fu := fu) (cls := cls) hr ok X Gn c hfa hfn
  exact ⟨_, _, _, _, _, f, fd, r.N, r.mu, h1, h2, h3, h4, h5, h6, h7, h8, h9⟩
/-- all that is asked of the module's names -/
theorem glob_ok {P : Program} (X : K.In h) (Gn : h.Ns mainGlobals mg) (c : He.SaysD fa fn K) (hcl : ∀ x ∈ cls, He.Fa.glo x.name ∈ fa) (hga : ∀ x ∈ cls, He.ga (thin K) x.name = He.ga K x.name) (ok : allClsB P (thin K) cls = true)
    (hfree : ∀ x ∈ (["ValueError", "LookupError", "super", "isinstance"] : List Str), He.Fa.free x ∈ fa) : Glob P (thin K) mg cls (xrOf cls mg) := by
  have fr : ∀ x ∈ (["ValueError", "LookupError", "super", "isinstance"] : List Str), mg x = none := fun x hx => He.free_ok X Gn (c.facts (hfree x hx))
  refine ⟨fun i c' hi => ⟨_, clsB_ok (fun x hx => ?_) (List.mem_of_getElem? hi) ?_⟩, rfl, fr _ (by simp), fr _ (by simp), fr _ (by simp), fr _ (by simp)⟩
  · rw [hga x hx]
    exact He.glo_ok X Gn (c.facts (hcl x hx))
  · have := List.all_eq_true.mp ok i (List.mem_range.mpr (List.getElem?_eq_some_iff.mp hi).1)
    rw [hi] at this
    exact this
/-- the law's def keeps its promise, at every base -/
theorem law_fn {P : Program} {w : World} {k : Nat} {r : Rw} (hr : r ∈ rs) (ok : rowsB tp rs 0 = true) (X : K.In h) (Gn : h.Ns mainGlobals mg) (c : He.SaysD fa fn K) (hfa : ∀ r ∈ rs, He.Fa.glo r.g.name ∈ fa) (hfn : ∀ r ∈ rs, ddOf tp r ∈ fn)
    (hfree : ∀ x ∈ bltNames, ((fnsOf rs).find? fun f => f.name == x) = none → He.Fa.free x ∈ fa) (gl : Glob P (thin K) mg cls (xrOf cls mg)) :
    ∃ (f : Addr) (fd : FuncData), mg r.g.name = some (.ref f) ∧ (∀ (s : Shared) (us : List Value), us.length = r.g.ps.length → BindsTo s fd ⟨us, []⟩ (r.g.ps.zip us)) ∧
      ∀ base, FnOk P w (thin K) mg base (CX P w) (k + 1) f fd r.g.ps (prom (Gof (fnsOf rs) mg) (xrOf cls mg) (run (tabOf tp fu cls rs) (k + 1)) r.g.ix r.g.io) := by
  have blt : ∀ x ∈ bltNames, ((fnsOf rs).find? fun f => f.name == x) = none → mg x = none := fun x hx hn => He.free_ok X Gn (c.facts (hfree x hx hn))
  have all := defs_all (fu := fu) (cls := cls) ok X Gn c hfa hfn
  obtain ⟨f, fd, h1, h2, h3, h4, h5, h6, h7, h8, h9, h10⟩ := row_facts (fu := fu) (cls := cls) hr ok X Gn c hfa hfn
  exact ⟨f, fd, h6, h10, fun base => fn_step (cx := ⟨r.N, fnsOf rs, r.mu, cls⟩) h1 h2 h3 h4 h5 blt gl fun g' hg' => fns_ok gl all blt k g' hg'⟩
end
end Lt
end
section
set_option maxRecDepth 100000
namespace Lt
open PySem PySem.Spec PyProof.Rows L2
theorem Rps.ints {G : Nat → Option Addr} {Z : Set1} {H : Hp} : ∀ (ns : List Int), Rps G Z H (ns.map D.int) (ns.map V.int)
  | [] => .nil
  | n :: ns => .cons (.int n) (Rps.ints ns)
/-- the law's promise, from what the evaluator gives -/
theorem law_prom {G : Nat → Option Addr} {XR : XRel} {C : Calls} {f : Nat} {K : PySem.W.Frag} {H : Hp} {a : Addr} {ns : List Int} (h : SqL (thin K) H a (ns.map V.int)) {fr : Bool} {outs : List D}
    (e : C f [.lst (ns.map .int)] = .rt fr (.bl true) outs) : prom G XR C f [false] [.ref a] H (fun v _ => v = .bl true) fun _ _ _ => False := by
  refine ⟨fun _ => False, [.lst (ns.map .int)], [], .val (.lst (thin_rd h) (fun z => z.elim id fun z => by cases z) (Rps.ints ns)) .nil, fun b z => z.elim, ?_⟩
  rw [e]
  intro v H' _ q
  cases fr with
  | false => cases q.1; rfl
  | true =>
    obtain ⟨a, _, _, b, _⟩ := q
    exact b.elim
theorem cx_end {P : Program} {w : World} (H : Hp) (s : Shared) (e : Value) (s' : Shared) (h : CX P w [] H s (fun _ _ _ => False) e s') : False := by
  obtain ⟨_, _, _, _, _, _, _, _, _, _, _, _, h⟩ := h
  exact h
end Lt
end
section
set_option maxRecDepth 100000
namespace Lt
open PySem PySem.Spec PyProof.Rows L2
/-- the law's call, whatever the world: what leaves a def may hang on the world -/
theorem walk_ofW {l : PySem.W.OpenLaw} {n k : Nat} {q : Program} {loose : List Str} {XP : (Str → Option Value) → Heap → Prop} {YP : World → Heap → Prop} {d : DefRec} {x : Str}
    (most : l.most = some n) (small : n ≤ sizeLine) (nod : d.params.defaults = []) (room : Room k callerA)
    (all : ∀ (w : World) (mg : Str → Option Value) (fa : Addr) (h : Heap), YP w h → h.Ns mainGlobals mg → mg d.name = some (.ref fa) →
      ∃ (K : PySem.W.Frag) (fd : FuncData) (sp : Sp), K.In h ∧ (∀ (s : Shared) (u : Value), BindsTo s fd ⟨[u], []⟩ [(x, u)]) ∧
        (∀ (H : Hp) (a : Addr) (ns : List Int), ns.length ≤ n → Only H → SqL K H a (ns.map V.int) → sp [.ref a] H (fun v _ => v = .bl true) fun _ _ _ => False) ∧
        (∀ base : Heap, K.In base → base.Ns mainGlobals mg → FnOk l.prog w K mg base (L2.CX l.prog w) k fa fd [x] sp)) :
    PySem.W.WalkO q loose XP YP l.row.toRowW d [] (fun f vs => PySem.call f vs) := by
  refine Att.attach_call most nod fun w s₀ s₁ mg mb fa o pm cd doc a vs ns G Y ho hd hcd hm hobj hints hlen hg => ?_
  obtain ⟨K, fd, sp, KX, b, p, F⟩ := all w mg fa _ Y G.T.g hm
  refine law_call KX G.T.g G.T.b G.T.builtins G.T.nolimit hg hobj hints (Nat.le_trans hlen small) room F b (fun H hO hS => p H a ns hlen hO hS) fun H e s' z => ?_
  exact cx_end H s₁ e s' z
end Lt
end
section
set_option maxRecDepth 100000
namespace Lt
open PySem PySem.Spec PyProof.Rows L2 _root_.He
/-! ### what is looked at when the top has run: names, defs, one more truth -/
def asY (g : Addr → Option Obj) (n : Nat) : List Addr := cStatics :: asD g n
def obsY (n : Nat) (fa : List Fa) (fn : List DefD) (ex : PySem.W.Frag → Bool) (g : Addr → Option Obj) : AlD × Bool := (obsD fa fn (frG g (asY g n)), ex (frG g (asY g n)))
def hookY (n : Nat) (fa : List Fa) (fn : List DefD) (ex : PySem.W.Frag → Bool) : PySem.W.Hook where
  α := AlD × Bool
  obs := fun s => obsY n fa fn ex s.heap.get?
  val := fun _ => (valD fn, true)
  says := fun _ h => ∃ K : PySem.W.Frag, K.In h ∧ SaysD fa fn K ∧ ex K = true
  of := fun _ _ e => ⟨_, frG_in, congrArg (fun z : AlD × Bool => z.1) e, congrArg (fun z : AlD × Bool => z.2) e⟩
  keeps := fun _ _ _ ⟨K, hK, c⟩ k => ⟨K, PySem.W.Frag.In.keeps hK k, c⟩
theorem obsY_eq {n : Nat} {fa : List Fa} {fn : List DefD} {ex : PySem.W.Frag → Bool} {g : Addr → Option Obj} {s : Shared} (h : ∀ a, g a = s.heap.get? a) : obsY n fa fn ex g = (hookY n fa fn ex).obs s := by
  have e : g = s.heap.get? := funext h
  rw [e] <;> rfl
def exB (P : Program) (cls : List Cl) (K : PySem.W.Frag) : Bool := allClsB P (thin K) cls && cls.all fun c => He.ga (thin K) c.name == He.ga K c.name
theorem exB_ok {P : Program} {cls : List Cl} {K : PySem.W.Frag} (h : exB P cls K = true) : allClsB P (thin K) cls = true ∧ ∀ x ∈ cls, He.ga (thin K) x.name = He.ga K x.name := by
  obtain ⟨h1, h2⟩ := Bool.and_eq_true_iff.mp h
  exact ⟨h1, fun x hx => eq_of_beq (List.all_eq_true.mp h2 x hx)⟩
end Lt
end
section
set_option maxHeartbeats 20000
namespace Lt.Hx
open PySem
/-! ### the evaluator, step by step (for simp) -/
@[simp] theorem bind_ok {α β : Type} {a : α} {e : Env} {k : α → Env → Out β} : (Out.ok a e).bind k = k a e := rfl
@[simp] theorem bind_ex {α β : Type} {x : Ex} {e : Env} {k : α → Env → Out β} : (Out.ex x e).bind k = .ex x e := rfl
@[simp] theorem bind_st {α β : Type} {k : α → Env → Out β} : Out.bind .st k = .st := rfl
@[simp] theorem fl_ok {α : Type} {a : α} {e : Env} {k : α → Env → Fl} : (Out.ok a e).fl k = k a e := rfl
@[simp] theorem fl_ex {α : Type} {x : Ex} {e : Env} {k : α → Env → Fl} : (Out.ex x e).fl k = .ex x e := rfl
@[simp] theorem fl_st {α : Type} {k : α → Env → Fl} : Out.fl .st k = .st := rfl
@[simp] theorem seq_nx {e : Env} {k : Env → Fl} : (Fl.nx e).seq k = k e := rfl
@[simp] theorem seq_rt {f : Bool} {d : D} {e : Env} {k : Env → Fl} : (Fl.rt f d e).seq k = .rt f d e := rfl
@[simp] theorem seq_bk {e : Env} {k : Env → Fl} : (Fl.bk e).seq k = .bk e := rfl
@[simp] theorem seq_ct {e : Env} {k : Env → Fl} : (Fl.ct e).seq k = .ct e := rfl
@[simp] theorem seq_ex {x : Ex} {e : Env} {k : Env → Fl} : (Fl.ex x e).seq k = .ex x e := rfl
@[simp] theorem seq_st {k : Env → Fl} : Fl.seq .st k = .st := rfl
@[simp] theorem nxO_some {e : Env} : nxO (some e) = .nx e := rfl
@[simp] theorem lift_some {r : R} {e : Env} : lift (some r) e = .ok r e := rfl
@[simp] theorem liftB_some {b : Bool} {e : Env} : liftB (some b) e = .ok (.v (.bl b)) e := rfl
@[simp] theorem guard_t {o : Out R} : guardB true o = o := rfl
section
variable {C : Calls} {e : Env}
@[simp] theorem ev_cst {d : D} : ev C (.cst d) e = .ok (.v d) e := by unfold ev; rfl
theorem ev_var {i : Nat} : ev C (.var i) e = (match slot e i with
    | .pu d => .ok (.v d) e
    | .mu _ _ _ => .ok (.s i) e
    | .no => .st) := by unfold ev; rfl
@[simp] theorem ev_tup {a : E} : ev C (.tup a) e = (evl C a e).bind fun rs e1 => match keeps e1 rs with
    | some (ds, e2) => if ds.length ≤ lim then .ok (.v (.tup ds)) e2 else .st
    | none => .st := by rw [ev] <;> rfl
@[simp] theorem ev_lst {a : E} : ev C (.lst a) e = (evl C a e).bind fun rs e1 => match keeps e1 rs with
    | some (ds, e2) => if ds.length ≤ lim then .ok (.f (.lst ds)) e2 else .st
    | none => .st := by rw [ev] <;> rfl
@[simp] theorem ev_call {f : Nat} {io : List Bool} {a : E} : ev C (.call f io a) e = (evl C a e).bind fun rs e1 => callR C f io rs e1 := by rw [ev]
@[simp] theorem ev_calv {ok : List Nat} {n : Nat} {a b : E} : ev C (.calv ok n a b) e = (ev C a e).bind fun r e1 => match r with
    | .v (.fn f) => if ok.contains f then (evl C b e1).bind fun rs e2 => callR C f (List.replicate n false) rs e2 else .st
    | _ => .st := by rw [ev] <;> rfl
@[simp] theorem ev_blt {b : Bl} {a : E} : ev C (.blt b a) e = (evl C a e).bind fun rs e1 => match looks e1 rs with
    | some ds => lift (bltD b ds) e1
    | none => .st := by rw [ev] <;> rfl
@[simp] theorem ev_isi {a : E} {ts : List Ty} : ev C (.isi a ts) e = (ev C a e).bind fun r e1 => match look e1 r with
    | some d => liftB (isTy d ts) e1
    | none => .st := by rw [ev] <;> rfl
@[simp] theorem ev_bin {o : Op} {a b : E} : ev C (.bin o a b) e = (ev C a e).bind fun r e1 => (ev C b e1).bind fun q e2 => match look e2 r, look e2 q with
    | some x, some y => lift (binD o x y) e2
    | _, _ => .st := by rw [ev] <;> rfl
@[simp] theorem ev_neg {a : E} : ev C (.neg a) e = (ev C a e).bind fun r e1 => match look e1 r with
    | some (.int i) => .ok (.v (.int (-i))) e1
    | _ => .st := by rw [ev] <;> rfl
@[simp] theorem ev_cmp {o : Cm} {a b : E} : ev C (.cmp o a b) e = (ev C a e).bind fun r e1 => (ev C b e1).bind fun q e2 => match look e2 r, look e2 q with
    | some x, some y => liftB (cmpD o x y) e2
    | _, _ => .st := by rw [ev] <;> rfl
@[simp] theorem ev_chain {a b c : E} {o p : Cm} : ev C (.chain a o b p c) e = (ev C a e).bind fun r e1 => (ev C b e1).bind fun q e2 => match look e2 r, look e2 q with
    | some x, some y => (match cmpD o x y with
      | some true => (ev C c e2).bind fun t e3 => match look e3 q, look e3 t with
        | some y, some z => liftB (cmpD p y z) e3
        | _, _ => .st
      | some false => .ok (.v (.bl false)) e2
      | none => .st)
    | _, _ => .st := by rw [ev] <;> rfl
@[simp] theorem ev_and {a b : E} : ev C (.and a b) e = (ev C a e).bind fun r e1 => match look e1 r with
    | some x => (match truth x with
      | some true => ev C b e1
      | some false => .ok r e1
      | none => .st)
    | none => .st := by rw [ev] <;> rfl
@[simp] theorem ev_or {a b : E} : ev C (.or a b) e = (ev C a e).bind fun r e1 => match look e1 r with
    | some x => (match truth x with
      | some true => .ok r e1
      | some false => ev C b e1
      | none => .st)
    | none => .st := by rw [ev] <;> rfl
@[simp] theorem ev_not {a : E} : ev C (.not a) e = (ev C a e).bind fun r e1 => match look e1 r with
    | some x => liftB ((truth x).map (!·)) e1
    | none => .st := by rw [ev] <;> rfl
@[simp] theorem ev_ite {c a b : E} : ev C (.ite c a b) e = (ev C c e).bind fun r e1 => match look e1 r with
    | some x => (match truth x with
      | some true => ev C a e1
      | some false => ev C b e1
      | none => .st)
    | none => .st := by rw [ev] <;> rfl
@[simp] theorem ev_ix {a b : E} : ev C (.ix a b) e = (ev C a e).bind fun r e1 => (ev C b e1).bind fun q e2 => match look e2 r, look e2 q with
    | some x, some y => lift ((ixD x y).map .v) e2
    | _, _ => .st := by rw [ev] <;> rfl
@[simp] theorem ev_sl {a lo hi : E} : ev C (.sl a lo hi) e = (ev C a e).bind fun r e1 => (ev C lo e1).bind fun p e2 => match partR e2 p with
    | some x => (ev C hi e2).bind fun q e3 => match partR e3 q with
      | some y => (match look e3 r with
        | some d => lift (slD d x y) e3
        | none => .st)
      | none => .st
    | none => .st := by rw [ev] <;> rfl
@[simp] theorem ev_rev {a : E} : ev C (.rev a) e = (ev C a e).bind fun r e1 => match look e1 r with
    | some x => lift (revD x) e1
    | none => .st := by rw [ev] <;> rfl
/-- one turn of a comprehension -/
def turnC (C : Calls) (elt : E) (t : T) (w : List Nat) (cond : E) (x : D) (e2 : Env) : Out (Option D) := noEx <| match asg t x e2 with
  | some e3 => (ev C cond e3).bind fun r e4 => match look e4 r with
    | some x => (match truth x with
      | some true => (ev C elt e4).bind fun r e5 => match keep e5 r with
        | some (d, e6) => .ok (some d) (wiped e6 w)
        | none => .st
      | some false => .ok none (wiped e4 w)
      | none => .st)
    | none => .st
  | none => .st
@[simp] theorem ev_comp {elt it cond : E} {t : T} {w : List Nat} {k : It} : ev C (.comp elt t w k it cond) e = (evl C it e).bind fun rs e1 => match looks e1 rs with
    | some ds => (match itD k ds with
      | some xs => (compGo (turnC C elt t w cond) xs [] (wiped (lockAll e1 rs).1 w)).bind fun ds e7 => .ok (.f (.lst ds)) (unlock (restore (lockAll e1 rs).1 e7 w) (lockAll e1 rs).2)
      | none => .st)
    | none => .st := by rw [ev] <;> rfl
@[simp] theorem ev_cnt {a b : E} : ev C (.cnt a b) e = (ev C a e).bind fun r e1 => match look e1 r with
    | some c => if (items c).isSome then (ev C b e1).bind fun q e2 => (match look e2 r, look e2 q with
      | some x, some y => lift (countD x y) e2
      | _, _ => .st) else .st
    | none => .st := by rw [ev] <;> rfl
@[simp] theorem ev_idx {a b : E} : ev C (.idx a b) e = (ev C a e).bind fun r e1 => match look e1 r with
    | some c => if (items c).isSome then (ev C b e1).bind fun q e2 => (match look e2 r, look e2 q with
      | some x, some y => lift (indexD x y) e2
      | _, _ => .st) else .st
    | none => .st := by rw [ev] <;> rfl
@[simp] theorem ev_app {i : Nat} {a : E} : ev C (.app i a) e = (guardB (isBox e i) <| (ev C a e).bind fun r e1 => match keep e1 r with
    | some (d, e2) => (match slot e2 i with
      | .mu o false (.lst l) => if l.length < lim then .ok (.v .non) (e2.set i (.mu o false (.lst (l ++ [d])))) else .st
      | _ => .st)
    | none => .st) := by rw [ev] <;> rfl
@[simp] theorem ev_popa {i : Nat} {a : E} : ev C (.popa i a) e = (guardB (isBox e i) <| (ev C a e).bind fun r e1 => match look e1 r with
    | some (.int k) => (match slot e1 i with
      | .mu o false (.lst l) => (match place l.length k with
        | some j => (match l[j]? with
          | some d => .ok (.v d) (e1.set i (.mu o false (.lst (l.eraseIdx j))))
          | none => .st)
        | none => .st)
      | _ => .st)
    | _ => .st) := by rw [ev] <;> rfl
@[simp] theorem evl_nil : evl C .nil e = .ok [] e := by unfold evl; rfl
@[simp] theorem evl_cons {a b : E} : evl C (.cons a b) e = (ev C a e).bind fun r e1 => (evl C b e1).bind fun rs e2 => .ok (r :: rs) e2 := by rw [evl]
/-! statements -/
@[simp] theorem es_nil : es C .nil e = .nx e := by unfold es; rfl
@[simp] theorem es_cons {s r : S} : es C (.cons s r) e = (es C s e).seq fun e1 => es C r e1 := by rw [es]
@[simp] theorem es_set {i : Nat} {a : Bool} {x : E} : es C (.set i a x) e = (ev C x e).fl fun r e1 => nxO (putR e1 i a r) := by rw [es]
@[simp] theorem es_par {ts : List (Nat × Bool)} {xs : E} : es C (.par ts xs) e = (evl C xs e).fl fun rs e1 => if calmRs rs then nxO (putRs e1 ts rs) else .st := by rw [es]
@[simp] theorem es_tset {t : T} {x : E} : es C (.tset t x) e = (ev C x e).fl fun r e1 => match r with
    | .v d => nxO (asg t d e1)
    | _ => .st := by rw [es] <;> rfl
@[simp] theorem es_six {i : Nat} {a x : E} : es C (.six i a x) e = (ev C x e).fl fun r e1 => match keep e1 r with
    | some (d, e2) => if isBox e2 i then (ev C a e2).fl fun q e3 => (match look e3 q with
      | some (.int k) => (match slot e3 i with
        | .mu o false (.lst l) => (match place l.length k with
          | some j => .nx (e3.set i (.mu o false (.lst (l.set j d))))
          | none => .st)
        | _ => .st)
      | _ => .st) else .st
    | none => .st := by rw [es] <;> rfl
@[simp] theorem es_aug {i : Nat} {o : Op} {x : E} : es C (.aug i o x) e = (match slot e i with
    | .pu (.int p) => (ev C x e).fl fun r e1 => match look e1 r with
      | some (.int q) => (match augI o p q with
        | some z => .nx (e1.set i (.pu (.int z)))
        | none => .st)
      | _ => .st
    | _ => .st) := by rw [es] <;> rfl
@[simp] theorem es_aix {i : Nat} {o : Op} {a x : E} : es C (.aix i a o x) e = (if isBox e i then (ev C a e).fl fun q e1 => (match look e1 q with
    | some (.int k) => (match intAt e1 i k with
      | some y => (ev C x e1).fl fun r e2 => match look e2 r with
        | some (.int z) => (match augI o y z with
          | some z' => (match slot e2 i with
            | .mu o2 false (.lst l2) => (match place l2.length k with
              | some j2 => .nx (e2.set i (.mu o2 false (.lst (l2.set j2 (.int z')))))
              | none => .st)
            | _ => .st)
          | none => .st)
        | _ => .st
      | none => .st)
    | _ => .st) else .st) := by rw [es] <;> rfl
@[simp] theorem es_ex {x : E} : es C (.ex x) e = (ev C x e).fl fun _ e1 => .nx e1 := by rw [es]
@[simp] theorem es_ret {x : E} : es C (.ret x) e = (ev C x e).fl fun r e1 => match r with
    | .v d => .rt false d e1
    | .f d => .rt true d e1
    | .s i => match slot e1 i with
      | .mu true false d => .rt true d (e1.set i .no)
      | _ => .st := by rw [es] <;> rfl
@[simp] theorem es_ite {c : E} {a b : S} : es C (.ite c a b) e = (testR (ev C c e)).fl fun t e1 => match t with
    | true => es C a e1
    | false => es C b e1 := by rw [es] <;> rfl
/-- one turn of a for -/
def turnF (C : Calls) (t : T) (b : S) (x : D) (e2 : Env) : Fl := match asg t x e2 with
  | some e3 => es C b e3
  | none => .st
@[simp] theorem es_for {t : T} {k : It} {it : E} {b : S} : es C (.for t k it b) e = (evl C it e).fl fun rs e1 => match looks e1 rs with
    | some ds => (match itD k ds with
      | some xs => (forGo (turnF C t b) xs (lockAll e1 rs).1).unl (lockAll e1 rs).2
      | none => .st)
    | none => .st := by rw [es] <;> rfl
@[simp] theorem es_rais {c : Nat} {xs : E} : es C (.rais c xs) e = (evl C xs e).fl fun rs e1 => match keeps e1 rs with
    | some (ds, e2) => if excOk ds then .ex ⟨c, ds⟩ e2 else .st
    | none => .st := by rw [es] <;> rfl
@[simp] theorem es_pass : es C .pass e = .nx e := by unfold es; rfl
end
@[simp] theorem testR_ok {r : R} {e : Env} : testR (.ok r e) = match look e r with
  | some x => (match truth x with
    | some b => .ok b e
    | none => .st)
  | none => .st := rfl
@[simp] theorem look_v {d : D} {e : Env} : look e (.v d) = some d := rfl
@[simp] theorem look_f {d : D} {e : Env} : look e (.f d) = some d := rfl
@[simp] theorem keep_v {d : D} {e : Env} : keep e (.v d) = some (d, e) := rfl
@[simp] theorem keep_f {d : D} {e : Env} : keep e (.f d) = some (d, e) := rfl
@[simp] theorem keeps_nil {e : Env} : keeps e [] = some ([], e) := rfl
@[simp] theorem keeps_v {d : D} {rs : List R} {e : Env} : keeps e (.v d :: rs) = match keeps e rs with
  | some (ds, e2) => some (d :: ds, e2)
  | none => none := rfl
@[simp] theorem keeps_f {d : D} {rs : List R} {e : Env} : keeps e (.f d :: rs) = match keeps e rs with
  | some (ds, e2) => some (d :: ds, e2)
  | none => none := rfl
@[simp] theorem looks_nil {e : Env} : looks e [] = some [] := rfl
@[simp] theorem looks_v {d : D} {rs : List R} {e : Env} : looks e (.v d :: rs) = match looks e rs with
  | some ds => some (d :: ds)
  | none => none := by
  show (match some d, looks e rs with | some d, some ds => some (d :: ds) | _, _ => none) = _
  cases looks e rs <;> rfl
@[simp] theorem looks_f {d : D} {rs : List R} {e : Env} : looks e (.f d :: rs) = match looks e rs with
  | some ds => some (d :: ds)
  | none => none := by
  show (match some d, looks e rs with | some d, some ds => some (d :: ds) | _, _ => none) = _
  cases looks e rs <;> rfl
@[simp] theorem lock_nil {e : Env} : lockAll e [] = (e, []) := rfl
@[simp] theorem lock_v {d : D} {rs : List R} {e : Env} : lockAll e (.v d :: rs) = lockAll e rs := rfl
@[simp] theorem lock_f {d : D} {rs : List R} {e : Env} : lockAll e (.f d :: rs) = lockAll e rs := rfl
@[simp] theorem unlock_nil {e : Env} : unlock e [] = e := rfl
@[simp] theorem unl_nil {o : Fl} : o.unl [] = o := by cases o <;> rfl
@[simp] theorem slot_0 {x : Sl} {e : Env} : slot (x :: e) 0 = x := rfl
@[simp] theorem slot_s {x : Sl} {e : Env} {n : Nat} : slot (x :: e) (n + 1) = slot e n := by
  unfold slot
  simp
@[simp] theorem truth_bl {b : Bool} : truth (.bl b) = some b := rfl
@[simp] theorem truth_int {i : Int} : truth (.int i) = some (i != 0) := rfl
@[simp] theorem truth_non : truth .non = some false := rfl
@[simp] theorem truth_tup {l : List D} : truth (.tup l) = some (!l.isEmpty) := rfl
@[simp] theorem truth_lst {l : List D} : truth (.lst l) = some (!l.isEmpty) := rfl
theorem run_at {tab : List Df} {n f : Nat} {ds : List D} {df : Df} (h : tab[f]? = some df) : run tab (n + 1) f ds = runDf (run tab n) df ds := by
  show (match tab[f]? with
    | some df => runDf (run tab n) df ds
    | none => .st) = _
  rw [h]
end Lt.Hx
end
section
set_option maxRecDepth 100000
namespace Lt.Hx
open PySem
structure Ix where
  (is_number is_from is_within is_long tupled are_numbers is_list_of are_seats is_hall_in sure_hall is_order_of_hall sure_hall_order sure_hall_guest first_left dealt_in less_row put_in moved_in_hall rank_in_list sure_come stays_way seats_on_way got_at got_all got_with is_better _law_box _law_take _law_cells _law_of _law_pick _law_lists _law_same _law_run _law_hall _law_rank _law_stay_right law cUnfit cNoGuest cNoPlace _law_by_hand_right : Nat)
def D_is_number (x : Ix) : Df := ⟨1, [false], 1, (.cons (.ret (.and (.isi (.var 0) [.int]) (.not (.isi (.var 0) [.bool]))))
  .nil)⟩
def D_is_from (x : Ix) : Df := ⟨2, [false, false], 2, (.cons (.ret (.and (.call x.is_number [false] (.cons (.var 0) .nil)) (.cmp .ge (.var 0) (.var 1))))
  .nil)⟩
def D_is_within (x : Ix) : Df := ⟨3, [false, false, false], 3, (.cons (.ret (.and (.call x.is_number [false] (.cons (.var 0) .nil)) (.chain (.var 1) .le (.var 0) .le (.var 2))))
  .nil)⟩
def D_is_long (x : Ix) : Df := ⟨2, [false, false], 2, (.cons (.ret (.and (.isi (.var 0) [.tuple]) (.cmp .eq (.blt .len (.cons (.var 0) .nil)) (.var 1))))
  .nil)⟩
def D_tupled (x : Ix) : Df := ⟨1, [false], 2, (.cons (.ret (.ite (.isi (.var 0) [.list, .tuple]) (.blt .tuple (.cons (.comp (.call x.tupled [false] (.cons (.var 1) .nil)) (.nm 1) [1] .pl (.cons (.var 0) .nil) (.cst (.bl true))) .nil)) (.var 0)))
  .nil)⟩
def D_are_numbers (x : Ix) : Df := ⟨1, [false], 2, (.cons (.ret (.and (.isi (.var 0) [.tuple]) (.blt .all (.cons (.comp (.call x.is_number [false] (.cons (.var 1) .nil)) (.nm 1) [1] .pl (.cons (.var 0) .nil) (.cst (.bl true))) .nil))))
  .nil)⟩
def D_is_list_of (x : Ix) : Df := ⟨2, [false, false], 3, (.cons (.ite (.or (.not (.isi (.var 1) [.tuple])) (.or (.cmp .eq (.var 1) (.tup .nil)) (.not (.blt .all (.cons (.comp (.call x.is_within [false, false, false] (.cons (.var 2) (.cons (.cst (.int 0)) (.cons (.bin .sub (.var 0) (.cst (.int 1))) .nil)))) (.nm 2) [2] .pl (.cons (.var 1) .nil) (.cst (.bl true))) .nil))))) (.cons (.ret (.cst (.bl false)))
  .nil) .nil)
  (.cons (.ret (.cmp .eq (.blt .lenset (.cons (.var 1) .nil)) (.blt .len (.cons (.var 1) .nil))))
  .nil))⟩
def D_are_seats (x : Ix) : Df := ⟨1, [false], 2, (.cons (.ret (.and (.isi (.var 0) [.tuple]) (.and (.cmp .ne (.var 0) (.tup .nil)) (.blt .all (.cons (.comp (.call x.is_from [false, false] (.cons (.var 1) (.cons (.cst (.int 1)) .nil))) (.nm 1) [1] .pl (.cons (.var 0) .nil) (.cst (.bl true))) .nil)))))
  .nil)⟩
def D_is_hall_in (x : Ix) : Df := ⟨1, [false], 2, (.cons (.ite (.or (.not (.call x.is_long [false, false] (.cons (.var 0) (.cons (.cst (.int 2)) .nil)))) (.or (.not (.call x.are_seats [false] (.cons (.ix (.var 0) (.cst (.int 0))) .nil))) (.not (.isi (.ix (.var 0) (.cst (.int 1))) [.tuple])))) (.cons (.ret (.cst (.bl false)))
  .nil) .nil)
  (.cons (.ret (.blt .all (.cons (.comp (.call x.is_list_of [false, false] (.cons (.blt .len (.cons (.ix (.var 0) (.cst (.int 0))) .nil)) (.cons (.var 1) .nil))) (.nm 1) [1] .pl (.cons (.ix (.var 0) (.cst (.int 1))) .nil) (.cst (.bl true))) .nil)))
  .nil))⟩
def D_sure_hall (x : Ix) : Df := ⟨1, [false], 2, (.cons (.set 1 false (.call x.tupled [false] (.cons (.var 0) .nil)))
  (.cons (.ite (.not (.call x.is_hall_in [false] (.cons (.var 1) .nil))) (.cons (.rais x.cUnfit .nil)
  .nil) .nil)
  (.cons (.ret (.var 1))
  .nil)))⟩
def D_is_order_of_hall (x : Ix) : Df := ⟨2, [false, false], 2, (.cons (.ret (.and (.call x.are_numbers [false] (.cons (.var 1) .nil)) (.cmp .eq (.blt .sorted (.cons (.var 1) .nil)) (.blt .rlist1 (.cons (.blt .len (.cons (.ix (.var 0) (.cst (.int 1))) .nil)) .nil)))))
  .nil)⟩
def D_sure_hall_order (x : Ix) : Df := ⟨2, [false, false], 3, (.cons (.set 2 false (.call x.tupled [false] (.cons (.var 1) .nil)))
  (.cons (.ite (.not (.call x.is_order_of_hall [false, false] (.cons (.var 0) (.cons (.var 2) .nil)))) (.cons (.rais x.cUnfit .nil)
  .nil) .nil)
  (.cons (.ret (.var 2))
  .nil)))⟩
def D_sure_hall_guest (x : Ix) : Df := ⟨2, [false, false], 2, (.cons (.ite (.not (.call x.is_number [false] (.cons (.var 1) .nil))) (.cons (.rais x.cUnfit .nil)
  .nil) .nil)
  (.cons (.ite (.not (.call x.is_within [false, false, false] (.cons (.var 1) (.cons (.cst (.int 0)) (.cons (.bin .sub (.blt .len (.cons (.ix (.var 0) (.cst (.int 1))) .nil)) (.cst (.int 1))) .nil))))) (.cons (.rais x.cNoGuest (.cons (.var 1) .nil))
  .nil) .nil)
  (.cons (.ret (.var 1))
  .nil)))⟩
def D_first_left (x : Ix) : Df := ⟨2, [false, false], 4, (.cons (.set 2 false (.comp (.var 3) (.nm 3) [3] .pl (.cons (.var 0) .nil) (.cmp .gt (.ix (.var 1) (.var 3)) (.cst (.int 0)))))
  (.cons (.ret (.ite (.cmp .ne (.var 2) (.lst .nil)) (.ix (.var 2) (.cst (.int 0))) (.cst .non)))
  .nil))⟩
def D_dealt_in (x : Ix) : Df := ⟨2, [false, false], 5, (.cons (.par [(3, true), (4, true)] (.cons (.blt .list (.cons (.ix (.var 0) (.cst (.int 0))) .nil)) (.cons (.bin .mul (.lst (.cons (.cst .non) .nil)) (.blt .len (.cons (.ix (.var 0) (.cst (.int 1))) .nil))) .nil)))
  (.cons (.for (.nm 2) .pl (.cons (.var 1) .nil) (.cons (.six 4 (.var 2) (.call x.first_left [false, false] (.cons (.ix (.ix (.var 0) (.cst (.int 1))) (.var 2)) (.cons (.var 3) .nil))))
  (.cons (.ite (.cmp .notn (.ix (.var 4) (.var 2)) (.cst .non)) (.cons (.aix 3 (.ix (.var 4) (.var 2)) .sub (.cst (.int 1)))
  .nil) .nil)
  .nil)))
  (.cons (.ret (.blt .tuple (.cons (.var 4) .nil)))
  .nil)))⟩
def D_less_row (x : Ix) : Df := ⟨2, [false, false], 3, (.cons (.ret (.blt .tuple (.cons (.comp (.var 2) (.nm 2) [2] .pl (.cons (.var 0) .nil) (.cmp .ne (.var 2) (.var 1))) .nil)))
  .nil)⟩
def D_put_in (x : Ix) : Df := ⟨3, [false, false, false], 4, (.cons (.set 3 false (.call x.less_row [false, false] (.cons (.var 0) (.cons (.var 1) .nil))))
  (.cons (.ret (.bin .add (.bin .add (.sl (.var 3) (.cst .non) (.var 2)) (.tup (.cons (.var 1) .nil))) (.sl (.var 3) (.var 2) (.cst .non))))
  .nil))⟩
def D_moved_in_hall (x : Ix) : Df := ⟨3, [false, false, false], 6, (.cons (.par [(3, false), (4, false)] (.cons (.call x.dealt_in [false, false] (.cons (.var 0) (.cons (.var 1) .nil))) (.cons (.call x.dealt_in [false, false] (.cons (.var 0) (.cons (.call x.less_row [false, false] (.cons (.var 1) (.cons (.var 2) .nil))) .nil))) .nil)))
  (.cons (.ret (.blt .tuple (.cons (.comp (.tup (.cons (.var 5) (.cons (.ix (.var 4) (.var 5)) .nil))) (.nm 5) [5] .pl (.cons (.var 1) .nil) (.and (.cmp .ne (.var 5) (.var 2)) (.cmp .ne (.ix (.var 3) (.var 5)) (.ix (.var 4) (.var 5))))) .nil)))
  .nil))⟩
def D_rank_in_list (x : Ix) : Df := ⟨2, [false, false], 2, (.cons (.ret (.ite (.cmp .isn (.var 1) (.cst .non)) (.blt .len (.cons (.var 0) .nil)) (.idx (.var 0) (.var 1))))
  .nil)⟩
def D_sure_come (x : Ix) : Df := ⟨3, [false, false, false], 5, (.cons (.set 3 false (.call x.sure_hall [false] (.cons (.var 0) .nil)))
  (.cons (.set 4 false (.call x.sure_hall_order [false, false] (.cons (.var 3) (.cons (.var 1) .nil))))
  (.cons (.ret (.tup (.cons (.var 3) (.cons (.var 4) (.cons (.call x.sure_hall_guest [false, false] (.cons (.var 3) (.cons (.var 2) .nil))) .nil)))))
  .nil)))⟩
def D_stays_way (x : Ix) : Df := ⟨3, [false, false, false], 6, (.cons (.tset (.tp (.cons (.nm 3) (.cons (.nm 4) (.cons (.nm 5) .nil)))) (.call x.sure_come [false, false, false] (.cons (.var 0) (.cons (.var 1) (.cons (.var 2) .nil)))))
  (.cons (.ret (.call x.moved_in_hall [false, false, false] (.cons (.var 3) (.cons (.var 4) (.cons (.var 5) .nil)))))
  .nil))⟩
def D_seats_on_way (x : Ix) : Df := ⟨3, [false, false, false], 10, (.cons (.tset (.tp (.cons (.nm 5) (.cons (.nm 6) (.cons (.nm 7) .nil)))) (.call x.sure_come [false, false, false] (.cons (.var 0) (.cons (.var 1) (.cons (.var 2) .nil)))))
  (.cons (.set 3 false (.call x.dealt_in [false, false] (.cons (.var 5) (.cons (.var 6) .nil))))
  (.cons (.ite (.cmp .isn (.ix (.var 3) (.var 7)) (.cst .non)) (.cons (.ret (.tup .nil))
  .nil) .nil)
  (.cons (.set 4 false (.comp (.var 8) (.tp (.cons (.nm 8) (.cons (.nm 9) .nil))) [8, 9] .pl (.cons (.call x.moved_in_hall [false, false, false] (.cons (.var 5) (.cons (.var 6) (.cons (.var 7) .nil)))) .nil) (.cst (.bl true))))
  (.cons (.ret (.blt .tuple (.cons (.bin .add (.lst (.cons (.ix (.var 3) (.var 7)) .nil)) (.comp (.ix (.var 3) (.var 8)) (.nm 8) [8] .pl (.cons (.var 4) .nil) (.cmp .notn (.ix (.var 3) (.var 8)) (.cst .non)))) .nil)))
  .nil)))))⟩
def D_got_at (x : Ix) : Df := ⟨4, [false, false, false, false], 7, (.cons (.set 4 false (.call x.sure_hall [false] (.cons (.var 0) .nil)))
  (.cons (.set 5 false (.call x.sure_hall_order [false, false] (.cons (.var 4) (.cons (.var 1) .nil))))
  (.cons (.ite (.or (.not (.call x.is_number [false] (.cons (.var 2) .nil))) (.not (.call x.is_number [false] (.cons (.var 3) .nil)))) (.cons (.rais x.cUnfit .nil)
  .nil) .nil)
  (.cons (.set 6 false (.call x.sure_hall_guest [false, false] (.cons (.var 4) (.cons (.var 2) .nil))))
  (.cons (.ite (.not (.call x.is_within [false, false, false] (.cons (.var 3) (.cons (.cst (.int 0)) (.cons (.bin .sub (.blt .len (.cons (.var 5) .nil)) (.cst (.int 1))) .nil))))) (.cons (.rais x.cNoPlace (.cons (.var 3) .nil))
  .nil) .nil)
  (.cons (.ret (.ix (.call x.dealt_in [false, false] (.cons (.var 4) (.cons (.call x.put_in [false, false, false] (.cons (.var 5) (.cons (.var 6) (.cons (.var 3) .nil)))) .nil))) (.var 6)))
  .nil))))))⟩
def D_got_all (x : Ix) : Df := ⟨3, [false, false, false], 7, (.cons (.tset (.tp (.cons (.nm 3) (.cons (.nm 4) (.cons (.nm 5) .nil)))) (.call x.sure_come [false, false, false] (.cons (.var 0) (.cons (.var 1) (.cons (.var 2) .nil)))))
  (.cons (.ret (.blt .tuple (.cons (.comp (.ix (.call x.dealt_in [false, false] (.cons (.var 3) (.cons (.call x.put_in [false, false, false] (.cons (.var 4) (.cons (.var 5) (.cons (.var 6) .nil)))) .nil))) (.var 5)) (.nm 6) [6] .rg1 (.cons (.blt .len (.cons (.var 4) .nil)) .nil) (.cst (.bl true))) .nil)))
  .nil))⟩
def D_got_with (x : Ix) : Df := ⟨4, [false, false, false, false], 8, (.cons (.set 4 false (.call x.sure_hall [false] (.cons (.var 0) .nil)))
  (.cons (.set 5 false (.call x.sure_hall_order [false, false] (.cons (.var 4) (.cons (.var 1) .nil))))
  (.cons (.ite (.not (.call x.is_number [false] (.cons (.var 2) .nil))) (.cons (.rais x.cUnfit .nil)
  .nil) .nil)
  (.cons (.set 6 false (.call x.tupled [false] (.cons (.var 3) .nil)))
  (.cons (.ite (.not (.call x.is_list_of [false, false] (.cons (.blt .len (.cons (.ix (.var 4) (.cst (.int 0))) .nil)) (.cons (.var 6) .nil)))) (.cons (.rais x.cUnfit .nil)
  .nil) .nil)
  (.cons (.set 7 false (.call x.sure_hall_guest [false, false] (.cons (.var 4) (.cons (.var 2) .nil))))
  (.cons (.ret (.ix (.call x.dealt_in [false, false] (.cons (.tup (.cons (.ix (.var 4) (.cst (.int 0))) (.cons (.bin .add (.bin .add (.sl (.ix (.var 4) (.cst (.int 1))) (.cst .non) (.var 7)) (.tup (.cons (.var 6) .nil))) (.sl (.ix (.var 4) (.cst (.int 1))) (.bin .add (.var 7) (.cst (.int 1))) (.cst .non))) .nil))) (.cons (.var 5) .nil))) (.var 7)))
  .nil)))))))⟩
def D_is_better (x : Ix) : Df := ⟨4, [false, false, false, false], 7, (.cons (.set 4 false (.call x.sure_hall [false] (.cons (.var 0) .nil)))
  (.cons (.ite (.or (.not (.call x.is_number [false] (.cons (.var 1) .nil))) (.not (.blt .all (.cons (.comp (.or (.cmp .isn (.var 6) (.cst .non)) (.call x.is_number [false] (.cons (.var 6) .nil))) (.nm 6) [6] .pl (.cons (.tup (.cons (.var 2) (.cons (.var 3) .nil))) .nil) (.cst (.bl true))) .nil)))) (.cons (.rais x.cUnfit .nil)
  .nil) .nil)
  (.cons (.set 5 false (.ix (.ix (.var 4) (.cst (.int 1))) (.call x.sure_hall_guest [false, false] (.cons (.var 4) (.cons (.var 1) .nil)))))
  (.cons (.for (.nm 6) .pl (.cons (.tup (.cons (.var 2) (.cons (.var 3) .nil))) .nil) (.cons (.ite (.and (.cmp .notn (.var 6) (.cst .non)) (.cmp .notin (.var 6) (.var 5))) (.cons (.rais x.cNoPlace (.cons (.var 6) .nil))
  .nil) .nil)
  .nil))
  (.cons (.ret (.cmp .lt (.call x.rank_in_list [false, false] (.cons (.var 5) (.cons (.var 2) .nil))) (.call x.rank_in_list [false, false] (.cons (.var 5) (.cons (.var 3) .nil)))))
  .nil)))))⟩
def D__law_box (x : Ix) : Df := ⟨2, [false, false], 3, (.cons (.set 2 false (.ite (.cmp .lt (.var 1) (.blt .len (.cons (.var 0) .nil))) (.ix (.var 0) (.var 1)) (.cst (.int 0))))
  (.cons (.ret (.lst (.cons (.bin .mul (.blt .abs (.cons (.var 2) .nil)) (.blt .int (.cons (.cmp .ge (.blt .abs (.cons (.var 2) .nil)) (.bin .pow (.cst (.int 10)) (.cst (.int 18)))) .nil))) (.cons (.bin .add (.bin .add (.bin .mod (.blt .int (.cons (.var 2) .nil)) (.cst (.int 2305843009213693951))) (.bin .mul (.cst (.int 39373)) (.var 1))) (.cst (.int 3196071))) (.cons (.cst (.int 0)) .nil)))))
  .nil))⟩
def D__law_take (x : Ix) : Df := ⟨2, [true, false], 6, (.cons (.ite (.cmp .gt (.ix (.var 0) (.cst (.int 0))) (.cst (.int 0))) (.cons (.set 5 false (.bin .mod (.blt .int (.cons (.ix (.var 0) (.cst (.int 0))) .nil)) (.var 1)))
  (.cons (.six 0 (.cst (.int 0)) (.bin .fdiv (.ix (.var 0) (.cst (.int 0))) (.var 1)))
  (.cons (.ret (.var 5))
  .nil))) .nil)
  (.cons (.six 0 (.cst (.int 2)) (.bin .add (.ix (.var 0) (.cst (.int 2))) (.cst (.int 1))))
  (.cons (.set 2 false (.bin .mod (.blt .int (.cons (.bin .mul (.bin .add (.ix (.var 0) (.cst (.int 1))) (.bin .mul (.cst (.int 48271)) (.ix (.var 0) (.cst (.int 2))))) (.bin .add (.cst (.int 39373)) (.ix (.var 0) (.cst (.int 2))))) .nil)) (.cst (.int 2147483647))))
  (.cons (.set 3 false (.bin .add (.bin .mod (.blt .int (.cons (.var 2) .nil)) (.cst (.int 40009))) (.cst (.int 7))))
  (.cons (.set 4 false (.bin .mod (.blt .int (.cons (.bin .mul (.bin .add (.bin .add (.var 2) (.ix (.var 0) (.cst (.int 2)))) (.bin .fdiv (.ix (.var 0) (.cst (.int 1))) (.cst (.int 1000003)))) (.var 3)) .nil)) (.cst (.int 2147483629))))
  (.cons (.ret (.bin .mod (.blt .int (.cons (.bin .fdiv (.bin .mod (.blt .int (.cons (.bin .add (.bin .mul (.var 4) (.cst (.int 48271))) (.var 2)) .nil)) (.cst (.int 2147483587))) (.cst (.int 64))) .nil)) (.var 1)))
  .nil))))))⟩
def D__law_cells (x : Ix) : Df := ⟨2, [false, false], 6, (.cons (.set 2 true (.or (.blt .list (.cons (.sl (.var 0) (.cst .non) (.var 1)) .nil)) (.lst (.cons (.cst (.int 0)) .nil))))
  (.cons (.for (.tp (.cons (.nm 3) (.cons (.nm 4) .nil))) .en (.cons (.sl (.var 0) (.var 1) (.cst (.int 63))) .nil) (.cons (.set 5 false (.bin .mod (.blt .int (.cons (.var 3) .nil)) (.var 1)))
  (.cons (.six 2 (.var 5) (.bin .add (.ix (.var 2) (.var 5)) (.bin .mul (.var 4) (.bin .add (.var 3) (.cst (.int 2))))))
  .nil)))
  (.cons (.ret (.var 2))
  .nil)))⟩
def D__law_of (x : Ix) : Df := ⟨2, [true, false], 2, (.cons (.ret (.ix (.var 1) (.call x._law_take [true, false] (.cons (.var 0) (.cons (.blt .len (.cons (.var 1) .nil)) .nil)))))
  .nil)⟩
def D__law_pick (x : Ix) : Df := ⟨3, [true, false, false], 6, (.cons (.par [(4, true), (5, true)] (.cons (.blt .list (.cons (.var 1) .nil)) (.cons (.lst .nil) .nil)))
  (.cons (.for (.nm 3) .rg1 (.cons (.blt .min2 (.cons (.blt .int (.cons (.var 2) .nil)) (.cons (.blt .len (.cons (.var 4) .nil)) .nil))) .nil) (.cons (.ex (.app 5 (.popa 4 (.call x._law_take [true, false] (.cons (.var 0) (.cons (.blt .len (.cons (.var 4) .nil)) .nil))))))
  .nil))
  (.cons (.ret (.var 5))
  .nil)))⟩
def D__law_lists (x : Ix) : Df := ⟨1, [false], 2, (.cons (.ret (.ite (.isi (.var 0) [.list, .tuple]) (.comp (.call x._law_lists [false] (.cons (.var 1) .nil)) (.nm 1) [1] .pl (.cons (.var 0) .nil) (.cst (.bl true))) (.var 0)))
  .nil)⟩
def D__law_same (x : Ix) : Df := ⟨2, [false, false], 4, (.cons (.ite (.isi (.var 1) [.list, .tuple]) (.cons (.ite (.or (.cmp .ne (.isi (.var 0) [.list]) (.isi (.var 1) [.list])) (.cmp .ne (.isi (.var 0) [.tuple]) (.isi (.var 1) [.tuple]))) (.cons (.ret (.cst (.bl false)))
  .nil) .nil)
  (.cons (.ret (.and (.cmp .eq (.blt .len (.cons (.var 0) .nil)) (.blt .len (.cons (.var 1) .nil))) (.blt .all (.cons (.comp (.call x._law_same [false, false] (.cons (.var 2) (.cons (.var 3) .nil))) (.tp (.cons (.nm 2) (.cons (.nm 3) .nil))) [2, 3] .zp (.cons (.var 0) (.cons (.var 1) .nil)) (.cst (.bl true))) .nil))))
  .nil)) .nil)
  (.cons (.ite (.cmp .isn (.var 1) (.cst .non)) (.cons (.ret (.cmp .isn (.var 0) (.cst .non)))
  .nil) .nil)
  (.cons (.ite (.isi (.var 1) [.bool, .str]) (.cons (.ret (.and (.cmp .eq (.isi (.var 0) [.bool]) (.isi (.var 1) [.bool])) (.and (.cmp .eq (.isi (.var 0) [.str]) (.isi (.var 1) [.str])) (.cmp .eq (.var 0) (.var 1)))))
  .nil) .nil)
  (.cons (.ret (.and (.isi (.var 0) [.int]) (.and (.not (.isi (.var 0) [.bool])) (.cmp .eq (.var 0) (.var 1)))))
  .nil))))⟩
def D__law_run (x : Ix) : Df := ⟨2, [false, false], 7, (.cons (.par [(3, true), (4, true)] (.cons (.blt .list (.cons (.ix (.var 0) (.cst (.int 0))) .nil)) (.cons (.bin .mul (.lst (.cons (.cst .non) .nil)) (.blt .len (.cons (.ix (.var 0) (.cst (.int 1))) .nil))) .nil)))
  (.cons (.for (.nm 2) .pl (.cons (.var 1) .nil) (.cons (.set 5 false (.comp (.var 6) (.nm 6) [6] .pl (.cons (.ix (.ix (.var 0) (.cst (.int 1))) (.var 2)) .nil) (.cmp .gt (.ix (.var 3) (.var 6)) (.cst (.int 0)))))
  (.cons (.ite (.cmp .ne (.var 5) (.lst .nil)) (.cons (.six 4 (.var 2) (.ix (.var 5) (.cst (.int 0))))
  (.cons (.six 3 (.ix (.var 5) (.cst (.int 0))) (.bin .sub (.ix (.var 3) (.ix (.var 5) (.cst (.int 0)))) (.cst (.int 1))))
  .nil)) .nil)
  .nil)))
  (.cons (.ret (.blt .tuple (.cons (.var 4) .nil)))
  .nil)))⟩
def D__law_hall (x : Ix) : Df := ⟨2, [true, false], 6, (.cons (.set 2 false (.bin .add (.cst (.int 1)) (.call x._law_take [true, false] (.cons (.var 0) (.cons (.cst (.int 4)) .nil)))))
  (.cons (.set 3 false (.blt .tuple (.cons (.comp (.ix (.lst (.cons (.cst (.int 1)) (.cons (.cst (.int 1)) (.cons (.cst (.int 1)) (.cons (.cst (.int 2)) (.cons (.cst (.int 2)) (.cons (.cst (.int 3)) .nil))))))) (.call x._law_take [true, false] (.cons (.var 0) (.cons (.cst (.int 6)) .nil)))) (.nm 5) [5] .rg1 (.cons (.var 2) .nil) (.cst (.bl true))) .nil)))
  (.cons (.set 4 true (.lst .nil))
  (.cons (.for (.nm 5) .rg1 (.cons (.call x._law_take [true, false] (.cons (.var 0) (.cons (.bin .add (.var 1) (.cst (.int 1))) .nil))) .nil) (.cons (.ex (.app 4 (.blt .tuple (.cons (.call x._law_pick [true, false, false] (.cons (.var 0) (.cons (.blt .rlist1 (.cons (.var 2) .nil)) (.cons (.bin .add (.cst (.int 1)) (.call x._law_take [true, false] (.cons (.var 0) (.cons (.var 2) .nil)))) .nil)))) .nil))))
  .nil))
  (.cons (.ret (.tup (.cons (.var 3) (.cons (.blt .tuple (.cons (.var 4) .nil)) .nil))))
  .nil)))))⟩
def D__law_rank (x : Ix) : Df := ⟨2, [false, false], 2, (.cons (.ret (.ite (.cmp .isn (.var 1) (.cst .non)) (.blt .len (.cons (.var 0) .nil)) (.idx (.var 0) (.var 1))))
  .nil)⟩
def D__law_stay_right (x : Ix) : Df := ⟨3, [false, false, false], 16, (.cons (.par [(7, false), (8, false)] (.cons (.call x._law_lists [false] (.cons (.var 0) .nil)) (.cons (.blt .tuple (.cons (.comp (.var 14) (.nm 14) [14] .pl (.cons (.var 1) .nil) (.cmp .ne (.var 14) (.var 2))) .nil)) .nil)))
  (.cons (.par [(9, false), (10, false)] (.cons (.call x._law_run [false, false] (.cons (.var 0) (.cons (.var 1) .nil))) (.cons (.call x._law_run [false, false] (.cons (.var 0) (.cons (.var 8) .nil))) .nil)))
  (.cons (.set 3 false (.comp (.var 14) (.nm 14) [14] .pl (.cons (.var 8) .nil) (.cmp .ne (.ix (.var 9) (.var 14)) (.ix (.var 10) (.var 14)))))
  (.cons (.ite (.cmp .ne (.comp (.cst (.int 1)) (.nm 14) [14] .pl (.cons (.var 3) .nil) (.cmp .ge (.call x._law_rank [false, false] (.cons (.ix (.ix (.var 0) (.cst (.int 1))) (.var 14)) (.cons (.ix (.var 10) (.var 14)) .nil))) (.call x._law_rank [false, false] (.cons (.ix (.ix (.var 0) (.cst (.int 1))) (.var 14)) (.cons (.ix (.var 9) (.var 14)) .nil))))) (.lst .nil)) (.cons (.ret (.cst (.bl false)))
  .nil) .nil)
  (.cons (.set 4 false (.ite (.cmp .notn (.ix (.var 9) (.var 2)) (.cst .non)) (.comp (.ix (.var 9) (.var 14)) (.nm 14) [14] .pl (.cons (.bin .add (.lst (.cons (.var 2) .nil)) (.var 3)) .nil) (.cmp .notn (.ix (.var 9) (.var 14)) (.cst .non))) (.lst .nil)))
  (.cons (.set 5 false (.lst (.cons (.call x.stays_way [false, false, false] (.cons (.var 7) (.cons (.blt .list (.cons (.var 1) .nil)) (.cons (.var 2) .nil)))) (.cons (.call x.seats_on_way [false, false, false] (.cons (.var 0) (.cons (.blt .list (.cons (.var 1) .nil)) (.cons (.var 2) .nil)))) .nil))))
  (.cons (.ite (.not (.call x._law_same [false, false] (.cons (.var 5) (.cons (.lst (.cons (.blt .tuple (.cons (.comp (.tup (.cons (.var 14) (.cons (.ix (.var 10) (.var 14)) .nil))) (.nm 14) [14] .pl (.cons (.var 3) .nil) (.cst (.bl true))) .nil)) (.cons (.blt .tuple (.cons (.var 4) .nil)) .nil))) .nil)))) (.cons (.ret (.cst (.bl false)))
  .nil) .nil)
  (.cons (.for (.nm 6) .rg1 (.cons (.bin .add (.blt .len (.cons (.var 1) .nil)) (.cst (.int 1))) .nil) (.cons (.set 11 false (.call x._law_run [false, false] (.cons (.var 0) (.cons (.sl (.var 1) (.cst .non) (.var 6)) .nil))))
  (.cons (.set 12 false (.call x._law_run [false, false] (.cons (.var 0) (.cons (.comp (.var 14) (.nm 14) [14] .pl (.cons (.sl (.var 1) (.cst .non) (.var 6)) .nil) (.cmp .ne (.var 14) (.var 2))) .nil))))
  (.cons (.set 13 false (.comp (.bin .sub (.blt .len (.cons (.comp (.cst (.int 1)) (.nm 14) [14] .pl (.cons (.var 11) .nil) (.cmp .eq (.var 14) (.var 15))) .nil)) (.blt .len (.cons (.comp (.cst (.int 1)) (.nm 14) [14] .pl (.cons (.var 12) .nil) (.cmp .eq (.var 14) (.var 15))) .nil))) (.nm 15) [15] .rg1 (.cons (.blt .len (.cons (.ix (.var 0) (.cst (.int 0))) .nil)) .nil) (.cst (.bl true))))
  (.cons (.ite (.or (.cmp .lt (.blt .min1 (.cons (.var 13) .nil)) (.cst (.int 0))) (.cmp .gt (.blt .sum (.cons (.var 13) .nil)) (.cst (.int 1)))) (.cons (.ret (.cst (.bl false)))
  .nil) .nil)
  .nil)))))
  (.cons (.ret (.cst (.bl true)))
  .nil)))))))))⟩
def D_law (x : Ix) : Df := ⟨1, [false], 20, (.cons (.ite (.not (.call x._law_by_hand_right [] .nil)) (.cons (.ret (.cst (.bl false)))
  .nil) .nil)
  (.cons (.set 1 true (.call x._law_box [false, false] (.cons (.call x._law_cells [false, false] (.cons (.var 0) (.cons (.cst (.int 1)) .nil))) (.cons (.cst (.int 0)) .nil))))
  (.cons (.for (.nm 2) .rg1 (.cons (.cst (.int 3)) .nil) (.cons (.set 3 false (.call x._law_hall [true, false] (.cons (.var 1) (.cons (.cst (.int 8)) .nil))))
  (.cons (.par [(6, false), (7, false)] (.cons (.call x._law_lists [false] (.cons (.var 3) .nil)) (.cons (.blt .len (.cons (.ix (.var 3) (.cst (.int 1))) .nil)) .nil)))
  (.cons (.set 4 false (.blt .tuple (.cons (.call x._law_pick [true, false, false] (.cons (.var 1) (.cons (.blt .rlist1 (.cons (.var 7) .nil)) (.cons (.var 7) .nil)))) .nil)))
  (.cons (.for (.nm 5) .rg1 (.cons (.var 7) .nil) (.cons (.par [(13, false), (14, false)] (.cons (.blt .tuple (.cons (.comp (.var 15) (.nm 15) [15] .pl (.cons (.var 4) .nil) (.cmp .ne (.var 15) (.var 5))) .nil)) (.cons (.ix (.ix (.var 3) (.cst (.int 1))) (.var 5)) .nil)))
  (.cons (.set 8 false (.comp (.ix (.call x._law_run [false, false] (.cons (.var 3) (.cons (.bin .add (.bin .add (.sl (.var 13) (.cst .non) (.var 17)) (.tup (.cons (.var 5) .nil))) (.sl (.var 13) (.var 17) (.cst .non))) .nil))) (.var 5)) (.nm 17) [17] .rg1 (.cons (.var 7) .nil) (.cst (.bl true))))
  (.cons (.set 9 false (.comp (.call x._law_rank [false, false] (.cons (.var 14) (.cons (.var 15) .nil))) (.nm 15) [15] .pl (.cons (.var 8) .nil) (.cst (.bl true))))
  (.cons (.set 10 false (.blt .tuple (.cons (.call x._law_pick [true, false, false] (.cons (.var 1) (.cons (.blt .rlist1 (.cons (.blt .len (.cons (.ix (.var 3) (.cst (.int 0))) .nil)) .nil)) (.cons (.bin .add (.cst (.int 1)) (.call x._law_take [true, false] (.cons (.var 1) (.cons (.blt .len (.cons (.ix (.var 3) (.cst (.int 0))) .nil)) .nil)))) .nil)))) .nil)))
  (.cons (.set 11 false (.tup (.cons (.ix (.var 3) (.cst (.int 0))) (.cons (.bin .add (.bin .add (.sl (.ix (.var 3) (.cst (.int 1))) (.cst .non) (.var 5)) (.tup (.cons (.var 10) .nil))) (.sl (.ix (.var 3) (.cst (.int 1))) (.bin .add (.var 5) (.cst (.int 1))) (.cst .non))) .nil))))
  (.cons (.par [(15, false), (16, false), (17, false)] (.cons (.ix (.call x._law_run [false, false] (.cons (.var 3) (.cons (.var 4) .nil))) (.var 5)) (.cons (.ix (.call x._law_run [false, false] (.cons (.var 11) (.cons (.var 4) .nil))) (.var 5)) (.cons (.call x._law_take [true, false] (.cons (.var 1) (.cons (.var 7) .nil))) .nil))))
  (.cons (.ite (.or (.cmp .ne (.var 9) (.blt .sorted (.cons (.var 9) .nil))) (.and (.cmp .isin (.var 16) (.var 14)) (.cmp .lt (.call x._law_rank [false, false] (.cons (.var 14) (.cons (.var 16) .nil))) (.call x._law_rank [false, false] (.cons (.var 14) (.cons (.var 15) .nil)))))) (.cons (.ret (.cst (.bl false)))
  .nil) .nil)
  (.cons (.par [(18, false), (19, false)] (.cons (.call x._law_of [true, false] (.cons (.var 1) (.cons (.bin .add (.blt .list (.cons (.var 14) .nil)) (.lst (.cons (.cst .non) .nil))) .nil))) (.cons (.call x._law_of [true, false] (.cons (.var 1) (.cons (.bin .add (.blt .list (.cons (.var 14) .nil)) (.lst (.cons (.cst .non) .nil))) .nil))) .nil)))
  (.cons (.set 12 false (.lst (.cons (.call x.got_all [false, false, false] (.cons (.var 6) (.cons (.blt .list (.cons (.var 4) .nil)) (.cons (.var 5) .nil)))) (.cons (.call x.got_at [false, false, false, false] (.cons (.var 3) (.cons (.blt .list (.cons (.var 4) .nil)) (.cons (.var 5) (.cons (.var 17) .nil))))) .nil))))
  (.cons (.set 12 false (.bin .add (.var 12) (.lst (.cons (.call x.got_with [false, false, false, false] (.cons (.var 6) (.cons (.var 4) (.cons (.var 5) (.cons (.blt .list (.cons (.var 10) .nil)) .nil))))) (.cons (.call x.is_better [false, false, false, false] (.cons (.var 6) (.cons (.var 5) (.cons (.var 18) (.cons (.var 19) .nil))))) .nil)))))
  (.cons (.ite (.not (.call x._law_same [false, false] (.cons (.var 12) (.cons (.lst (.cons (.blt .tuple (.cons (.var 8) .nil)) (.cons (.ix (.var 8) (.var 17)) (.cons (.var 16) (.cons (.cmp .lt (.call x._law_rank [false, false] (.cons (.var 14) (.cons (.var 18) .nil))) (.call x._law_rank [false, false] (.cons (.var 14) (.cons (.var 19) .nil)))) .nil))))) .nil)))) (.cons (.ret (.cst (.bl false)))
  .nil) .nil)
  (.cons (.ite (.not (.call x._law_stay_right [false, false, false] (.cons (.var 3) (.cons (.var 4) (.cons (.var 5) .nil))))) (.cons (.ret (.cst (.bl false)))
  .nil) .nil)
  .nil)))))))))))))
  .nil)))))
  (.cons (.ret (.cst (.bl true)))
  .nil))))⟩
structure Has (tab : List Df) (x : Ix) : Prop where
  is_number : tab[x.is_number]? = some (D_is_number x)
  is_from : tab[x.is_from]? = some (D_is_from x)
  is_within : tab[x.is_within]? = some (D_is_within x)
  is_long : tab[x.is_long]? = some (D_is_long x)
  tupled : tab[x.tupled]? = some (D_tupled x)
  are_numbers : tab[x.are_numbers]? = some (D_are_numbers x)
  is_list_of : tab[x.is_list_of]? = some (D_is_list_of x)
  are_seats : tab[x.are_seats]? = some (D_are_seats x)
  is_hall_in : tab[x.is_hall_in]? = some (D_is_hall_in x)
  sure_hall : tab[x.sure_hall]? = some (D_sure_hall x)
  is_order_of_hall : tab[x.is_order_of_hall]? = some (D_is_order_of_hall x)
  sure_hall_order : tab[x.sure_hall_order]? = some (D_sure_hall_order x)
  sure_hall_guest : tab[x.sure_hall_guest]? = some (D_sure_hall_guest x)
  first_left : tab[x.first_left]? = some (D_first_left x)
  dealt_in : tab[x.dealt_in]? = some (D_dealt_in x)
  less_row : tab[x.less_row]? = some (D_less_row x)
  put_in : tab[x.put_in]? = some (D_put_in x)
  moved_in_hall : tab[x.moved_in_hall]? = some (D_moved_in_hall x)
  rank_in_list : tab[x.rank_in_list]? = some (D_rank_in_list x)
  sure_come : tab[x.sure_come]? = some (D_sure_come x)
  stays_way : tab[x.stays_way]? = some (D_stays_way x)
  seats_on_way : tab[x.seats_on_way]? = some (D_seats_on_way x)
  got_at : tab[x.got_at]? = some (D_got_at x)
  got_all : tab[x.got_all]? = some (D_got_all x)
  got_with : tab[x.got_with]? = some (D_got_with x)
  is_better : tab[x.is_better]? = some (D_is_better x)
  _law_box : tab[x._law_box]? = some (D__law_box x)
  _law_take : tab[x._law_take]? = some (D__law_take x)
  _law_cells : tab[x._law_cells]? = some (D__law_cells x)
  _law_of : tab[x._law_of]? = some (D__law_of x)
  _law_pick : tab[x._law_pick]? = some (D__law_pick x)
  _law_lists : tab[x._law_lists]? = some (D__law_lists x)
  _law_same : tab[x._law_same]? = some (D__law_same x)
  _law_run : tab[x._law_run]? = some (D__law_run x)
  _law_hall : tab[x._law_hall]? = some (D__law_hall x)
  _law_rank : tab[x._law_rank]? = some (D__law_rank x)
  _law_stay_right : tab[x._law_stay_right]? = some (D__law_stay_right x)
  law : tab[x.law]? = some (D_law x)
end Lt.Hx
end
section
set_option maxRecDepth 100000
namespace Lt.Hx
open PySem
/-! ### numbers, lists of numbers -/
abbrev nD (k : Nat) : D := .int (k : Int)
def dN (l : List Nat) : D := .tup (l.map nD)
def lN (l : List Nat) : D := .lst (l.map nD)
def oD : Option Nat → D
  | none => .non
  | some k => nD k
def dO (l : List (Option Nat)) : D := .tup (l.map oD)
theorem lim_le {n : Nat} (h : n ≤ 1000) : n ≤ lim := by unfold lim; omega
theorem place_nat {n k : Nat} (h : k < n) : place n (k : Int) = some k := by
  unfold place
  rw [if_pos (by omega), if_pos (by omega)]
  simp
@[simp] theorem ix_tup {l : List D} {k : Nat} : ixD (.tup l) (.int (k : Int)) = l[k]? := by
  show (place l.length (k : Int)).bind (fun j => l[j]?) = _
  by_cases h : k < l.length
  · rw [place_nat h]; rfl
  · have : place l.length (k : Int) = none := by unfold place; rw [if_pos (by omega), if_neg (by omega)]
    rw [this]
    simp at h
    simp [h]
@[simp] theorem ix_lst {l : List D} {k : Nat} : ixD (.lst l) (.int (k : Int)) = l[k]? := by
  show (place l.length (k : Int)).bind (fun j => l[j]?) = _
  by_cases h : k < l.length
  · rw [place_nat h]; rfl
  · have : place l.length (k : Int) = none := by unfold place; rw [if_pos (by omega), if_neg (by omega)]
    rw [this]
    simp at h
    simp [h]
@[simp] theorem ix_tup0 {l : List D} : ixD (.tup l) (.int 0) = l[0]? := ix_tup (k := 0)
@[simp] theorem ix_lst0 {l : List D} : ixD (.lst l) (.int 0) = l[0]? := ix_lst (k := 0)
@[simp] theorem ix_tup1 {l : List D} : ixD (.tup l) (.int 1) = l[1]? := ix_tup (k := 1)
@[simp] theorem ix_lst1 {l : List D} : ixD (.lst l) (.int 1) = l[1]? := ix_lst (k := 1)
/-! comprehensions -/
theorem compGo_map {α : Type} {turn : D → Env → Out (Option D)} {e : Env} {enc : α → D} {g : α → Option D} : ∀ {l : List α} {acc : List D}, (∀ a ∈ l, turn (enc a) e = .ok (g a) e) → compGo turn (l.map enc) acc e = .ok (acc.reverse ++ l.filterMap g) e
  | [], acc, _ => by simp [compGo]
  | a :: l, acc, h => by
    have h1 := h a (List.mem_cons_self ..)
    have ih : ∀ acc, compGo turn (l.map enc) acc e = .ok (acc.reverse ++ l.filterMap g) e := fun acc => compGo_map fun b hb => h b (List.mem_cons_of_mem _ hb)
    rw [List.map_cons, compGo, h1]
    cases hg : g a with
    | none => simp [hg, ih]
    | some d => simp [hg, ih]
theorem compGo_all {turn : D → Env → Out (Option D)} {e : Env} {l : List D} {g : D → Option D} (h : ∀ a ∈ l, turn a e = .ok (g a) e) : compGo turn l [] e = .ok (l.filterMap g) e := by
  have := compGo_map (enc := id) (g := g) (l := l) (acc := []) h
  simpa using this
/-! calls of nothing that is changed -/
@[simp] theorem args_0 {e : Env} : args e [] [] = some [] := rfl
@[simp] theorem args_v {e : Env} {bs : List Bool} {d : D} {rs : List R} : args e (false :: bs) (.v d :: rs) = (args e bs rs).map (Ar.val d :: ·) := by
  show (match some (Ar.val d) with
    | some a => (match args e bs rs with
      | some as => some (a :: as)
      | none => none)
    | none => none) = _
  cases args e bs rs <;> rfl
@[simp] theorem args_f {e : Env} {bs : List Bool} {d : D} {rs : List R} : args e (false :: bs) (.f d :: rs) = (args e bs rs).map (Ar.val d :: ·) := by
  show (match some (Ar.val d) with
    | some a => (match args e bs rs with
      | some as => some (a :: as)
      | none => none)
    | none => none) = _
  cases args e bs rs <;> rfl
theorem args_s {e : Env} {bs : List Bool} {i : Nat} {rs : List R} {o l : Bool} {d : D} (h : slot e i = .mu o l d) : args e (false :: bs) (.s i :: rs) = (args e bs rs).map (Ar.bor i d :: ·) := by
  show (match (match slot e i with | .mu _ _ d => some (Ar.bor i d) | _ => none) with
    | some a => (match args e bs rs with
      | some as => some (a :: as)
      | none => none)
    | none => none) = _
  rw [h]
  cases args e bs rs <;> rfl
theorem args_t {e : Env} {bs : List Bool} {i : Nat} {rs : List R} {o : Bool} {d : D} (h : slot e i = .mu o false d) : args e (true :: bs) (.s i :: rs) = (args e bs rs).map (Ar.chg i d :: ·) := by
  show (match (match slot e i with | .mu _ false d => some (Ar.chg i d) | _ => none) with
    | some a => (match args e bs rs with
      | some as => some (a :: as)
      | none => none)
    | none => none) = _
  rw [h]
  cases args e bs rs <;> rfl
/-- the call of a def that changes nothing, its arguments any values (new lists too) -/
def valR : R → Option D
  | .v d => some d
  | .f d => some d
  | .s _ => none
theorem callR_val {C : Calls} {f : Nat} {io : List Bool} {e : Env} {rs : List R} {ds : List D} (hio : io = List.replicate rs.length false) (h : rs.map valR = ds.map some) {fr : Bool} {d : D} (hc : C f ds = .rt fr d []) : callR C f io rs e = .ok (if fr then .f d else .v d) e := by
  subst hio
  have key : ∀ {rs : List R} {ds : List D}, rs.map valR = ds.map some → args e (List.replicate rs.length false) rs = some (ds.map Ar.val) := by
    intro rs
    induction rs with
    | nil => intro ds h; cases ds with
      | nil => rfl
      | cons _ _ => cases h
    | cons r rs ih =>
      intro ds h
      cases ds with
      | nil => cases h
      | cons d ds =>
        have h1 : valR r = some d := by simpa using congrArg List.head? h
        have h2 : rs.map valR = ds.map some := by simpa using congrArg List.tail h
        have h3 : arg e false r = some (.val d) := by
          cases r with
          | v x => cases h1; rfl
          | f x => cases h1; rfl
          | s i => cases h1
        show (match arg e false r with
          | some a => (match args e (List.replicate rs.length false) rs with
            | some as => some (a :: as)
            | none => none)
          | none => none) = _
        rw [h3, ih h2]
        rfl
  have nt : ∀ ds : List D, anyTmp (ds.map Ar.val) = false := fun ds => by
    induction ds with
    | nil => rfl
    | cons d ds ih => exact ih
  have nc : ∀ ds : List D, chgs (ds.map Ar.val) = [] := fun ds => by
    induction ds with
    | nil => rfl
    | cons d ds ih => exact ih
  have nb : ∀ ds : List D, bors (ds.map Ar.val) = [] := fun ds => by
    induction ds with
    | nil => rfl
    | cons d ds ih => exact ih
  have md : (ds.map Ar.val).map Ar.d = ds := by
    rw [List.map_map]
    show ds.map id = ds
    rw [List.map_id]
  have pb : ∀ ds : List D, putBack e (ds.map Ar.val) [] = some e := fun ds => by
    induction ds with
    | nil => rfl
    | cons d ds ih => exact ih
  have ap : apartB (ds.map Ar.val) = true := by unfold apartB; rw [nc, nb]; rfl
  have ob : okBack (ds.map Ar.val) fr d [] = true := by unfold okBack; rw [nb]; rfl
  unfold callR
  rw [key h]
  simp only [nt, ap, md, hc, ob, pb, Bool.false_eq_true, if_false, if_true]
/-- what a call gives, its arguments values alone -/
def resR (c : CR) (e : Env) : Out R := match c with
  | .rt fr d [] => .ok (if fr then .f d else .v d) e
  | .ex x => .ex x e
  | _ => .st
@[simp] theorem resR_rt {d : D} {e : Env} : resR (.rt false d []) e = .ok (.v d) e := rfl
@[simp] theorem resR_rf {d : D} {e : Env} : resR (.rt true d []) e = .ok (.f d) e := rfl
@[simp] theorem resR_ex {x : Ex} {e : Env} : resR (.ex x) e = .ex x e := rfl
def plainRs : List Bool → List R → Option (List D)
  | [], [] => some []
  | false :: bs, .v d :: rs => (plainRs bs rs).map (d :: ·)
  | false :: bs, .f d :: rs => (plainRs bs rs).map (d :: ·)
  | _, _ => none
@[simp] theorem plainRs_0 : plainRs [] [] = some [] := rfl
@[simp] theorem plainRs_v {bs : List Bool} {d : D} {rs : List R} : plainRs (false :: bs) (.v d :: rs) = (plainRs bs rs).map (d :: ·) := rfl
@[simp] theorem plainRs_f {bs : List Bool} {d : D} {rs : List R} : plainRs (false :: bs) (.f d :: rs) = (plainRs bs rs).map (d :: ·) := rfl
@[simp] theorem plainRs_s {b : Bool} {bs : List Bool} {i : Nat} {rs : List R} : plainRs (b :: bs) (.s i :: rs) = none := by cases b <;> rfl
@[simp] theorem plainRs_t {bs : List Bool} {r : R} {rs : List R} : plainRs (true :: bs) (r :: rs) = none := by cases r <;> rfl
def callS := @callR
theorem plainRs_args {e : Env} : ∀ {io : List Bool} {rs : List R} {ds : List D}, plainRs io rs = some ds → args e io rs = some (ds.map Ar.val)
  | [], [], ds, h => by cases h; rfl
  | false :: bs, .v d :: rs, ds, h => by
    obtain ⟨l, h1, rfl⟩ := Option.map_eq_some_iff.mp (show (plainRs bs rs).map (d :: ·) = some ds from h)
    rw [args_v, plainRs_args h1]
    rfl
  | false :: bs, .f d :: rs, ds, h => by
    obtain ⟨l, h1, rfl⟩ := Option.map_eq_some_iff.mp (show (plainRs bs rs).map (d :: ·) = some ds from h)
    rw [args_f, plainRs_args h1]
    rfl
  | [], _ :: _, _, h => by cases h
  | true :: _, [], _, h => by cases h
  | false :: _, [], _, h => by cases h
  | b :: bs, .s i :: rs, ds, h => by rw [plainRs_s] at h; cases h
  | true :: bs, .v d :: rs, ds, h => by rw [plainRs_t] at h; cases h
  | true :: bs, .f d :: rs, ds, h => by rw [plainRs_t] at h; cases h
@[simp] theorem callR_eq {C : Calls} {f : Nat} {io : List Bool} {rs : List R} {e : Env} : callR C f io rs e = match plainRs io rs with
    | some ds => resR (C f ds) e
    | none => callS C f io rs e := by
  cases h : plainRs io rs with
  | none => rfl
  | some ds =>
    have nt : ∀ ds : List D, anyTmp (ds.map Ar.val) = false := fun ds => by
      induction ds with
      | nil => rfl
      | cons d ds ih => exact ih
    have nc : ∀ ds : List D, chgs (ds.map Ar.val) = [] := fun ds => by
      induction ds with
      | nil => rfl
      | cons d ds ih => exact ih
    have nb : ∀ ds : List D, bors (ds.map Ar.val) = [] := fun ds => by
      induction ds with
      | nil => rfl
      | cons d ds ih => exact ih
    have md : (ds.map Ar.val).map Ar.d = ds := by
      rw [List.map_map]
      show ds.map id = ds
      rw [List.map_id]
    have pb : ∀ (ds os : List D), putBack e (ds.map Ar.val) os = match os with
        | [] => some e
        | _ => none := fun ds os => by
      induction ds with
      | nil => cases os <;> rfl
      | cons d ds ih => exact ih
    have lo : ∀ ds : List D, loose e (ds.map Ar.val) = e := fun ds => by
      induction ds with
      | nil => rfl
      | cons d ds ih => exact ih
    have ap : apartB (ds.map Ar.val) = true := by unfold apartB; rw [nc, nb]; rfl
    have ob : ∀ fr d os, okBack (ds.map Ar.val) fr d os = true := fun fr d os => by unfold okBack; rw [nb]; rfl
    unfold callR
    rw [plainRs_args h]
    simp only [nt, ap, md, Bool.false_eq_true, if_false, if_true]
    cases hc : C f ds with
    | st => rfl
    | ex x => simp only [lo]; rfl
    | rt fr d os =>
      simp only [ob, pb, if_true]
      cases os <;> rfl
/-! comparisons of whole numbers -/
@[simp] theorem cmp_lt {i j : Int} : cmpD .lt (.int i) (.int j) = some (decide (i < j)) := rfl
@[simp] theorem cmp_le {i j : Int} : cmpD .le (.int i) (.int j) = some (decide (i ≤ j)) := rfl
@[simp] theorem cmp_gt {i j : Int} : cmpD .gt (.int i) (.int j) = some (decide (j < i)) := rfl
@[simp] theorem cmp_ge {i j : Int} : cmpD .ge (.int i) (.int j) = some (decide (j ≤ i)) := rfl
@[simp] theorem cmp_eq {a b : D} : cmpD .eq a b = eqD a b := rfl
@[simp] theorem cmp_ne {a b : D} : cmpD .ne a b = (eqD a b).map (!·) := rfl
@[simp] theorem cmp_in {a b : D} : cmpD .isin a b = inD a b := rfl
@[simp] theorem cmp_nin {a b : D} : cmpD .notin a b = (inD a b).map (!·) := rfl
@[simp] theorem eq_int {i j : Int} : eqD (.int i) (.int j) = some (i == j) := rfl
@[simp] theorem isn_int {i : Int} : cmpD .isn (.int i) .non = some false := rfl
@[simp] theorem isn_non : cmpD .isn .non .non = some true := rfl
@[simp] theorem notn_int {i : Int} : cmpD .notn (.int i) .non = some true := rfl
@[simp] theorem notn_non : cmpD .notn .non .non = some false := rfl
@[simp] theorem bin_addI {i j : Int} : binD .add (.int i) (.int j) = some (.v (.int (i + j))) := rfl
@[simp] theorem bin_subI {i j : Int} : binD .sub (.int i) (.int j) = some (.v (.int (i - j))) := rfl
@[simp] theorem isTy_int {i : Int} {ts : List Ty} : isTy (.int i) ts = some (ts.any fun t => t == .int) := by
  show some (ts.any fun t => some Ty.int == some t || (t == .int && some Ty.int == some .bool)) = _
  congr 1
  congr 1
  funext t
  cases t <;> rfl
@[simp] theorem isTy_tup {l : List D} {ts : List Ty} : isTy (.tup l) ts = some (ts.any fun t => t == .tuple) := by
  show some (ts.any fun t => some Ty.tuple == some t || (t == .int && some Ty.tuple == some .bool)) = _
  congr 1
  congr 1
  funext t
  cases t <;> rfl
@[simp] theorem isTy_lst {l : List D} {ts : List Ty} : isTy (.lst l) ts = some (ts.any fun t => t == .list) := by
  show some (ts.any fun t => some Ty.list == some t || (t == .int && some Ty.list == some .bool)) = _
  congr 1
  congr 1
  funext t
  cases t <;> rfl
@[simp] theorem isTy_bl {b : Bool} {ts : List Ty} : isTy (.bl b) ts = some (ts.any fun t => t == .bool || t == .int) := by
  show some (ts.any fun t => some Ty.bool == some t || (t == .int && some Ty.bool == some .bool)) = _
  congr 1
  congr 1
  funext t
  cases t <;> rfl
@[simp] theorem isTy_non {ts : List Ty} : isTy .non ts = some false := by
  show some (ts.any fun t => (none : Option Ty) == some t || (t == .int && (none : Option Ty) == some .bool)) = _
  congr 1
  induction ts with
  | nil => rfl
  | cons t ts ih => rw [List.any_cons, ih]; cases t <;> rfl
@[simp] theorem blt_lenT {l : List D} : bltD .len [.tup l] = some (.v (.int l.length)) := rfl
@[simp] theorem blt_lenL {l : List D} : bltD .len [.lst l] = some (.v (.int l.length)) := rfl
@[simp] theorem blt_tupL {l : List D} : bltD .tuple [.lst l] = some (.v (.tup l)) := rfl
@[simp] theorem blt_tupT {l : List D} : bltD .tuple [.tup l] = some (.v (.tup l)) := rfl
@[simp] theorem blt_lstT {l : List D} : bltD .list [.tup l] = some (.f (.lst l)) := rfl
@[simp] theorem blt_lstL {l : List D} : bltD .list [.lst l] = some (.f (.lst l)) := rfl
@[simp] theorem blt_intI {i : Int} : bltD .int [.int i] = some (.v (.int i)) := rfl
@[simp] theorem blt_intB {b : Bool} : bltD .int [.bl b] = some (.v (.int (if b then 1 else 0))) := rfl
@[simp] theorem items_T {l : List D} : items (.tup l) = some l := rfl
@[simp] theorem items_L {l : List D} : items (.lst l) = some l := rfl
@[simp] theorem it_pl {d : D} : itD .pl [d] = items d := rfl
@[simp] theorem it_en {d : D} : itD .en [d] = (items d).map (pairs 0) := rfl
@[simp] theorem asg_nm {i : Nat} {d : D} {e : Env} : asg (.nm i) d e = some (e.set i (.pu d)) := by unfold asg; rfl
theorem bools_map {α : Type} {f : α → Bool} : ∀ {l : List α}, bools (l.map fun a => D.bl (f a)) = some (l.map f)
  | [] => rfl
  | a :: l => by
    show (bools (l.map fun a => D.bl (f a))).map (f a :: ·) = _
    rw [bools_map]
    rfl
theorem blt_all_map {α : Type} {f : α → Bool} {l : List α} : bltD .all [.lst (l.map fun a => D.bl (f a))] = some (.v (.bl (l.all f))) := by
  show (bools _).map _ = _
  rw [bools_map]
  simp [List.all_map, Function.comp_def]
theorem blt_any_map {α : Type} {f : α → Bool} {l : List α} : bltD .any [.lst (l.map fun a => D.bl (f a))] = some (.v (.bl (l.any f))) := by
  show (bools _).map _ = _
  rw [bools_map]
  simp [List.any_map, Function.comp_def]
theorem noEx_ok {α : Type} {a : α} {e : Env} : noEx (.ok a e) = .ok a e := rfl
end Lt.Hx
end
section
set_option maxRecDepth 100000
set_option maxHeartbeats 1000000
namespace Lt.Hx
open PySem
@[simp] theorem start_0 : start0 [] [] = some [] := rfl
@[simp] theorem start_f {bs : List Bool} {d : D} {ds : List D} : start0 (false :: bs) (d :: ds) = (start0 bs ds).map (Sl.pu d :: ·) := rfl
@[simp] theorem start_t {bs : List Bool} {d : D} {ds : List D} : start0 (true :: bs) (d :: ds) = (start0 bs ds).map (Sl.mu false false d :: ·) := rfl
@[simp] theorem outs_0 {e : Env} : outsOf [] e = some [] := by cases e <;> rfl
@[simp] theorem outs_f {bs : List Bool} {x : Sl} {e : Env} : outsOf (false :: bs) (x :: e) = outsOf bs e := rfl
@[simp] theorem outs_t {bs : List Bool} {d : D} {e : Env} : outsOf (true :: bs) (.mu false false d :: e) = (outsOf bs e).map (d :: ·) := rfl
theorem runDf_at {C : Calls} {n : Nat} {io : List Bool} {sl : Nat} {b : S} {ds : List D} {e : Env} (h : start0 io ds = some e) : runDf C ⟨n, io, sl, b⟩ ds = backs io (es C b (e ++ List.replicate (sl - n) .no)) := by
  show (match start0 io ds with | some e => _ | none => _) = _
  rw [h]
@[simp] theorem backs_rt {io : List Bool} {f : Bool} {d : D} {e : Env} : backs io (.rt f d e) = match outsOf io e with
    | some ds => .rt f d ds
    | none => .st := rfl
@[simp] theorem backs_nx {io : List Bool} {e : Env} : backs io (.nx e) = match outsOf io e with
    | some ds => .rt false .non ds
    | none => .st := rfl
@[simp] theorem backs_ex {io : List Bool} {x : Ex} {e : Env} : backs io (.ex x e) = .ex x := rfl
section
variable {tab : List Df} {x : Ix}
theorem is_number_r (T : Has tab x) {n : Nat} (h : 1 ≤ n) {i : Int} : run tab n x.is_number [.int i] = .rt false (.bl true) [] := by
  obtain ⟨m, rfl⟩ : ∃ m, n = m + 1 := ⟨n - 1, by omega⟩
  rw [run_at T.is_number]
  simp [D_is_number, runDf, ev_var, isTy, tyD]
theorem is_from_r (T : Has tab x) {n : Nat} (h : 2 ≤ n) {i j : Int} : run tab n x.is_from [.int i, .int j] = .rt false (.bl (decide (j ≤ i))) [] := by
  obtain ⟨m, rfl⟩ : ∃ m, n = m + 1 := ⟨n - 1, by omega⟩
  rw [run_at T.is_from]
  simp (disch := omega) [D_is_from, runDf, ev_var, is_number_r T]
end
end Lt.Hx
end
section
set_option maxRecDepth 100000
set_option maxHeartbeats 1000000
namespace Lt.Hx
open PySem
/-! ### rows of numbers -/
theorem plains_all : ∀ {l : List D}, (∀ d ∈ l, d.plain = true) → D.plains l = true
  | [], _ => rfl
  | d :: l, h => by
    show (D.plain d && D.plains l) = true
    rw [h d (List.mem_cons_self ..), plains_all fun x hx => h x (List.mem_cons_of_mem _ hx)]
    rfl
theorem depths_le {k : Nat} : ∀ {l : List D}, (∀ d ∈ l, d.depth ≤ k) → D.depths l ≤ k
  | [], _ => Nat.zero_le _
  | d :: l, h => by
    show max (D.depth d) (D.depths l) ≤ k
    exact Nat.max_le.mpr ⟨h d (List.mem_cons_self ..), depths_le fun x hx => h x (List.mem_cons_of_mem _ hx)⟩
theorem oD_plain {o : Option Nat} : (oD o).plain = true := by cases o <;> rfl
theorem oD_depth {o : Option Nat} : (oD o).depth = 0 := by cases o <;> rfl
theorem dN_plain {l : List Nat} : (dN l).plain = true := plains_all fun d hd => by
  obtain ⟨k, _, rfl⟩ := List.mem_map.mp hd
  rfl
theorem dN_depth {l : List Nat} : (dN l).depth ≤ 1 := Nat.succ_le_succ (depths_le fun d hd => by
  obtain ⟨k, _, rfl⟩ := List.mem_map.mp hd
  exact Nat.le_refl _)
theorem eqv_nD {i j : Nat} : (nD i).eqv (nD j) = decide (i = j) := by
  show ((i : Int) == (j : Int)) = _
  by_cases h : i = j
  · simp [h]
  · have : ¬ ((i : Int) = (j : Int)) := by omega
    simp [h, this]
theorem eqv_oD {a b : Option Nat} : (oD a).eqv (oD b) = decide (a = b) := by
  cases a with
  | none => cases b <;> simp [oD, D.eqv]
  | some i => cases b with
    | none => simp [oD, D.eqv]
    | some j => show (nD i).eqv (nD j) = _; rw [eqv_nD]; simp
@[simp] theorem eq_oD {a b : Option Nat} : eqD (oD a) (oD b) = some (decide (a = b)) := by
  unfold eqD eqOk
  rw [oD_plain, oD_plain, oD_depth, eqv_oD]
  simp
@[simp] theorem eq_nD {i j : Nat} : eqD (nD i) (nD j) = some (decide (i = j)) := eq_oD (a := some i) (b := some j) ▸ by simp
@[simp] theorem isn_oD {a : Option Nat} : cmpD .isn (oD a) .non = some a.isNone := by cases a <;> rfl
@[simp] theorem notn_oD {a : Option Nat} : cmpD .notn (oD a) .non = some a.isSome := by cases a <;> rfl
theorem eq_nil {c : List D → D} (hc : c = .tup ∨ c = .lst) {l : List D} (hp : D.plains l = true) : eqD (c l) (c []) = some l.isEmpty := by
  unfold eqD eqOk
  rcases hc with rfl | rfl <;>
  · simp only [D.plain, hp, D.plains, D.depth, D.depths]
    cases l <;> simp [D.eqv, D.eqvs]
theorem eq_nilT {l : List D} (hp : D.plains l = true) : eqD (.tup l) (.tup []) = some l.isEmpty := eq_nil (Or.inl rfl) hp
theorem eq_nilL {l : List D} (hp : D.plains l = true) : eqD (.lst l) (.lst []) = some l.isEmpty := eq_nil (Or.inr rfl) hp
@[simp] theorem eq_dN_nil {l : List Nat} : eqD (dN l) (.tup []) = some l.isEmpty := by
  have h : D.plains (l.map nD) = true := dN_plain (l := l)
  show eqD (.tup _) _ = _
  rw [eq_nilT h]
  cases l <;> rfl
@[simp] theorem eq_lN_nil {l : List Nat} : eqD (lN l) (.lst []) = some l.isEmpty := by
  have h : D.plains (l.map nD) = true := dN_plain (l := l)
  show eqD (.lst _) _ = _
  rw [eq_nilL h]
  cases l <;> rfl
@[simp] theorem ints_nD : ∀ {l : List Nat}, intz (l.map nD) = some (l.map fun (k : Nat) => (k : Int))
  | [] => rfl
  | k :: l => by
    show (intz (l.map nD)).map ((k : Int) :: ·) = _
    rw [ints_nD]
    rfl
theorem distinct_nodup : ∀ {l : List Int}, l.Nodup → distinct l = l
  | [], _ => rfl
  | x :: l, h => by
    obtain ⟨h1, h2⟩ := List.nodup_cons.mp h
    show (if l.contains x then distinct l else x :: distinct l) = _
    rw [if_neg (by simpa using h1), distinct_nodup h2]
theorem nodup_cast {l : List Nat} (h : l.Nodup) : (l.map fun (k : Nat) => (k : Int)).Nodup := by
  rw [List.nodup_iff_pairwise_ne] at *
  exact List.pairwise_map.mpr (h.imp fun hne => by omega)
theorem lenset_dN {l : List Nat} (h : l.Nodup) (hl : l.length ≤ 1000) : bltD .lenset [dN l] = some (.v (.int l.length)) := by
  show ((intz (l.map nD)).bind fun is => if is.length ≤ 1000 then some (R.v (.int (distinct is).length)) else none) = _
  rw [ints_nD]
  simp [hl, distinct_nodup (nodup_cast h)]
@[simp] theorem len_dN {l : List Nat} : bltD .len [dN l] = some (.v (.int l.length)) := by simp [dN]
@[simp] theorem isTy_dN {l : List Nat} {ts : List Ty} : isTy (dN l) ts = some (ts.any fun t => t == .tuple) := isTy_tup
@[simp] theorem items_dN {l : List Nat} : items (dN l) = some (l.map nD) := rfl
@[simp] theorem wiped_0 {e : Env} : wiped e [] = e := rfl
@[simp] theorem wiped_s {e : Env} {i : Nat} {is : List Nat} : wiped e (i :: is) = (wiped e is).set i .no := rfl
@[simp] theorem restore_0 {e0 e : Env} : restore e0 e [] = e := rfl
@[simp] theorem restore_s {e0 e : Env} {i : Nat} {is : List Nat} : restore e0 e (i :: is) = restore e0 (e.set i (slot (wiped e0 is) i)) is := rfl
/-- a comprehension over a row, its turns plain -/
theorem comp_row {α : Type} {turn : D → Env → Out (Option D)} {e : Env} {enc : α → D} {l : List α} {g : α → D} (h : ∀ a ∈ l, turn (enc a) e = .ok (some (g a)) e) : compGo turn (l.map enc) [] e = .ok (l.map g) e := by
  rw [compGo_map (g := fun a => some (g a)) h]
  simp
theorem comp_filt {α : Type} {turn : D → Env → Out (Option D)} {e : Env} {enc : α → D} {l : List α} {p : α → Bool} {g : α → D} (h : ∀ a ∈ l, turn (enc a) e = .ok (if p a then some (g a) else none) e) : compGo turn (l.map enc) [] e = .ok ((l.filter p).map g) e := by
  rw [compGo_map (g := fun a => if p a then some (g a) else none) h]
  congr 1
  simp only [List.reverse_nil, List.nil_append]
  clear h
  induction l with
  | nil => rfl
  | cons a l ih => by_cases hp : p a <;> simp [hp, ih]
@[simp] theorem noEx_ok' {α : Type} {a : α} {e : Env} : noEx (.ok a e) = .ok a e := rfl
section
variable {tab : List Df} {x : Ix}
theorem is_within_r (T : Has tab x) {n : Nat} (h : 2 ≤ n) {i j k : Int} : run tab n x.is_within [.int i, .int j, .int k] = .rt false (.bl (decide (j ≤ i) && decide (i ≤ k))) [] := by
  obtain ⟨m, rfl⟩ : ∃ m, n = m + 1 := ⟨n - 1, by omega⟩
  rw [run_at T.is_within]
  by_cases h1 : j ≤ i <;> simp (disch := omega) [D_is_within, runDf, ev_var, is_number_r T, h1]
theorem is_long_r (T : Has tab x) {n : Nat} (h : 1 ≤ n) {l : List D} {k : Int} : run tab n x.is_long [.tup l, .int k] = .rt false (.bl ((l.length : Int) == k)) [] := by
  obtain ⟨m, rfl⟩ : ∃ m, n = m + 1 := ⟨n - 1, by omega⟩
  rw [run_at T.is_long]
  simp (disch := omega) [D_is_long, runDf, ev_var]
theorem are_numbers_r (T : Has tab x) {n : Nat} (h : 2 ≤ n) {l : List Nat} : run tab n x.are_numbers [dN l] = .rt false (.bl true) [] := by
  obtain ⟨m, rfl⟩ : ∃ m, n = m + 1 := ⟨n - 1, by omega⟩
  rw [run_at T.are_numbers]
  simp (disch := omega) [D_are_numbers, runDf, ev_var]
  rw [comp_row (g := fun _ => .bl true)]
  · simp [blt_all_map (f := fun (_ : Nat) => true)]
  · intro a _
    simp (disch := omega) [turnC, ev_var, is_number_r T]
end
end Lt.Hx
end
section
set_option maxRecDepth 100000
set_option maxHeartbeats 1000000
namespace Lt.Hx
open PySem
/-! ### halls -/
def hL (S : List Nat) (L : List (List Nat)) : D := .tup [dN S, .tup (L.map dN)]
def OkList (K : Nat) (W : List Nat) : Prop := W ≠ [] ∧ W.Nodup ∧ ∀ p ∈ W, p < K
structure OkHall (S : List Nat) (L : List (List Nat)) : Prop where
  ne : S ≠ []
  pos : ∀ p ∈ S, 1 ≤ p
  small : S.length ≤ 1000
  few : L.length ≤ 1000
  lists : ∀ W ∈ L, OkList S.length W
theorem nodup_len {K : Nat} {W : List Nat} (h : W.Nodup) (hk : ∀ p ∈ W, p < K) : W.length ≤ K := by
  induction K generalizing W with
  | zero =>
    cases W with
    | nil => exact Nat.le_refl _
    | cons a _ => exact absurd (hk a (List.mem_cons_self ..)) (by omega)
  | succ K ih =>
    have h2 : (W.erase K).length ≤ K := ih (h.erase K) fun p hp => by
      have h3 := hk p (List.mem_of_mem_erase hp)
      have h4 : p ≠ K := fun e => by
        subst e
        exact (h.not_mem_erase) hp
      omega
    have h5 := List.length_erase (a := K) (l := W)
    split at h5 <;> omega
/-! what tuples all lists -/
mutual
def tupD : D → D
  | .lst l => .tup (tupDs l)
  | .tup l => .tup (tupDs l)
  | .non => .non
  | .bl b => .bl b
  | .int i => .int i
  | .str s => .str s
  | .dic l => .dic l
  | .fn f => .fn f
  | .exc c l => .exc c l
def tupDs : List D → List D
  | [] => []
  | d :: l => tupD d :: tupDs l
end
mutual
def lisD : D → D
  | .lst l => .lst (lisDs l)
  | .tup l => .lst (lisDs l)
  | .non => .non
  | .bl b => .bl b
  | .int i => .int i
  | .str s => .str s
  | .dic l => .dic l
  | .fn f => .fn f
  | .exc c l => .exc c l
def lisDs : List D → List D
  | [] => []
  | d :: l => lisD d :: lisDs l
end
theorem tupDs_map : ∀ {l : List D}, tupDs l = l.map tupD
  | [] => rfl
  | d :: l => by show tupD d :: tupDs l = _; rw [tupDs_map]; rfl
theorem lisDs_map : ∀ {l : List D}, lisDs l = l.map lisD
  | [] => rfl
  | d :: l => by show lisD d :: lisDs l = _; rw [lisDs_map]; rfl
theorem plains_mem : ∀ {l : List D}, D.plains l = true → ∀ d ∈ l, d.plain = true
  | d :: l, h, x, hx => by
    have h' : (D.plain d && D.plains l) = true := h
    simp at h'
    rcases List.mem_cons.mp hx with rfl | hx
    · exact h'.1
    · exact plains_mem h'.2 x hx
theorem depths_mem : ∀ {l : List D}, ∀ d ∈ l, d.depth ≤ D.depths l
  | d :: l, x, hx => by
    show _ ≤ max (D.depth d) (D.depths l)
    rcases List.mem_cons.mp hx with rfl | hx
    · exact Nat.le_max_left ..
    · exact Nat.le_trans (depths_mem x hx) (Nat.le_max_right ..)
/-- is it new? -/
def newD : D → Bool
  | .tup _ => true
  | .lst _ => true
  | _ => false
theorem comp_rowD {turn : D → Env → Out (Option D)} {e : Env} {l : List D} {g : D → D} (h : ∀ a ∈ l, turn a e = .ok (some (g a)) e) : compGo turn l [] e = .ok (l.map g) e := by
  have := comp_row (enc := id) (g := g) (l := l) h
  simpa using this
theorem eq_self {d : D} (hp : d.plain = true) (hd : d.depth ≤ 60) (he : d.eqv d = true) : eqD d d = some true := by
  unfold eqD eqOk
  simp [hp, hd, he]
theorem zip_self : ∀ {l : List D}, zipD l l = l.map fun d => D.tup [d, d]
  | [] => rfl
  | d :: l => by show _ :: zipD l l = _; rw [zip_self]; rfl
@[simp] theorem isTy_str {s : Str} {ts : List Ty} : isTy (.str s) ts = some (ts.any fun t => t == .str) := by
  show some (ts.any fun t => some Ty.str == some t || (t == .int && some Ty.str == some .bool)) = _
  congr 1
  congr 1
  funext t
  cases t <;> rfl
@[simp] theorem isn_bl {b : Bool} : cmpD .isn (.bl b) .non = some false := rfl
@[simp] theorem isn_str {b : Str} : cmpD .isn (.str b) .non = some false := rfl
@[simp] theorem ty_beq {a b : Ty} : (a == b) = decide (a = b) := by cases a <;> cases b <;> rfl
section
variable {tab : List Df} {x : Ix}
theorem tupled_r (T : Has tab x) : ∀ {n : Nat} {d : D}, d.plain = true → d.depth < n → run tab n x.tupled [d] = .rt false (tupD d) []
  | 0, _, _, h => by omega
  | n + 1, d, hp, hd => by
    rw [run_at T.tupled]
    have go : ∀ l : List D, D.plains l = true → D.depths l < n → ∀ e : Env, compGo (turnC (run tab n) (.call x.tupled [false] (.cons (.var 1) .nil)) (.nm 1) [1] (.cst (.bl true))) l [] [e.headD .no, .no] = .ok (l.map tupD) [e.headD .no, .no] := fun l hp hd e => by
      refine comp_rowD fun a ha => ?_
      have := tupled_r T (plains_mem hp a ha) (Nat.lt_of_le_of_lt (depths_mem a ha) hd)
      simp [turnC, ev_var, this]
    cases d with
    | tup l =>
      have := go l hp (Nat.lt_of_succ_lt_succ hd) [.pu (.tup l)]
      simp at this
      simp [D_tupled, runDf, ev_var, this, tupD, tupDs_map]
    | lst l =>
      have := go l hp (Nat.lt_of_succ_lt_succ hd) [.pu (.lst l)]
      simp at this
      simp [D_tupled, runDf, ev_var, this, tupD, tupDs_map]
    | non => simp [D_tupled, runDf, ev_var, tupD]
    | bl b => simp [D_tupled, runDf, ev_var, tupD]
    | int i => simp [D_tupled, runDf, ev_var, tupD]
    | str s => simp [D_tupled, runDf, ev_var, tupD]
    | dic l => cases hp
    | fn f => cases hp
    | exc c l => cases hp
theorem lists_r (T : Has tab x) : ∀ {n : Nat} {d : D}, d.plain = true → d.depth < n → run tab n x._law_lists [d] = .rt (newD d) (lisD d) []
  | 0, _, _, h => by omega
  | n + 1, d, hp, hd => by
    rw [run_at T._law_lists]
    have go : ∀ l : List D, D.plains l = true → D.depths l < n → ∀ e : Env, compGo (turnC (run tab n) (.call x._law_lists [false] (.cons (.var 1) .nil)) (.nm 1) [1] (.cst (.bl true))) l [] [e.headD .no, .no] = .ok (l.map lisD) [e.headD .no, .no] := fun l hp hd e => by
      refine comp_rowD fun a ha => ?_
      have := lists_r T (plains_mem hp a ha) (Nat.lt_of_le_of_lt (depths_mem a ha) hd)
      cases hn : newD a <;> simp [turnC, ev_var, this, hn]
    cases d with
    | tup l =>
      have := go l hp (Nat.lt_of_succ_lt_succ hd) [.pu (.tup l)]
      simp at this
      simp [D__law_lists, runDf, ev_var, this, lisD, lisDs_map, newD]
    | lst l =>
      have := go l hp (Nat.lt_of_succ_lt_succ hd) [.pu (.lst l)]
      simp at this
      simp [D__law_lists, runDf, ev_var, this, lisD, lisDs_map, newD]
    | non => simp [D__law_lists, runDf, ev_var, lisD, newD]
    | bl b => simp [D__law_lists, runDf, ev_var, lisD, newD]
    | int i => simp [D__law_lists, runDf, ev_var, lisD, newD]
    | str s => simp [D__law_lists, runDf, ev_var, lisD, newD]
    | dic l => cases hp
    | fn f => cases hp
    | exc c l => cases hp
theorem same_r (T : Has tab x) : ∀ {n : Nat} {d : D}, d.plain = true → d.depth < n → run tab n x._law_same [d, d] = .rt false (.bl true) []
  | 0, _, _, h => by omega
  | n + 1, d, hp, hd => by
    rw [run_at T._law_same]
    have go : ∀ l : List D, D.plains l = true → D.depths l < n → ∀ e : Sl, compGo (turnC (run tab n) (.call x._law_same [false, false] (.cons (.var 2) (.cons (.var 3) .nil))) (.tp (.cons (.nm 2) (.cons (.nm 3) .nil))) [2, 3] (.cst (.bl true))) (l.map fun d => D.tup [d, d]) [] [e, e, .no, .no] = .ok (l.map fun _ => .bl true) [e, e, .no, .no] := fun l hp hd e => by
      refine comp_row (g := fun _ => .bl true) fun a ha => ?_
      have := same_r T (plains_mem hp a ha) (Nat.lt_of_le_of_lt (depths_mem a ha) hd)
      simp [turnC, asg, asgs, ev_var, this]
    cases d with
    | tup l =>
      have := go l hp (Nat.lt_of_succ_lt_succ hd) (.pu (.tup l))
      simp [D__law_same, runDf, ev_var, itD, zip_self, this, blt_all_map (f := fun (_ : D) => true), eqD, eqOk, D.plain, D.eqv, D.depth]
    | lst l =>
      have := go l hp (Nat.lt_of_succ_lt_succ hd) (.pu (.lst l))
      simp [D__law_same, runDf, ev_var, itD, zip_self, this, blt_all_map (f := fun (_ : D) => true), eqD, eqOk, D.plain, D.eqv, D.depth]
    | non => simp [D__law_same, runDf, ev_var]
    | bl b => simp [D__law_same, runDf, ev_var, eqD, eqOk, D.plain, D.eqv, D.depth]
    | int i => simp [D__law_same, runDf, ev_var]
    | str s => simp [D__law_same, runDf, ev_var, eqD, eqOk, D.plain, D.eqv, D.depth]
    | dic l => cases hp
    | fn f => cases hp
    | exc c l => cases hp
end
end Lt.Hx
end
section
set_option maxRecDepth 100000
set_option maxHeartbeats 1000000
namespace Lt.Hx
open PySem
theorem items_plain {l : List Nat} : D.plains (l.map nD) = true := dN_plain (l := l)
@[simp] theorem truth_dN {l : List Nat} : truth (dN l) = some (!l.isEmpty) := by
  show some (!(l.map nD).isEmpty) = _
  cases l <;> rfl
@[simp] theorem all_true {α : Type} {l : List α} : (l.all fun _ => true) = true := by induction l with
  | nil => rfl
  | cons a l ih => rw [List.all_cons, ih]; rfl
@[simp] theorem cmp_isn_dN {l : List Nat} : cmpD .isn (dN l) .non = some false := rfl
section
variable {tab : List Df} {x : Ix}
theorem is_list_of_r (T : Has tab x) {n : Nat} (h : 3 ≤ n) {K : Nat} {W : List Nat} (hW : OkList K W) (hK : K ≤ 1000) : run tab n x.is_list_of [.int K, dN W] = .rt false (.bl true) [] := by
  obtain ⟨m, rfl⟩ : ∃ m, n = m + 1 := ⟨n - 1, by omega⟩
  obtain ⟨h1, h2, h3⟩ := hW
  have h4 := nodup_len h2 h3
  have h5 : W.isEmpty = false := by cases W with
    | nil => exact absurd rfl h1
    | cons _ _ => rfl
  rw [run_at T.is_list_of]
  have h6 : ∀ e : Env, e.length = 3 → (compGo (turnC (run tab m) (.call x.is_within [false, false, false] (.cons (.var 2) (.cons (.cst (.int 0)) (.cons (.bin .sub (.var 0) (.cst (.int 1))) .nil)))) (.nm 2) [2] (.cst (.bl true))) (W.map nD) [] [.pu (.int K), .pu (dN W), .no]) = .ok (W.map fun _ => .bl true) [.pu (.int K), .pu (dN W), .no] := fun _ _ => by
    refine comp_row (g := fun _ => .bl true) fun a ha => ?_
    have h7 : (a : Int) ≤ (K : Int) - 1 := by have := h3 a ha; omega
    simp (disch := omega) [turnC, ev_var, is_within_r T, h7]
  have h6 := h6 [.no, .no, .no] rfl
  simp [D_is_list_of, runDf, ev_var, h6, h5, blt_all_map (f := fun (_ : Nat) => true), lenset_dN h2 (Nat.le_trans h4 hK)]
theorem are_seats_r (T : Has tab x) {n : Nat} (h : 3 ≤ n) {S : List Nat} (h1 : S ≠ []) (h2 : ∀ p ∈ S, 1 ≤ p) : run tab n x.are_seats [dN S] = .rt false (.bl true) [] := by
  obtain ⟨m, rfl⟩ : ∃ m, n = m + 1 := ⟨n - 1, by omega⟩
  have h5 : S.isEmpty = false := by cases S with
    | nil => exact absurd rfl h1
    | cons _ _ => rfl
  rw [run_at T.are_seats]
  have h6 : (compGo (turnC (run tab m) (.call x.is_from [false, false] (.cons (.var 1) (.cons (.cst (.int 1)) .nil))) (.nm 1) [1] (.cst (.bl true))) (S.map nD) [] [.pu (dN S), .no]) = .ok (S.map fun _ => .bl true) [.pu (dN S), .no] := by
    refine comp_row (g := fun _ => .bl true) fun a ha => ?_
    have h7 : (1 : Int) ≤ (a : Int) := by have := h2 a ha; omega
    simp (disch := omega) [turnC, ev_var, is_from_r T, h7]
  simp [D_are_seats, runDf, ev_var, h6, h5, blt_all_map (f := fun (_ : Nat) => true)]
theorem is_hall_in_r (T : Has tab x) {n : Nat} (h : 4 ≤ n) {S : List Nat} {L : List (List Nat)} (hh : OkHall S L) : run tab n x.is_hall_in [hL S L] = .rt false (.bl true) [] := by
  obtain ⟨m, rfl⟩ : ∃ m, n = m + 1 := ⟨n - 1, by omega⟩
  rw [run_at T.is_hall_in]
  have h6 : (compGo (turnC (run tab m) (.call x.is_list_of [false, false] (.cons (.blt .len (.cons (.ix (.var 0) (.cst (.int 0))) .nil)) (.cons (.var 1) .nil))) (.nm 1) [1] (.cst (.bl true))) (L.map dN) [] [.pu (hL S L), .no]) = .ok (L.map fun _ => .bl true) [.pu (hL S L), .no] := by
    refine comp_row (g := fun _ => .bl true) fun W hW => ?_
    simp [turnC, ev_var, hL, is_list_of_r T (show 3 ≤ m by omega) (hh.lists W hW) hh.small]
  simp [hL] at h6
  simp [D_is_hall_in, runDf, ev_var, hL, is_long_r T (show 1 ≤ m by omega), are_seats_r T (show 3 ≤ m by omega) hh.ne hh.pos, h6, blt_all_map (f := fun (_ : List Nat) => true)]
theorem tup_dN {l : List Nat} : tupD (dN l) = dN l := by
  show D.tup (tupDs (l.map nD)) = _
  rw [tupDs_map, List.map_map]
  rfl
theorem tup_hL {S : List Nat} {L : List (List Nat)} : tupD (hL S L) = hL S L := by
  show D.tup [tupD (dN S), D.tup (tupDs (L.map dN))] = _
  rw [tup_dN, tupDs_map, List.map_map]
  have : tupD ∘ dN = dN := by funext l; exact tup_dN
  rw [this]
  rfl
theorem tup_lis : ∀ {n : Nat} {d : D}, d.plain = true → d.depth < n → tupD (lisD d) = tupD d
  | 0, _, _, h => by omega
  | n + 1, d, hp, hd => by
    have go : ∀ l : List D, D.plains l = true → D.depths l < n → tupDs (lisDs l) = tupDs l := fun l hp hd => by
      rw [lisDs_map, tupDs_map, tupDs_map, List.map_map]
      apply List.map_congr_left
      intro a ha
      exact tup_lis (plains_mem hp a ha) (Nat.lt_of_le_of_lt (depths_mem a ha) hd)
    cases d with
    | tup l => show D.tup (tupDs (lisDs l)) = D.tup (tupDs l); rw [go l hp (Nat.lt_of_succ_lt_succ hd)]
    | lst l => show D.tup (tupDs (lisDs l)) = D.tup (tupDs l); rw [go l hp (Nat.lt_of_succ_lt_succ hd)]
    | _ => rfl
theorem dNs_plain {L : List (List Nat)} : D.plains (L.map dN) = true := plains_all fun d hd => by
  obtain ⟨k, _, rfl⟩ := List.mem_map.mp hd
  exact dN_plain
theorem hL_plain {S : List Nat} {L : List (List Nat)} : (hL S L).plain = true := by
  show (D.plain (dN S) && (D.plains (L.map dN) && true)) = true
  rw [dN_plain, dNs_plain]
  rfl
theorem hL_depth {S : List Nat} {L : List (List Nat)} : (hL S L).depth ≤ 3 := Nat.succ_le_succ (depths_le fun d hd => by
  rcases List.mem_cons.mp hd with rfl | hd
  · exact Nat.le_trans dN_depth (by omega)
  · rcases List.mem_cons.mp hd with rfl | hd
    · exact Nat.succ_le_succ (depths_le fun d hd => by
        obtain ⟨k, _, rfl⟩ := List.mem_map.mp hd
        exact dN_depth)
    · cases hd)
/-- the hall, or its lists -/
theorem sure_hall_t (T : Has tab x) {n : Nat} (h : 5 ≤ n) {S : List Nat} {L : List (List Nat)} (hh : OkHall S L) {d : D} (hd : run tab (n - 1) x.tupled [d] = .rt false (hL S L) []) : run tab n x.sure_hall [d] = .rt false (hL S L) [] := by
  obtain ⟨m, rfl⟩ : ∃ m, n = m + 1 := ⟨n - 1, by omega⟩
  rw [run_at T.sure_hall]
  simp at hd
  simp [D_sure_hall, runDf, ev_var, hd, is_hall_in_r T (show 4 ≤ m by omega) hh, putR]
theorem sure_hall_r (T : Has tab x) {n : Nat} (h : 5 ≤ n) {S : List Nat} {L : List (List Nat)} (hh : OkHall S L) : run tab n x.sure_hall [hL S L] = .rt false (hL S L) [] :=
  sure_hall_t T h hh (by
    rw [tupled_r T hL_plain (Nat.lt_of_le_of_lt hL_depth (by omega)), tup_hL])
theorem lis_plain : ∀ {n : Nat} {d : D}, d.plain = true → d.depth < n → (lisD d).plain = true ∧ (lisD d).depth = d.depth
  | 0, _, _, h => by omega
  | n + 1, d, hp, hd => by
    have go : ∀ l : List D, D.plains l = true → D.depths l < n → D.plains (lisDs l) = true ∧ D.depths (lisDs l) = D.depths l := by
      intro l
      induction l with
      | nil => intro _ _; exact ⟨rfl, rfl⟩
      | cons a l ih =>
        intro hp hd
        have h1 : D.plains (a :: l) = (a.plain && D.plains l) := rfl
        rw [h1] at hp
        simp at hp
        have h2 : D.depths (a :: l) = max a.depth (D.depths l) := rfl
        rw [h2] at hd
        obtain ⟨i1, i2⟩ := ih hp.2 (by omega)
        obtain ⟨j1, j2⟩ := lis_plain (n := n) hp.1 (by omega)
        constructor
        · show ((lisD a).plain && D.plains (lisDs l)) = true
          rw [i1, j1]
          rfl
        · show max (lisD a).depth (D.depths (lisDs l)) = _
          rw [i2, j2]
          rfl
    cases d with
    | tup l =>
      obtain ⟨a, b⟩ := go l hp (Nat.lt_of_succ_lt_succ hd)
      exact ⟨a, congrArg (· + 1) b⟩
    | lst l =>
      obtain ⟨a, b⟩ := go l hp (Nat.lt_of_succ_lt_succ hd)
      exact ⟨a, congrArg (· + 1) b⟩
    | _ => exact ⟨hp, rfl⟩
/-- the hall told as lists -/
def softD (S : List Nat) (L : List (List Nat)) : D := lisD (hL S L)
theorem sure_hall_s (T : Has tab x) {n : Nat} (h : 5 ≤ n) {S : List Nat} {L : List (List Nat)} (hh : OkHall S L) : run tab n x.sure_hall [softD S L] = .rt false (hL S L) [] :=
  sure_hall_t T h hh (by
    obtain ⟨h1, h2⟩ := lis_plain (d := hL S L) (n := 4) hL_plain (Nat.lt_of_le_of_lt hL_depth (by omega))
    have h3 : (lisD (hL S L)).depth < n - 1 := by rw [h2]; exact Nat.lt_of_le_of_lt hL_depth (by omega)
    rw [softD, tupled_r T h1 h3, tup_lis (n := 4) hL_plain (Nat.lt_of_le_of_lt hL_depth (by omega)), tup_hL])
end
end Lt.Hx
end
section
set_option maxRecDepth 100000
set_option maxHeartbeats 1000000
namespace Lt.Hx
open PySem
/-! ### calls that change their first argument, calls that look at a list of a slot -/
theorem nt_val : ∀ {ds : List D}, anyTmp (ds.map Ar.val) = false
  | [] => rfl
  | _ :: ds => nt_val (ds := ds)
theorem nc_val : ∀ {ds : List D}, chgs (ds.map Ar.val) = []
  | [] => rfl
  | _ :: ds => nc_val (ds := ds)
theorem nb_val : ∀ {ds : List D}, bors (ds.map Ar.val) = []
  | [] => rfl
  | _ :: ds => nb_val (ds := ds)
theorem pb_val {e : Env} : ∀ {ds : List D}, putBack e (ds.map Ar.val) [] = some e
  | [] => rfl
  | _ :: ds => pb_val (ds := ds)
theorem md_val {ds : List D} : (ds.map Ar.val).map Ar.d = ds := by
  rw [List.map_map]
  show ds.map id = ds
  rw [List.map_id]
theorem callS_t {C : Calls} {f i : Nat} {e : Env} {o : Bool} {d1 d1' d : D} {bs : List Bool} {rs : List R} {ds : List D} {fr : Bool} (h : slot e i = .mu o false d1) (hr : plainRs bs rs = some ds) (hc : C f (d1 :: ds) = .rt fr d [d1']) : callS C f (true :: bs) (.s i :: rs) e = .ok (if fr then .f d else .v d) (e.set i (.mu o false d1')) := by
  show callR C f _ _ _ = _
  unfold callR
  rw [args_t h, plainRs_args hr]
  have nt : anyTmp (Ar.chg i d1 :: ds.map Ar.val) = false := nt_val (ds := ds)
  have ap : apartB (Ar.chg i d1 :: ds.map Ar.val) = true := by
    show (nodup (i :: chgs (ds.map Ar.val)) && (bors (ds.map Ar.val)).all _) = true
    rw [nc_val, nb_val]
    rfl
  have ob : okBack (Ar.chg i d1 :: ds.map Ar.val) fr d [d1'] = true := by
    show ((bors (ds.map Ar.val)).isEmpty || _) = true
    rw [nb_val]
    rfl
  have md : (Ar.chg i d1 :: ds.map Ar.val).map Ar.d = d1 :: ds := by
    show d1 :: (ds.map Ar.val).map Ar.d = _
    rw [md_val]
  have pb : putBack e (Ar.chg i d1 :: ds.map Ar.val) [d1'] = some (e.set i (.mu o false d1')) := by
    show (match slot e i with
      | .mu o false _ => putBack (e.set i (.mu o false d1')) (ds.map Ar.val) []
      | _ => none) = _
    rw [h]
    exact pb_val
  simp only [Option.map_some, nt, ap, md, hc, ob, pb, Bool.false_eq_true, if_false, if_true]
theorem callS_vs {C : Calls} {f i : Nat} {e : Env} {o l : Bool} {d1 d2 d : D} (h : slot e i = .mu o l d2) (hc : C f [d1, d2] = .rt false d []) (hd : d.fixed = true) : callS C f [false, false] [.v d1, .s i] e = .ok (.v d) e := by
  show callR C f _ _ _ = _
  unfold callR
  rw [args_v, args_s h, args_0]
  have ob : okBack [Ar.val d1, Ar.bor i d2] false d [] = true := by
    show (false || (d.fixed && true)) = true
    rw [hd]
    rfl
  have pb : putBack e [Ar.val d1, Ar.bor i d2] [] = some e := rfl
  have md : [Ar.val d1, Ar.bor i d2].map Ar.d = [d1, d2] := rfl
  simp only [Option.map_some, md, hc, ob, pb, if_true]
  rfl
/-! ### dealing in turn -/
/-- the first place of a list with a seat left -/
def fl (W : List Nat) (s : Nat → Nat) : Option Nat := W.find? fun p => decide (0 < s p)
def dec (s : Nat → Nat) : Option Nat → Nat → Nat
  | none => s
  | some p => fun q => if q = p then s q - 1 else s q
def upd (f : Nat → Option Nat) (g : Nat) (o : Option Nat) : Nat → Option Nat := fun q => if q = g then o else f q
def aft (w : Nat → List Nat) : List Nat → (Nat → Nat) → Nat → Nat
  | [], s => s
  | g :: r, s => aft w r (dec s (fl (w g) s))
def fnd (w : Nat → List Nat) : List Nat → (Nat → Nat) → (Nat → Option Nat) → Nat → Option Nat
  | [], _, f => f
  | g :: r, s, f => fnd w r (dec s (fl (w g) s)) (upd f g (fl (w g) s))
/-- rows of things told by place -/
def rowS (K : Nat) (s : Nat → Nat) : List D := (List.range K).map fun p => .int (s p)
def rowF (m : Nat) (f : Nat → Option Nat) : List D := (List.range m).map fun g => oD (f g)
@[simp] theorem rowS_len {K : Nat} {s : Nat → Nat} : (rowS K s).length = K := by simp [rowS]
@[simp] theorem rowF_len {m : Nat} {f : Nat → Option Nat} : (rowF m f).length = m := by simp [rowF]
theorem rowS_at {K : Nat} {s : Nat → Nat} {p : Nat} (h : p < K) : (rowS K s)[p]? = some (.int (s p)) := by simp [rowS, h]
theorem rowF_at {m : Nat} {f : Nat → Option Nat} {g : Nat} (h : g < m) : (rowF m f)[g]? = some (oD (f g)) := by simp [rowF, h]
theorem rowF_set {m : Nat} {f : Nat → Option Nat} {g : Nat} {o : Option Nat} : (rowF m f).set g (oD o) = rowF m (upd f g o) := by
  apply List.ext_getElem?
  intro i
  rw [List.getElem?_set]
  unfold rowF upd
  by_cases h : g = i
  · subst h
    by_cases hm : g < m <;> simp [hm]
  · have : i ≠ g := fun e => h e.symm
    simp only [h, if_false, List.getElem?_map]
    by_cases hm : i < m <;> simp [hm, this]
theorem rowS_set {K : Nat} {s : Nat → Nat} {p : Nat} (h : 0 < s p) : (rowS K s).set p (.int ((s p : Int) - 1)) = rowS K (dec s (some p)) := by
  apply List.ext_getElem?
  intro i
  rw [List.getElem?_set]
  unfold rowS dec
  by_cases hi : p = i
  · subst hi
    by_cases hm : p < K
    · have : ((s p : Int) - 1) = ((s p - 1 : Nat) : Int) := by omega
      simp [hm, this]
    · simp [hm]
  · have : i ≠ p := fun e => hi e.symm
    simp only [hi, if_false, List.getElem?_map]
    by_cases hm : i < K <;> simp [hm, this]
@[simp] theorem oD_some {p : Nat} : oD (some p) = .int (p : Int) := rfl
@[simp] theorem oD_none : oD none = .non := rfl
@[simp] theorem oD_fixed {o : Option Nat} : (oD o).fixed = true := by cases o <;> rfl
@[simp] theorem bin_mulL {k : Nat} {d : D} (h : k ≤ 1000) : binD .mul (.lst [d]) (.int (k : Int)) = some (.f (.lst (List.replicate k d))) := by
  show (if [d].length * (k : Int).toNat ≤ lim ∧ (k : Int) < 16777216 ∧ -16777216 < (k : Int) then some (R.f (.lst (rep [d] k))) else none) = _
  rw [if_pos ⟨by simp; exact lim_le h, by omega, by omega⟩]
  unfold rep
  congr 3
  simp
theorem rowF_none {m : Nat} : List.replicate m D.non = rowF m fun _ => none := by
  apply List.ext_getElem?
  intro i
  unfold rowF
  by_cases hm : i < m <;> simp [hm]
@[simp] theorem place_int {n k : Nat} (h : k < n) : place n (k : Int) = some k := place_nat h
theorem fl_lt {K : Nat} {W : List Nat} (h : ∀ p ∈ W, p < K) {s : Nat → Nat} {p : Nat} (hp : fl W s = some p) : p < K ∧ 0 < s p := by
  unfold fl at hp
  exact ⟨h p (List.mem_of_find?_eq_some hp), by simpa using List.find?_some hp⟩
section
variable {tab : List Df} {x : Ix}
theorem first_left_r (T : Has tab x) {n : Nat} (h : 1 ≤ n) {K : Nat} {W : List Nat} (hW : ∀ p ∈ W, p < K) {s : Nat → Nat} : run tab n x.first_left [dN W, .lst (rowS K s)] = .rt false (oD (fl W s)) [] := by
  obtain ⟨m, rfl⟩ : ∃ m, n = m + 1 := ⟨n - 1, by omega⟩
  rw [run_at T.first_left]
  have h6 : (compGo (turnC (run tab m) (.var 3) (.nm 3) [3] (.cmp .gt (.ix (.var 1) (.var 3)) (.cst (.int 0)))) (W.map nD) [] [.pu (dN W), .pu (.lst (rowS K s)), .no, .no]) = .ok ((W.filter fun p => decide (0 < s p)).map nD) [.pu (dN W), .pu (.lst (rowS K s)), .no, .no] := by
    refine comp_filt fun a ha => ?_
    have h7 := rowS_at (s := s) (hW a ha)
    by_cases h8 : 0 < s a
    · have h9 : (0 : Int) < (s a : Int) := by omega
      simp [turnC, ev_var, h7, h8]
    · simp [turnC, ev_var, h7, h8]
  have h1 : fl W s = (W.filter fun p => decide (0 < s p)).head? := by rw [List.head?_filter]; rfl
  have h2 := eq_lN_nil (l := W.filter fun p => decide (0 < s p))
  unfold lN at h2
  rw [h1]
  generalize W.filter (fun p => decide (0 < s p)) = G at *
  cases G with
  | nil => simp [D_first_left, runDf, ev_var, h6, putR, eqD, eqOk, D.plain, D.plains, D.depth, D.depths, D.eqv, D.eqvs]
  | cons a G =>
    simp at h2
    simp [D_first_left, runDf, ev_var, h6, putR, h2]
end
end Lt.Hx
end
section
set_option maxRecDepth 100000
set_option maxHeartbeats 1000000
namespace Lt.Hx
open PySem
@[simp] theorem isBox_l {e : Env} {i : Nat} {o l : Bool} {d : List D} (h : slot e i = .mu o l (.lst d)) : isBox e i = true := by
  unfold isBox
  rw [h]
theorem look_s {e : Env} {i : Nat} {o l : Bool} {d : D} (h : slot e i = .mu o l d) : look e (.s i) = some d := by
  show (match slot e i with
    | .mu _ _ d => some d
    | _ => none) = _
  rw [h]
@[simp] theorem look_s' {e : Env} {i : Nat} : look e (.s i) = match slot e i with
    | .mu _ _ d => some d
    | _ => none := rfl
@[simp] theorem keep_s' {e : Env} {i : Nat} : keep e (.s i) = match slot e i with
    | .mu true false d => some (d, e.set i (.pu d))
    | _ => none := rfl
theorem keep_s {e : Env} {i : Nat} {d : D} (h : slot e i = .mu true false d) : keep e (.s i) = some (d, e.set i (.pu d)) := by
  show (match slot e i with
    | .mu true false d => some (d, e.set i (.pu d))
    | _ => none) = _
  rw [h]
/-- the lists by guest -/
def wOf (L : List (List Nat)) (g : Nat) : List Nat := L.getD g []
/-- the seats by place -/
def sOf (S : List Nat) (p : Nat) : Nat := S.getD p 0
@[simp] theorem looks_s {e : Env} {i : Nat} {rs : List R} : looks e (.s i :: rs) = match look e (.s i), looks e rs with
    | some d, some ds => some (d :: ds)
    | _, _ => none := rfl
@[simp] theorem keeps_s {e : Env} {i : Nat} {rs : List R} : keeps e (.s i :: rs) = match keep e (.s i) with
    | some (d, e1) => (match keeps e1 rs with
      | some (ds, e2) => some (d :: ds, e2)
      | none => none)
    | none => none := rfl
@[simp] theorem lock_s {e : Env} {i : Nat} {rs : List R} : lockAll e (.s i :: rs) = match slot e i with
    | .mu o false d => ((lockAll (e.set i (.mu o true d)) rs).1, i :: (lockAll (e.set i (.mu o true d)) rs).2)
    | _ => lockAll e rs := rfl
@[simp] theorem at0 {α : Type} {a : α} {l : List α} : (a :: l)[0]? = some a := rfl
@[simp] theorem at1 {α : Type} {a b : α} {l : List α} : (a :: b :: l)[1]? = some b := rfl
@[simp] theorem at2 {α : Type} {a b c : α} {l : List α} : (a :: b :: c :: l)[2]? = some c := rfl
@[simp] theorem at3 {α : Type} {a b c d : α} {l : List α} : (a :: b :: c :: d :: l)[3]? = some d := rfl
theorem wOf_at {L : List (List Nat)} {g : Nat} (h : g < L.length) : L[g]? = some (wOf L g) := by
  simp [wOf, h]
theorem wOf_get {L : List (List Nat)} {g : Nat} (h : g < L.length) : L[g] = wOf L g := by simp [wOf, h]
theorem wOf_mem {L : List (List Nat)} {g : Nat} (h : g < L.length) : wOf L g ∈ L := by
  have := wOf_at h
  exact List.mem_of_getElem? this
theorem rowS_of {S : List Nat} : S.map nD = rowS S.length (sOf S) := by
  apply List.ext_getElem?
  intro i
  unfold rowS sOf
  by_cases hm : i < S.length <;> simp [hm]
section
variable {tab : List Df} {x : Ix}
theorem deal_turn (T : Has tab x) {n : Nat} (h : 1 ≤ n) {S : List Nat} {L : List (List Nat)} (hh : OkHall S L) {g : Nat} (hg : g < L.length) {r : D} {u : Sl} {s : Nat → Nat} {f : Nat → Option Nat} :
    turnF (run tab n) (.nm 2) (.cons (.six 4 (.var 2) (.call x.first_left [false, false] (.cons (.ix (.ix (.var 0) (.cst (.int 1))) (.var 2)) (.cons (.var 3) .nil))))
      (.cons (.ite (.cmp .notn (.ix (.var 4) (.var 2)) (.cst .non)) (.cons (.aix 3 (.ix (.var 4) (.var 2)) .sub (.cst (.int 1)))
      .nil) .nil)
      .nil)) (nD g) [.pu (hL S L), .pu r, u, .mu true false (.lst (rowS S.length s)), .mu true false (.lst (rowF L.length f))]
    = .nx [.pu (hL S L), .pu r, .pu (nD g), .mu true false (.lst (rowS S.length (dec s (fl (wOf L g) s)))), .mu true false (.lst (rowF L.length (upd f g (fl (wOf L g) s))))] := by
  have h1 := wOf_at hg
  have h1' := wOf_get hg
  have hlt := (hh.lists _ (wOf_mem hg)).2.2
  have hc := first_left_r T h hlt (s := s)
  have h2 := callS_vs (C := run tab n) (f := x.first_left) (e := [.pu (hL S L), .pu r, .pu (nD g), .mu true false (.lst (rowS S.length s)), .mu true false (.lst (rowF L.length f))]) (i := 3) rfl hc oD_fixed
  generalize ho : fl (wOf L g) s = o at *
  unfold hL at *
  cases o with
  | none =>
    have h3 : (rowF L.length f).set g .non = _ := rowF_set (o := none)
    have h4 := rowF_at (f := upd f g none) hg
    have h5 : upd f g none g = none := by simp [upd]
    rw [h5] at h4
    simp [-getElem?_pos] at h4 h2
    simp [-getElem?_pos, turnF, ev_var, h1, h1', h2, isBox, place_int, hg, h3, h4, dec]
  | some p =>
    obtain ⟨hp, hs⟩ := fl_lt hlt ho
    have h3 : (rowF L.length f).set g (.int p) = _ := rowF_set (o := some p)
    have h4 := rowF_at (f := upd f g (some p)) hg
    have h5 : upd f g (some p) g = some p := by simp [upd]
    rw [h5] at h4
    have h6 := rowS_at (s := s) hp
    have h7 := rowS_set (K := S.length) hs
    simp [-getElem?_pos] at h4 h2
    simp [-getElem?_pos, turnF, ev_var, h1, h1', h2, isBox, place_int, hg, h3, h4, intAt, hp, h6, augI, h7]
theorem deal_go (T : Has tab x) {n : Nat} (h : 1 ≤ n) {S : List Nat} {L : List (List Nat)} (hh : OkHall S L) {r : D} : ∀ {row : List Nat} (hg : ∀ g ∈ row, g < L.length) {u : Sl} {s : Nat → Nat} {f : Nat → Option Nat}, ∃ v,
    forGo (turnF (run tab n) (.nm 2) (.cons (.six 4 (.var 2) (.call x.first_left [false, false] (.cons (.ix (.ix (.var 0) (.cst (.int 1))) (.var 2)) (.cons (.var 3) .nil))))
      (.cons (.ite (.cmp .notn (.ix (.var 4) (.var 2)) (.cst .non)) (.cons (.aix 3 (.ix (.var 4) (.var 2)) .sub (.cst (.int 1)))
      .nil) .nil)
      .nil))) (row.map nD) [.pu (hL S L), .pu r, u, .mu true false (.lst (rowS S.length s)), .mu true false (.lst (rowF L.length f))]
    = .nx [.pu (hL S L), .pu r, v, .mu true false (.lst (rowS S.length (aft (wOf L) row s))), .mu true false (.lst (rowF L.length (fnd (wOf L) row s f)))]
  | [], _, u, _, _ => ⟨u, rfl⟩
  | g :: row, hg, u, s, f => by
    obtain ⟨v, hv⟩ := deal_go T h hh (row := row) (fun q hq => hg q (List.mem_cons_of_mem _ hq)) (u := .pu (nD g)) (s := dec s (fl (wOf L g) s)) (f := upd f g (fl (wOf L g) s)) (r := r)
    refine ⟨v, ?_⟩
    rw [List.map_cons]
    unfold forGo
    rw [deal_turn T h hh (hg g (List.mem_cons_self ..))]
    exact hv
/-- what each gets -/
def got (S : List Nat) (L : List (List Nat)) (row : List Nat) : Nat → Option Nat := fnd (wOf L) row (sOf S) fun _ => none
def dealD (S : List Nat) (L : List (List Nat)) (row : List Nat) : D := .tup (rowF L.length (got S L row))
theorem dealt_in_r (T : Has tab x) {n : Nat} (h : 2 ≤ n) {S : List Nat} {L : List (List Nat)} (hh : OkHall S L) {row : List Nat} (hg : ∀ g ∈ row, g < L.length) : run tab n x.dealt_in [hL S L, dN row] = .rt false (dealD S L row) [] := by
  obtain ⟨m, rfl⟩ : ∃ m, n = m + 1 := ⟨n - 1, by omega⟩
  rw [run_at T.dealt_in]
  obtain ⟨v, hv⟩ := deal_go T (n := m) (by omega) hh hg (u := .no) (s := sOf S) (f := fun _ => none) (r := dN row)
  unfold hL at *
  have h1 : dN S = .tup (rowS S.length (sOf S)) := congrArg D.tup rowS_of
  have h2 : bltD .list [dN S] = some (.f (.lst (rowS S.length (sOf S)))) := by rw [h1]; rfl
  simp [D_dealt_in, runDf, ev_var, lim, h2, hh.few, calmRs, putRs, putR, boxed, rowF_none, hv, dealD, got]
end
end Lt.Hx
end
section
set_option maxRecDepth 100000
set_option maxHeartbeats 1000000
namespace Lt.Hx
open PySem
theorem upd_self {f : Nat → Option Nat} {g : Nat} (h : f g = none) : upd f g none = f := by
  funext q
  unfold upd
  by_cases e : q = g
  · subst e; simp [h]
  · simp [e]
section
variable {tab : List Df} {x : Ix}
theorem law_turn {n : Nat} {S : List Nat} {L : List (List Nat)} (hh : OkHall S L) {g : Nat} (hg : g < L.length) {r : D} {u u5 : Sl} {s : Nat → Nat} {f : Nat → Option Nat} (hf : f g = none) : ∃ v,
    turnF (run tab n) (.nm 2) (.cons (.set 5 false (.comp (.var 6) (.nm 6) [6] .pl (.cons (.ix (.ix (.var 0) (.cst (.int 1))) (.var 2)) .nil) (.cmp .gt (.ix (.var 3) (.var 6)) (.cst (.int 0)))))
  (.cons (.ite (.cmp .ne (.var 5) (.lst .nil)) (.cons (.six 4 (.var 2) (.ix (.var 5) (.cst (.int 0))))
  (.cons (.six 3 (.ix (.var 5) (.cst (.int 0))) (.bin .sub (.ix (.var 3) (.ix (.var 5) (.cst (.int 0)))) (.cst (.int 1))))
  .nil)) .nil)
  .nil)) (nD g) [.pu (hL S L), .pu r, u, .mu true false (.lst (rowS S.length s)), .mu true false (.lst (rowF L.length f)), u5, .no]
    = .nx [.pu (hL S L), .pu r, .pu (nD g), .mu true false (.lst (rowS S.length (dec s (fl (wOf L g) s)))), .mu true false (.lst (rowF L.length (upd f g (fl (wOf L g) s)))), v, .no] := by
  have h1 := wOf_at hg
  have hlt := (hh.lists _ (wOf_mem hg)).2.2
  have h6 : (compGo (turnC (run tab n) (.var 6) (.nm 6) [6] (.cmp .gt (.ix (.var 3) (.var 6)) (.cst (.int 0)))) ((wOf L g).map nD) [] [.pu (hL S L), .pu r, .pu (nD g), .mu true false (.lst (rowS S.length s)), .mu true false (.lst (rowF L.length f)), u5, .no]) = .ok (((wOf L g).filter fun p => decide (0 < s p)).map nD) [.pu (hL S L), .pu r, .pu (nD g), .mu true false (.lst (rowS S.length s)), .mu true false (.lst (rowF L.length f)), u5, .no] := by
    refine comp_filt fun a ha => ?_
    have h7 := rowS_at (s := s) (hlt a ha)
    by_cases h8 : 0 < s a
    · have h9 : (0 : Int) < (s a : Int) := by omega
      simp [-getElem?_pos, turnC, ev_var, h7, h8]
    · simp [-getElem?_pos, turnC, ev_var, h7, h8]
  have hfl : fl (wOf L g) s = ((wOf L g).filter fun p => decide (0 < s p)).head? := by rw [List.head?_filter]; rfl
  have h2 := eq_lN_nil (l := (wOf L g).filter fun p => decide (0 < s p))
  have hfl2 : ∀ p, fl (wOf L g) s = some p → p < S.length ∧ 0 < s p := fun p => fl_lt hlt
  unfold lN at h2
  unfold hL at *
  rw [hfl] at *
  generalize (wOf L g).filter (fun p => decide (0 < s p)) = G at *
  cases G with
  | nil =>
    refine ⟨.pu (.lst []), ?_⟩
    simp at h2
    simp [-getElem?_pos, turnF, ev_var, h1, h6, putR, h2, dec, upd_self hf, lim]
  | cons p G =>
    refine ⟨.pu (.lst ((p :: G).map nD)), ?_⟩
    obtain ⟨hp, hs⟩ := hfl2 p rfl
    have h3 : (rowF L.length f).set g (.int p) = _ := rowF_set (o := some p)
    have h6' := rowS_at (s := s) hp
    have h7 := rowS_set (K := S.length) hs
    simp at h2 h6
    simp [-getElem?_pos, turnF, ev_var, h1, h6, putR, h2, isBox, place_int, hg, hp, h3, h6', h7, lim]
theorem law_go {n : Nat} {S : List Nat} {L : List (List Nat)} (hh : OkHall S L) {r : D} : ∀ {row : List Nat} (hg : ∀ g ∈ row, g < L.length) (hd : row.Nodup) {u u5 : Sl} {s : Nat → Nat} {f : Nat → Option Nat} (hf : ∀ g ∈ row, f g = none), ∃ v v5,
    forGo (turnF (run tab n) (.nm 2) (.cons (.set 5 false (.comp (.var 6) (.nm 6) [6] .pl (.cons (.ix (.ix (.var 0) (.cst (.int 1))) (.var 2)) .nil) (.cmp .gt (.ix (.var 3) (.var 6)) (.cst (.int 0)))))
  (.cons (.ite (.cmp .ne (.var 5) (.lst .nil)) (.cons (.six 4 (.var 2) (.ix (.var 5) (.cst (.int 0))))
  (.cons (.six 3 (.ix (.var 5) (.cst (.int 0))) (.bin .sub (.ix (.var 3) (.ix (.var 5) (.cst (.int 0)))) (.cst (.int 1))))
  .nil)) .nil)
  .nil))) (row.map nD) [.pu (hL S L), .pu r, u, .mu true false (.lst (rowS S.length s)), .mu true false (.lst (rowF L.length f)), u5, .no]
    = .nx [.pu (hL S L), .pu r, v, .mu true false (.lst (rowS S.length (aft (wOf L) row s))), .mu true false (.lst (rowF L.length (fnd (wOf L) row s f))), v5, .no]
  | [], _, _, u, u5, _, _, _ => ⟨u, u5, rfl⟩
  | g :: row, hg, hd, u, u5, s, f, hf => by
    obtain ⟨d1, d2⟩ := List.nodup_cons.mp hd
    obtain ⟨w5, hw⟩ := law_turn (tab := tab) (n := n) hh (hg g (List.mem_cons_self ..)) (r := r) (u := u) (u5 := u5) (s := s) (hf g (List.mem_cons_self ..))
    obtain ⟨v, v5, hv⟩ := law_go hh (row := row) (n := n) (fun q hq => hg q (List.mem_cons_of_mem _ hq)) d2 (u := .pu (nD g)) (u5 := w5) (s := dec s (fl (wOf L g) s)) (f := upd f g (fl (wOf L g) s)) (r := r) (fun q hq => by
      unfold upd
      have : q ≠ g := fun e => d1 (e ▸ hq)
      rw [if_neg this]
      exact hf q (List.mem_cons_of_mem _ hq))
    refine ⟨v, v5, ?_⟩
    rw [List.map_cons]
    unfold forGo
    rw [hw]
    exact hv
theorem law_run_r (T : Has tab x) {n : Nat} (h : 1 ≤ n) {S : List Nat} {L : List (List Nat)} (hh : OkHall S L) {row : List Nat} (hg : ∀ g ∈ row, g < L.length) (hd : row.Nodup) {r : D} (hr : items r = some (row.map nD)) : run tab n x._law_run [hL S L, r] = .rt false (dealD S L row) [] := by
  obtain ⟨m, rfl⟩ : ∃ m, n = m + 1 := ⟨n - 1, by omega⟩
  rw [run_at T._law_run]
  obtain ⟨v, v5, hv⟩ := law_go (tab := tab) (n := m) hh hg hd (u := .no) (u5 := .no) (s := sOf S) (f := fun _ => none) (r := r) (fun _ _ => rfl)
  unfold hL at *
  have h1 : dN S = .tup (rowS S.length (sOf S)) := congrArg D.tup rowS_of
  have h2 : bltD .list [dN S] = some (.f (.lst (rowS S.length (sOf S)))) := by rw [h1]; rfl
  simp [D__law_run, runDf, ev_var, lim, h2, hr, hh.few, calmRs, putRs, putR, boxed, rowF_none, hv, dealD, got]
end
end Lt.Hx
end
section
set_option maxRecDepth 100000
set_option maxHeartbeats 1000000
namespace Lt.Hx
open PySem
/-- the box of numbers, at most so many turns taken -/
def Tn (c : Nat) (d : D) : Prop := ∃ a b t : Int, d = .lst [.int a, .int b, .int t] ∧ 0 ≤ t ∧ t ≤ c
theorem Tn.mono {c c' : Nat} {d : D} (h : Tn c d) (hc : c ≤ c') : Tn c' d := by
  obtain ⟨a, b, t, h1, h2, h3⟩ := h
  exact ⟨a, b, t, h1, h2, by omega⟩
theorem bin_mulI {i j : Int} (h : small64 i = true ∨ small64 j = true) : binD .mul (.int i) (.int j) = some (.v (.int (i * j))) := by
  show (if small64 i || small64 j then some (R.v (.int (i * j))) else none) = _
  rw [if_pos (by simpa using h)]
theorem bin_modI {i j : Int} (h : 0 < j) : binD .mod (.int i) (.int j) = some (.v (.int (i % j))) := by
  show (if 0 < j then some (R.v (.int (i % j))) else none) = _
  rw [if_pos h]
theorem bin_divI {i j : Int} (h : 0 < j) (h2 : j < 1073741824) : binD .fdiv (.int i) (.int j) = some (.v (.int (i / j))) := by
  show (if 0 < j ∧ j < 1073741824 then some (R.v (.int (i / j))) else none) = _
  rw [if_pos ⟨h, h2⟩]
theorem small_of {i : Int} (h : 0 ≤ i) (h2 : i ≤ 18446744073709551615) : small64 i = true := by
  unfold small64
  simp
  omega
theorem mod_nat {i : Int} {w : Nat} (hw : 0 < w) : ∃ r : Nat, i % (w : Int) = (r : Int) ∧ r < w := by
  have h1 := Int.emod_nonneg i (show (w : Int) ≠ 0 by omega)
  have h2 := Int.emod_lt_of_pos i (show (0 : Int) < w by omega)
  exact ⟨(i % (w : Int)).toNat, by omega, by omega⟩
section
variable {tab : List Df} {x : Ix}
theorem take_r (T : Has tab x) {n : Nat} (h : 1 ≤ n) {c : Nat} (hc : c ≤ 1000000) {d : D} (ht : Tn c d) {w : Nat} (hw : 0 < w) (hw2 : w ≤ 1000000) : ∃ (r : Nat) (d' : D), run tab n x._law_take [d, .int w] = .rt false (.int r) [d'] ∧ r < w ∧ Tn (c + 1) d' := by
  obtain ⟨m, rfl⟩ : ∃ m, n = m + 1 := ⟨n - 1, by omega⟩
  obtain ⟨a, b, t, rfl, t1, t2⟩ := ht
  rw [run_at T._law_take]
  have hwi : (0 : Int) < (w : Int) := by omega
  have hwj : (w : Int) < 1073741824 := by omega
  have p2 : ixD (.lst [.int a, .int b, .int t]) (.int 2) = some (.int t) := rfl
  have q1 : ∀ l : List D, l.length = 3 → place l.length 0 = some 0 := fun l hl => by rw [hl]; rfl
  have q2 : place 3 0 = some 0 := rfl
  have q3 : place 3 2 = some 2 := rfl
  by_cases ha : 0 < a
  · obtain ⟨r, hr, hrw⟩ := mod_nat (i := a) hw
    refine ⟨r, .lst [.int (a / w), .int b, .int t], ?_, hrw, a / w, b, t, rfl, t1, by omega⟩
    simp [-getElem?_pos, D__law_take, runDf, ev_var, ha, bin_modI hwi, bin_divI hwi hwj, putR, isBox, q2, hr]
  · have p2' : ixD (.lst [.int a, .int b, .int (t + 1)]) (.int 2) = some (.int (t + 1)) := rfl
    have m1 : small64 48271 = true := rfl
    have m2 : small64 (39373 + (t + 1)) = true := small_of (by omega) (by omega)
    have e1 : ∀ i : Int, 0 ≤ i % 2147483647 ∧ i % 2147483647 < 2147483647 := fun i => ⟨Int.emod_nonneg i (by omega), Int.emod_lt_of_pos i (by omega)⟩
    have m3 : ∀ i : Int, small64 (i % 40009 + 7) = true := fun i => by
      have h1 := Int.emod_nonneg i (show (40009 : Int) ≠ 0 by omega)
      have h2 := Int.emod_lt_of_pos i (show (0 : Int) < 40009 by omega)
      exact small_of (by omega) (by omega)
    have m4 : small64 48271 = true := rfl
    have big : ∀ i : Int, ∃ r : Nat, i % (w : Int) = (r : Int) ∧ r < w := fun i => mod_nat hw
    have f1 : ∀ i : Int, binD .mul (.int i) (.int 48271) = some (.v (.int (i * 48271))) := fun i => bin_mulI (Or.inr rfl)
    have f2 : ∀ i : Int, binD .mul (.int 48271) (.int i) = some (.v (.int (48271 * i))) := fun i => bin_mulI (Or.inl rfl)
    have f3 : ∀ i : Int, binD .mul (.int i) (.int (39373 + (t + 1))) = some (.v (.int (i * (39373 + (t + 1))))) := fun i => bin_mulI (Or.inr m2)
    have f4 : ∀ i j : Int, binD .mul (.int i) (.int (j % 40009 + 7)) = some (.v (.int (i * (j % 40009 + 7)))) := fun i j => bin_mulI (Or.inr (m3 j))
    have g1 : ∀ i : Int, binD .mod (.int i) (.int 2147483647) = some (.v (.int (i % 2147483647))) := fun i => bin_modI (by omega)
    have g2 : ∀ i : Int, binD .mod (.int i) (.int 40009) = some (.v (.int (i % 40009))) := fun i => bin_modI (by omega)
    have g3 : ∀ i : Int, binD .mod (.int i) (.int 2147483629) = some (.v (.int (i % 2147483629))) := fun i => bin_modI (by omega)
    have g4 : ∀ i : Int, binD .mod (.int i) (.int 2147483587) = some (.v (.int (i % 2147483587))) := fun i => bin_modI (by omega)
    have g5 : ∀ i : Int, binD .fdiv (.int i) (.int 1000003) = some (.v (.int (i / 1000003))) := fun i => bin_divI (by omega) (by omega)
    have g6 : ∀ i : Int, binD .fdiv (.int i) (.int 64) = some (.v (.int (i / 64))) := fun i => bin_divI (by omega) (by omega)
    have g7 : ∀ i : Int, binD .mod (.int i) (.int w) = some (.v (.int (i % w))) := fun i => bin_modI hwi
    have key : ∃ z : Int, runDf (run tab m) (D__law_take x) [.lst [.int a, .int b, .int t], .int w] = .rt false (.int (z % w)) [.lst [.int a, .int b, .int (t + 1)]] := by
      refine ⟨(((((((b + 48271 * (t + 1)) * (39373 + (t + 1)) % 2147483647) + (t + 1) + b / 1000003) * (((b + 48271 * (t + 1)) * (39373 + (t + 1)) % 2147483647) % 40009 + 7)) % 2147483629) * 48271 + ((b + 48271 * (t + 1)) * (39373 + (t + 1)) % 2147483647)) % 2147483587 / 64), ?_⟩
      simp only [D__law_take, runDf, ev_var, ha, putR, isBox, q2, q3, p2, p2', f1, f2, f3, f4, g1, g2, g3, g4, g5, g6, g7, start_t, start_f, start_0, es_cons, es_ite, ev_cmp, ev_ix, ev_cst, ev_bin, ev_blt, es_set, es_six, es_ret, es_nil, bind_ok, look_v, look_s', slot_0, slot_s, ix_lst0, ix_lst1, at0, at1, at2, Option.map_some, Option.map_none, lift_some, evl_cons, evl_nil, List.cons_append, List.nil_append, List.replicate, liftB_some, cmp_gt, decide_false, testR_ok, truth_bl, fl_ok, seq_nx, keep_v, guard_t, bin_addI, blt_intI, looks_v, looks_nil, List.set_cons_zero, List.set_cons_succ, List.length_cons, List.length_nil, nxO_some, seq_rt, backs_rt, outs_t, outs_f, outs_0, if_true, Bool.false_eq_true, if_false]
    obtain ⟨z, hz⟩ := key
    obtain ⟨r, hr, hrw⟩ := big z
    exact ⟨r, _, by rw [hz, hr], hrw, a, b, t + 1, rfl, by omega, by omega⟩
end
end Lt.Hx
end
section
set_option maxRecDepth 100000
set_option maxHeartbeats 1000000
namespace Lt.Hx
open PySem
theorem map_erase {α β : Type} {f : α → β} : ∀ {l : List α} {j : Nat}, (l.map f).eraseIdx j = (l.eraseIdx j).map f
  | [], _ => rfl
  | _ :: _, 0 => rfl
  | a :: l, j + 1 => by
    show f a :: (l.map f).eraseIdx j = f a :: (l.eraseIdx j).map f
    rw [map_erase]
theorem getE_perm : ∀ {l : List Nat} {j : Nat} (h : j < l.length), (l[j] :: l.eraseIdx j).Perm l
  | [], _, h => absurd h (Nat.not_lt_zero _)
  | _ :: _, 0, _ => List.Perm.refl _
  | a :: l, j + 1, h => by
    have h1 := getE_perm (l := l) (j := j) (Nat.lt_of_succ_lt_succ h)
    show (l[j]'(Nat.lt_of_succ_lt_succ h) :: a :: l.eraseIdx j).Perm (a :: l)
    exact (List.Perm.swap ..).trans (h1.cons a)
theorem erase_perm {l found : List Nat} {j : Nat} (hj : j < l.length) : (l.eraseIdx j ++ (found ++ [l[j]])).Perm (l ++ found) := by
  have h1 : (l[j] :: l.eraseIdx j).Perm l := getE_perm hj
  have h2 : (l.eraseIdx j ++ (found ++ [l[j]])).Perm (l[j] :: l.eraseIdx j ++ found) := by
    rw [← List.append_assoc]
    refine (List.perm_append_comm).trans ?_
    exact List.Perm.refl _
  exact h2.trans (h1.append_right found)
section
variable {tab : List Df} {x : Ix}
theorem pick_turn (T : Has tab x) {n : Nat} (h : 1 ≤ n) {c : Nat} (hc : c ≤ 1000000) {d G C k : D} {u : Sl} (ht : Tn c d) {pool found : List Nat} (hp : 0 < pool.length) (hq : pool.length + found.length ≤ 1000) :
    ∃ (d' : D) (pool' found' : List Nat), turnF (run tab n) (.nm 3) (.cons (.ex (.app 5 (.popa 4 (.call x._law_take [true, false] (.cons (.var 0) (.cons (.blt .len (.cons (.var 4) .nil)) .nil)))))) .nil) k [.mu false false d, .pu G, .pu C, u, .mu true false (.lst (pool.map nD)), .mu true false (.lst (found.map nD))]
      = .nx [.mu false false d', .pu G, .pu C, .pu k, .mu true false (.lst (pool'.map nD)), .mu true false (.lst (found'.map nD))] ∧ Tn (c + 1) d' ∧ (pool' ++ found').Perm (pool ++ found) ∧ found'.length = found.length + 1 := by
  obtain ⟨r, d', hr, hrw, ht'⟩ := take_r T h hc ht hp (by omega)
  refine ⟨d', pool.eraseIdx r, found ++ [pool[r]], ?_, ht', erase_perm hrw, by simp⟩
  have h1 := callS_t (C := run tab n) (f := x._law_take) (i := 0) (e := [.mu false false d, .pu G, .pu C, .pu k, .mu true false (.lst (pool.map nD)), .mu true false (.lst (found.map nD))]) (o := false) (d1 := d) (d1' := d') (d := .int r) (bs := [false]) (rs := [.v (.int pool.length)]) (ds := [.int pool.length]) (fr := false) rfl rfl hr
  simp at h1
  have h2 : (pool.map nD)[r]? = some (nD pool[r]) := by simp [hrw]
  have h3 : found.length < lim := by unfold lim; omega
  simp [-getElem?_pos, turnF, ev_var, isBox, h1, place_int, hrw, h2, h3, map_erase]
theorem pick_go (T : Has tab x) {n : Nat} (h : 1 ≤ n) {G C : D} : ∀ {xs : List D} {c : Nat} (hc : c + xs.length ≤ 1000000) {d : D} {u : Sl} (ht : Tn c d) {pool found : List Nat} (hp : xs.length ≤ pool.length) (hq : pool.length + found.length ≤ 1000),
    ∃ (u' : Sl) (d' : D) (pool' found' : List Nat), forGo (turnF (run tab n) (.nm 3) (.cons (.ex (.app 5 (.popa 4 (.call x._law_take [true, false] (.cons (.var 0) (.cons (.blt .len (.cons (.var 4) .nil)) .nil)))))) .nil)) xs [.mu false false d, .pu G, .pu C, u, .mu true false (.lst (pool.map nD)), .mu true false (.lst (found.map nD))]
      = .nx [.mu false false d', .pu G, .pu C, u', .mu true false (.lst (pool'.map nD)), .mu true false (.lst (found'.map nD))] ∧ Tn (c + xs.length) d' ∧ (pool' ++ found').Perm (pool ++ found) ∧ found'.length = found.length + xs.length
  | [], c, hc, d, u, ht, pool, found, hp, hq => ⟨u, d, pool, found, rfl, ht, List.Perm.refl _, rfl⟩
  | k :: xs, c, hc, d, u, ht, pool, found, hp, hq => by
    have hl : (k :: xs).length = xs.length + 1 := rfl
    obtain ⟨d1, pool1, found1, e1, t1, p1, l1⟩ := pick_turn T h (k := k) (G := G) (C := C) (u := u) (by omega) ht (show 0 < pool.length by omega) hq
    have hlen := p1.length_eq
    simp at hlen
    obtain ⟨u2, d2, pool2, found2, e2, t2, p2, l2⟩ := pick_go T h (G := G) (C := C) (xs := xs) (c := c + 1) (by omega) (u := .pu k) t1 (pool := pool1) (found := found1) (by omega) (by omega)
    refine ⟨u2, d2, pool2, found2, ?_, t2.mono (by omega), p2.trans p1, by omega⟩
    unfold forGo
    rw [e1]
    exact e2
theorem pick_r (T : Has tab x) {n : Nat} (h : 2 ≤ n) {c : Nat} (hc : c ≤ 900000) {d : D} (ht : Tn c d) {G : List Nat} (hG : G.length ≤ 1000) {g : D} (hg : g = lN G) {k : Nat} (hk : k ≤ 1000) :
    ∃ l pool d', run tab n x._law_pick [d, g, .int k] = .rt true (lN l) [d'] ∧ Tn (c + k) d' ∧ (pool ++ l).Perm G ∧ l.length = min k G.length := by
  obtain ⟨m, rfl⟩ : ∃ m, n = m + 1 := ⟨n - 1, by omega⟩
  subst hg
  rw [run_at T._law_pick]
  obtain ⟨u', d', pool', found', e1, t1, p1, l1⟩ := pick_go T (n := m) (by omega) (G := lN G) (C := .int k) (xs := (List.range (min k G.length)).map fun (k : Nat) => .int k) (c := c) (by simp; omega) (u := .no) ht (pool := G) (found := []) (by simp; omega) (by simpa using hG)
  have h1 : ((if (G.length : Int) < (k : Int) then (G.length : Int) else (k : Int))) = ((min k G.length : Nat) : Int) := by
    split <;> omega
  have h2 : bltD .min2 [.int k, .int G.length] = some (.v (.int (min k G.length : Nat))) := by
    show some (R.v (.int (if (G.length : Int) < (k : Int) then (G.length : Int) else (k : Int)))) = _
    rw [h1]
  have h3 : itD .rg1 [.int (min k G.length : Nat)] = some ((List.range (min k G.length)).map fun (k : Nat) => .int k) := by
    show (if ((min k G.length : Nat) : Int) ≤ 16777216 ∧ -16777216 ≤ ((min k G.length : Nat) : Int) then some ((List.range ((min k G.length : Nat) : Int).toNat).map fun (k : Nat) => D.int k) else none) = _
    rw [if_pos ⟨by omega, by omega⟩]
    rfl
  refine ⟨found', pool', d', ?_, t1.mono (by simp; omega), by simpa using p1, by simpa using l1⟩
  simp [lN] at e1
  simp [D__law_pick, runDf, ev_var, lim, lN, calmRs, putRs, putR, boxed, h2, h3, e1]
theorem of_r (T : Has tab x) {n : Nat} (h : 2 ≤ n) {c : Nat} (hc : c ≤ 900000) {d : D} (ht : Tn c d) {G : List D} (hG : 0 < G.length) (hG2 : G.length ≤ 1001) :
    ∃ a d', run tab n x._law_of [d, .lst G] = .rt false a [d'] ∧ Tn (c + 1) d' ∧ a ∈ G := by
  obtain ⟨m, rfl⟩ : ∃ m, n = m + 1 := ⟨n - 1, by omega⟩
  rw [run_at T._law_of]
  obtain ⟨r, d', hr, hrw, ht'⟩ := take_r T (n := m) (by omega) (by omega) ht hG (by omega)
  have h1 := callS_t (C := run tab m) (f := x._law_take) (i := 0) (e := [.mu false false d, .pu (.lst G)]) (o := false) (d1 := d) (d1' := d') (d := .int r) (bs := [false]) (rs := [.v (.int G.length)]) (ds := [.int G.length]) (fr := false) rfl rfl hr
  refine ⟨G[r], d', ?_, ht', List.getElem_mem hrw⟩
  simp at h1
  have h2 : G[r]? = some G[r] := by simp [hrw]
  simp [-getElem?_pos, D__law_of, runDf, ev_var, h1, h2]
end
end Lt.Hx
end
section
set_option maxRecDepth 100000
set_option maxHeartbeats 1000000
namespace Lt.Hx
open PySem
theorem it_rg1 {k : Nat} (h : k ≤ 1000) : itD .rg1 [.int k] = some ((List.range k).map nD) := by
  show (if (k : Int) ≤ 16777216 ∧ -16777216 ≤ (k : Int) then some ((List.range (k : Int).toNat).map fun (k : Nat) => D.int k) else none) = _
  rw [if_pos ⟨by omega, by omega⟩]
  rfl
theorem blt_rl {k : Nat} (h : k ≤ 1000) : bltD .rlist1 [.int k] = some (.f (lN (List.range k))) := by
  show (if (k : Int) ≤ 16777216 ∧ -16777216 ≤ (k : Int) then some (R.f (.lst ((List.range (k : Int).toNat).map fun (k : Nat) => D.int k))) else none) = _
  rw [if_pos ⟨by omega, by omega⟩]
  rfl
section
variable {tab : List Df} {x : Ix}
theorem seat_turn (T : Has tab x) {n : Nat} (h : 1 ≤ n) {c : Nat} (hc : c ≤ 1000000) {d M K k : D} (ht : Tn c d) :
    ∃ (d' : D) (v : Nat), turnC (run tab n) (.ix (.lst (.cons (.cst (.int 1)) (.cons (.cst (.int 1)) (.cons (.cst (.int 1)) (.cons (.cst (.int 2)) (.cons (.cst (.int 2)) (.cons (.cst (.int 3)) .nil))))))) (.call x._law_take [true, false] (.cons (.var 0) (.cons (.cst (.int 6)) .nil)))) (.nm 5) [5] (.cst (.bl true)) k [.mu false false d, .pu M, .pu K, .no, .no, .no]
      = .ok (some (nD v)) [.mu false false d', .pu M, .pu K, .no, .no, .no] ∧ 1 ≤ v ∧ Tn (c + 1) d' := by
  obtain ⟨r, d', hr, hrw, ht'⟩ := take_r T h hc ht (w := 6) (by omega) (by omega)
  have h1 := callS_t (C := run tab n) (f := x._law_take) (i := 0) (e := [.mu false false d, .pu M, .pu K, .no, .no, .pu k]) (o := false) (d1 := d) (d1' := d') (d := .int r) (bs := [false]) (rs := [.v (.int (6 : Nat))]) (ds := [.int (6 : Nat)]) (fr := false) rfl rfl hr
  simp at h1
  have h3 : ∃ v : Nat, [D.int 1, .int 1, .int 1, .int 2, .int 2, .int 3][r]? = some (nD v) ∧ 1 ≤ v := by
    match r, hrw with
    | 0, _ => exact ⟨1, rfl, by omega⟩
    | 1, _ => exact ⟨1, rfl, by omega⟩
    | 2, _ => exact ⟨1, rfl, by omega⟩
    | 3, _ => exact ⟨2, rfl, by omega⟩
    | 4, _ => exact ⟨2, rfl, by omega⟩
    | 5, _ => exact ⟨3, rfl, by omega⟩
  obtain ⟨v, hv, hv1⟩ := h3
  refine ⟨d', v, ?_, hv1, ht'⟩
  simp [-getElem?_pos, turnC, ev_var, lim, h1, hv]
theorem seat_go (T : Has tab x) {n : Nat} (h : 1 ≤ n) {M K : D} : ∀ {xs : List D} {c : Nat} (hc : c + xs.length ≤ 1000000) {d : D} (ht : Tn c d) {acc : List Nat},
    ∃ (d' : D) (V : List Nat), compGo (turnC (run tab n) (.ix (.lst (.cons (.cst (.int 1)) (.cons (.cst (.int 1)) (.cons (.cst (.int 1)) (.cons (.cst (.int 2)) (.cons (.cst (.int 2)) (.cons (.cst (.int 3)) .nil))))))) (.call x._law_take [true, false] (.cons (.var 0) (.cons (.cst (.int 6)) .nil)))) (.nm 5) [5] (.cst (.bl true))) xs (acc.map nD) [.mu false false d, .pu M, .pu K, .no, .no, .no]
      = .ok ((acc.reverse ++ V).map nD) [.mu false false d', .pu M, .pu K, .no, .no, .no] ∧ V.length = xs.length ∧ (∀ v ∈ V, 1 ≤ v) ∧ Tn (c + xs.length) d'
  | [], c, hc, d, ht, acc => ⟨d, [], by simp [compGo], rfl, by simp, ht⟩
  | k :: xs, c, hc, d, ht, acc => by
    have hl : (k :: xs).length = xs.length + 1 := rfl
    obtain ⟨d1, v, e1, v1, t1⟩ := seat_turn T h (k := k) (M := M) (K := K) (by omega) ht
    obtain ⟨d2, V, e2, l2, v2, t2⟩ := seat_go T h (M := M) (K := K) (xs := xs) (c := c + 1) (by omega) t1 (acc := v :: acc)
    refine ⟨d2, v :: V, ?_, by simp [l2], fun q hq => ?_, t2.mono (by omega)⟩
    · unfold compGo
      rw [e1]
      simp at e2
      simpa using e2
    · rcases List.mem_cons.mp hq with rfl | hq
      · exact v1
      · exact v2 q hq
theorem list_turn (T : Has tab x) {n : Nat} (h : 2 ≤ n) {c K : Nat} (hc : c ≤ 100000) (hK : 0 < K) (hK2 : K ≤ 1000) {d M k V : D} {u : Sl} (ht : Tn c d) {Ls : List (List Nat)} (hL : Ls.length ≤ 1000) :
    ∃ (d' : D) (W : List Nat), turnF (run tab n) (.nm 5) (.cons (.ex (.app 4 (.blt .tuple (.cons (.call x._law_pick [true, false, false] (.cons (.var 0) (.cons (.blt .rlist1 (.cons (.var 2) .nil)) (.cons (.bin .add (.cst (.int 1)) (.call x._law_take [true, false] (.cons (.var 0) (.cons (.var 2) .nil)))) .nil)))) .nil))))
  .nil) k [.mu false false d, .pu M, .pu (.int K), .pu V, .mu true false (.lst (Ls.map dN)), u]
      = .nx [.mu false false d', .pu M, .pu (.int K), .pu V, .mu true false (.lst ((Ls ++ [W]).map dN)), .pu k] ∧ OkList K W ∧ Tn (c + (K + 1)) d' := by
  obtain ⟨r, d1, hr, hrw, t1⟩ := take_r T (n := n) (by omega) (by omega) ht hK (by omega)
  have h1 := callS_t (C := run tab n) (f := x._law_take) (i := 0) (e := [.mu false false d, .pu M, .pu (.int K), .pu V, .mu true false (.lst (Ls.map dN)), .pu k]) (o := false) (d1 := d) (d1' := d1) (d := .int r) (bs := [false]) (rs := [.v (.int K)]) (ds := [.int K]) (fr := false) rfl rfl hr
  obtain ⟨l, pool, d2, e2, t2, p2, l2⟩ := pick_r T h (c := c + 1) (by omega) t1 (G := List.range K) (by simpa using hK2) rfl (k := r + 1) (by omega)
  have hk : ((r + 1 : Nat) : Int) = 1 + (r : Int) := by omega
  rw [hk] at e2
  have h2 := callS_t (C := run tab n) (f := x._law_pick) (i := 0) (e := [.mu false false d1, .pu M, .pu (.int K), .pu V, .mu true false (.lst (Ls.map dN)), .pu k]) (o := false) (d1 := d1) (d1' := d2) (d := lN l) (bs := [false, false]) (rs := [.f (lN (List.range K)), .v (.int (1 + (r : Int)))]) (ds := [lN (List.range K), .int (1 + (r : Int))]) (fr := true) rfl rfl e2
  have hlen : l.length = r + 1 := by rw [l2]; simp; omega
  have hnd : (pool ++ l).Nodup := p2.nodup_iff.mpr List.nodup_range
  have hmem : ∀ p ∈ l, p < K := fun p hp => List.mem_range.mp (p2.mem_iff.mp (List.mem_append_right _ hp))
  refine ⟨d2, l, ?_, ⟨fun e => by rw [e] at hlen; simp at hlen, (List.nodup_append.mp hnd).2.1, hmem⟩, t2.mono (by omega)⟩
  simp at h1 h2
  have h3 : bltD .tuple [lN l] = some (.v (dN l)) := rfl
  simp [-getElem?_pos, turnF, ev_var, isBox, blt_rl hK2, h1, h2, h3, lim, show Ls.length < 16777216 by omega]
theorem list_go (T : Has tab x) {n : Nat} (h : 2 ≤ n) {K : Nat} (hK : 0 < K) (hK2 : K ≤ 1000) {M V : D} : ∀ {xs : List D} {c : Nat} (hc : c + xs.length * (K + 1) ≤ 100000) {d : D} {u : Sl} (ht : Tn c d) {Ls : List (List Nat)} (hL : Ls.length + xs.length ≤ 1000) (hLs : ∀ W ∈ Ls, OkList K W),
    ∃ (d' : D) (u' : Sl) (L' : List (List Nat)), forGo (turnF (run tab n) (.nm 5) (.cons (.ex (.app 4 (.blt .tuple (.cons (.call x._law_pick [true, false, false] (.cons (.var 0) (.cons (.blt .rlist1 (.cons (.var 2) .nil)) (.cons (.bin .add (.cst (.int 1)) (.call x._law_take [true, false] (.cons (.var 0) (.cons (.var 2) .nil)))) .nil)))) .nil))))
  .nil)) xs [.mu false false d, .pu M, .pu (.int K), .pu V, .mu true false (.lst (Ls.map dN)), u]
      = .nx [.mu false false d', .pu M, .pu (.int K), .pu V, .mu true false (.lst (L'.map dN)), u'] ∧ L'.length = Ls.length + xs.length ∧ (∀ W ∈ L', OkList K W) ∧ Tn (c + xs.length * (K + 1)) d'
  | [], c, hc, d, u, ht, Ls, hL, hLs => ⟨d, u, Ls, rfl, rfl, hLs, ht.mono (by omega)⟩
  | k :: xs, c, hc, d, u, ht, Ls, hL, hLs => by
    have hl : (k :: xs).length = xs.length + 1 := rfl
    have hm : (xs.length + 1) * (K + 1) = xs.length * (K + 1) + (K + 1) := Nat.succ_mul ..
    rw [hl] at hL
    rw [hl, hm] at hc
    obtain ⟨d1, W, e1, w1, t1⟩ := list_turn T h (k := k) (M := M) (V := V) (u := u) (by omega) hK hK2 ht (Ls := Ls) (by omega)
    obtain ⟨d2, u2, L2, e2, l2, w2, t2⟩ := list_go T h hK hK2 (M := M) (V := V) (xs := xs) (c := c + (K + 1)) (by omega) (u := .pu k) t1 (Ls := Ls ++ [W]) (by simp; omega) (fun q hq => by
      rcases List.mem_append.mp hq with hq | hq
      · exact hLs q hq
      · rw [List.mem_singleton.mp hq]; exact w1)
    refine ⟨d2, u2, L2, ?_, by simp at l2; omega, w2, t2.mono (by rw [hl, hm]; omega)⟩
    unfold forGo
    rw [e1]
    exact e2
theorem hall_r (T : Has tab x) {n : Nat} (h : 3 ≤ n) {c : Nat} (hc : c ≤ 50000) {d : D} (ht : Tn c d) {w : Nat} (hw : w ≤ 100) :
    ∃ S L d', run tab n x._law_hall [d, .int w] = .rt false (hL S L) [d'] ∧ OkHall S L ∧ S.length ≤ 4 ∧ L.length ≤ w ∧ Tn (c + 1000) d' := by
  obtain ⟨m, rfl⟩ : ∃ m, n = m + 1 := ⟨n - 1, by omega⟩
  rw [run_at T._law_hall]
  obtain ⟨r, d1, hr, hrw, t1⟩ := take_r T (n := m) (by omega) (by omega) ht (w := 4) (by omega) (by omega)
  have h1 := callS_t (C := run tab m) (f := x._law_take) (i := 0) (e := [.mu false false d, .pu (.int w), .no, .no, .no, .no]) (o := false) (d1 := d) (d1' := d1) (d := .int r) (bs := [false]) (rs := [.v (.int (4 : Nat))]) (ds := [.int (4 : Nat)]) (fr := false) rfl rfl hr
  have hk : (1 + (r : Int)) = ((1 + r : Nat) : Int) := by omega
  obtain ⟨d2, S, e2, l2, s2, t2⟩ := seat_go T (n := m) (by omega) (M := .int w) (K := .int (1 + r : Nat)) (xs := (List.range (1 + r)).map nD) (c := c + 1) (by simp; omega) t1 (acc := [])
  obtain ⟨q, d3, hq, hqw, t3⟩ := take_r T (n := m) (by omega) (c := c + 1 + ((List.range (1 + r)).map nD).length) (by simp; omega) t2 (w := w + 1) (by omega) (by omega)
  have h3 := callS_t (C := run tab m) (f := x._law_take) (i := 0) (e := [.mu false false d2, .pu (.int w), .pu (.int (1 + r : Nat)), .pu (dN S), .mu true false (.lst []), .no]) (o := false) (d1 := d2) (d1' := d3) (d := .int q) (bs := [false]) (rs := [.v (.int (w + 1 : Nat))]) (ds := [.int (w + 1 : Nat)]) (fr := false) rfl rfl hq
  have hmul : q * (1 + r + 1) ≤ 500 := Nat.le_trans (Nat.mul_le_mul (show q ≤ 100 by omega) (show 1 + r + 1 ≤ 5 by omega)) (by omega)
  obtain ⟨d4, u4, L, e4, l4, w4, t4⟩ := list_go T (n := m) (by omega) (K := 1 + r) (by omega) (by omega) (M := .int w) (V := dN S) (xs := (List.range q).map nD) (by simp; omega) (u := .no) t3 (Ls := []) (by simp; omega) (by simp)
  simp at l2 l4
  refine ⟨S, L, d4, ?_, ⟨fun e => by have e' := congrArg List.length e; rw [l2] at e'; have : ([] : List Nat).length = 0 := rfl; omega, s2, by omega, by omega, fun W hW => by rw [l2]; exact w4 W hW⟩, by omega, by omega, t4.mono (by simp; omega)⟩
  have hk2 : ((w : Int) + 1) = ((w + 1 : Nat) : Int) := by omega
  have i2 := it_rg1 (k := 1 + r) (by omega)
  have i3 := it_rg1 (k := q) (by omega)
  simp [-Int.natCast_add] at h1 e2 h3 e4
  have h2 : bltD .tuple [.lst (S.map nD)] = some (.v (dN S)) := rfl
  simp [-getElem?_pos, -Int.natCast_add, D__law_hall, runDf, ev_var, isBox, putR, boxed, lim, h1, hk, i2, e2, h2, hk2, h3, i3, e4, hL]
end
end Lt.Hx
end
section
set_option maxRecDepth 100000
set_option maxHeartbeats 1000000
namespace Lt.Hx
open PySem
/-! ### orders -/
theorem ins_perm {x : Int} : ∀ {l : List Int}, (ins x l).Perm (x :: l)
  | [] => List.Perm.refl _
  | y :: l => by
    unfold ins
    split
    · exact List.Perm.refl _
    · exact ((ins_perm (l := l)).cons y).trans (List.Perm.swap ..)
theorem isort_perm : ∀ {l : List Int}, (isort l).Perm l
  | [] => List.Perm.refl _
  | x :: l => (ins_perm).trans ((isort_perm (l := l)).cons x)
theorem ins_sorted {x : Int} : ∀ {l : List Int}, l.Pairwise (· ≤ ·) → (ins x l).Pairwise (· ≤ ·)
  | [], _ => List.pairwise_singleton ..
  | y :: l, h => by
    obtain ⟨h1, h2⟩ := List.pairwise_cons.mp h
    unfold ins
    split
    · refine List.pairwise_cons.mpr ⟨fun z hz => ?_, h⟩
      rcases List.mem_cons.mp hz with rfl | hz
      · assumption
      · exact Int.le_trans (by assumption) (h1 z hz)
    · refine List.pairwise_cons.mpr ⟨fun z hz => ?_, ins_sorted h2⟩
      rcases List.mem_cons.mp (ins_perm.mem_iff.mp hz) with rfl | hz
      · omega
      · exact h1 z hz
theorem isort_sorted : ∀ {l : List Int}, (isort l).Pairwise (· ≤ ·)
  | [] => List.Pairwise.nil
  | x :: l => ins_sorted (isort_sorted (l := l))
/-- a sorted row is its own sorting -/
theorem isort_eq {l r : List Int} (hp : l.Perm r) (hr : r.Pairwise (· ≤ ·)) : isort l = r :=
  (isort_perm.trans hp).eq_of_pairwise (le := (· ≤ ·)) (fun a b _ _ h1 h2 => by omega) isort_sorted hr
theorem range_sorted {m : Nat} : ((List.range m).map fun (k : Nat) => (k : Int)).Pairwise (· ≤ ·) :=
  List.pairwise_map.mpr (List.pairwise_lt_range.imp fun h => by omega)
theorem sorted_row {m : Nat} {row : List Nat} (h : row.Perm (List.range m)) : bltD .sorted [dN row] = some (.f (lN (List.range m))) := by
  show ((intz (row.map nD)).map fun is => R.f (.lst ((isort is).map .int))) = _
  rw [ints_nD]
  show some (R.f (.lst ((isort (row.map fun (k : Nat) => (k : Int))).map .int))) = _
  rw [isort_eq (h.map _) range_sorted, List.map_map]
  rfl
theorem eqvs_nD : ∀ {l : List Nat}, D.eqvs (l.map nD) (l.map nD) = true
  | [] => rfl
  | k :: l => by
    show ((nD k).eqv (nD k) && D.eqvs (l.map nD) (l.map nD)) = true
    rw [eqvs_nD, eqv_nD]
    simp
theorem eq_lN_self {l : List Nat} : eqD (lN l) (lN l) = some true :=
  eq_self (dN_plain (l := l)) (Nat.le_trans (dN_depth (l := l)) (by omega)) (eqvs_nD (l := l))
/-- a row told as a tuple or as a list -/
def RowD (o : D) (row : List Nat) : Prop := o = dN row ∨ o = lN row
theorem RowD.plain {o : D} {row : List Nat} (h : RowD o row) : o.plain = true := by
  rcases h with rfl | rfl <;> exact dN_plain (l := row)
theorem RowD.depth {o : D} {row : List Nat} (h : RowD o row) : o.depth ≤ 1 := by
  rcases h with rfl | rfl <;> exact dN_depth (l := row)
theorem RowD.tup {o : D} {row : List Nat} (h : RowD o row) : tupD o = dN row := by
  rcases h with rfl | rfl <;> exact tup_dN
theorem RowD.items {o : D} {row : List Nat} (h : RowD o row) : Lt.items o = some (row.map nD) := by
  rcases h with rfl | rfl <;> rfl
/-- a hall told as tuples or as lists -/
def HallD (o : D) (S : List Nat) (L : List (List Nat)) : Prop := o = hL S L ∨ o = softD S L
def isRow (L : List (List Nat)) (row : List Nat) : Prop := row.Perm (List.range L.length)
theorem cutAt_nat {n d k : Nat} : cutAt n d (some (k : Int)) = min k n := by
  show (if (k : Int) < 0 then ((k : Int) + n).toNat else min (k : Int).toNat n) = _
  rw [if_neg (by omega)]
  rfl
theorem cut_to {α : Type} {l : List α} {k : Nat} : cut l none (some (k : Int)) = l.take k := by
  show (l.drop 0).take (cutAt l.length l.length (some (k : Int)) - 0) = _
  rw [cutAt_nat]
  simp
theorem cut_from {α : Type} {l : List α} {k : Nat} : cut l (some (k : Int)) none = l.drop k := by
  show (l.drop (cutAt l.length 0 (some (k : Int)))).take (l.length - cutAt l.length 0 (some (k : Int))) = _
  rw [cutAt_nat, List.take_of_length_le (by simp)]
  by_cases h : k ≤ l.length
  · rw [Nat.min_eq_left h]
  · rw [Nat.min_eq_right (by omega), List.drop_of_length_le (by omega), List.drop_of_length_le (by omega)]
@[simp] theorem sl_to {l : List D} {k : Nat} : slD (.tup l) none (some (k : Int)) = some (.v (.tup (l.take k))) := by
  show some (R.v (.tup (cut l none (some (k : Int))))) = _
  rw [cut_to]
@[simp] theorem sl_from {l : List D} {k : Nat} : slD (.tup l) (some (k : Int)) none = some (.v (.tup (l.drop k))) := by
  show some (R.v (.tup (cut l (some (k : Int)) none))) = _
  rw [cut_from]
@[simp] theorem part_non {e : Env} : partR e (.v .non) = some none := rfl
@[simp] theorem part_int {e : Env} {i : Int} : partR e (.v (.int i)) = some (some i) := rfl
def rest (row : List Nat) (g : Nat) : List Nat := row.filter fun o => decide (o ≠ g)
def insAt (r : List Nat) (k g : Nat) : List Nat := r.take k ++ [g] ++ r.drop k
theorem eq_ints {a b : Nat} : eqD (.int a) (.int b) = some (decide (a = b)) := eq_nD
theorem bin_addT {x y : List D} (h : x.length + y.length ≤ 10000) : binD .add (.tup x) (.tup y) = some (.v (.tup (x ++ y))) := by
  show (if x.length + y.length ≤ lim then some (R.v (.tup (x ++ y))) else none) = _
  rw [if_pos (by unfold lim; omega)]
section
variable {tab : List Df} {x : Ix}
theorem sure_hall_d (T : Has tab x) {n : Nat} (h : 5 ≤ n) {S : List Nat} {L : List (List Nat)} (hh : OkHall S L) {o : D} (ho : HallD o S L) : run tab n x.sure_hall [o] = .rt false (hL S L) [] := by
  rcases ho with rfl | rfl
  · exact sure_hall_r T h hh
  · exact sure_hall_s T h hh
theorem is_order_r (T : Has tab x) {n : Nat} (h : 3 ≤ n) {S : List Nat} {L : List (List Nat)} (hh : OkHall S L) {row : List Nat} (hr : isRow L row) : run tab n x.is_order_of_hall [hL S L, dN row] = .rt false (.bl true) [] := by
  obtain ⟨m, rfl⟩ : ∃ m, n = m + 1 := ⟨n - 1, by omega⟩
  rw [run_at T.is_order_of_hall]
  simp [D_is_order_of_hall, runDf, ev_var, hL, are_numbers_r T (show 2 ≤ m by omega), sorted_row hr, blt_rl hh.few, eq_lN_self]
theorem sure_hall_order_r (T : Has tab x) {n : Nat} (h : 4 ≤ n) {S : List Nat} {L : List (List Nat)} (hh : OkHall S L) {row : List Nat} (hr : isRow L row) {o : D} (ho : RowD o row) : run tab n x.sure_hall_order [hL S L, o] = .rt false (dN row) [] := by
  obtain ⟨m, rfl⟩ : ∃ m, n = m + 1 := ⟨n - 1, by omega⟩
  rw [run_at T.sure_hall_order]
  have h1 := tupled_r T (n := m) ho.plain (Nat.lt_of_le_of_lt ho.depth (by omega))
  rw [ho.tup] at h1
  simp [D_sure_hall_order, runDf, ev_var, h1, putR, is_order_r T (show 3 ≤ m by omega) hh hr]
theorem sure_hall_guest_r (T : Has tab x) {n : Nat} (h : 3 ≤ n) {S : List Nat} {L : List (List Nat)} {g : Nat} (hg : g < L.length) : run tab n x.sure_hall_guest [hL S L, .int g] = .rt false (.int g) [] := by
  obtain ⟨m, rfl⟩ : ∃ m, n = m + 1 := ⟨n - 1, by omega⟩
  rw [run_at T.sure_hall_guest]
  have h2 : (g : Int) ≤ (L.length : Int) - 1 := by omega
  simp [D_sure_hall_guest, runDf, ev_var, hL, is_number_r T (show 1 ≤ m by omega), is_within_r T (show 2 ≤ m by omega), h2]
theorem sure_come_r (T : Has tab x) {n : Nat} (h : 6 ≤ n) {S : List Nat} {L : List (List Nat)} (hh : OkHall S L) {o q : D} (ho : HallD o S L) {row : List Nat} (hr : isRow L row) (hq : RowD q row) {g : Nat} (hg : g < L.length) : run tab n x.sure_come [o, q, .int g] = .rt false (.tup [hL S L, dN row, .int g]) [] := by
  obtain ⟨m, rfl⟩ : ∃ m, n = m + 1 := ⟨n - 1, by omega⟩
  rw [run_at T.sure_come]
  simp [D_sure_come, runDf, ev_var, putR, lim, sure_hall_d T (show 5 ≤ m by omega) hh ho, sure_hall_order_r T (show 4 ≤ m by omega) hh hr hq, sure_hall_guest_r T (show 3 ≤ m by omega) hg]
theorem less_row_r (T : Has tab x) {n : Nat} (h : 1 ≤ n) {row : List Nat} {g : Nat} : run tab n x.less_row [dN row, .int g] = .rt false (dN (rest row g)) [] := by
  obtain ⟨m, rfl⟩ : ∃ m, n = m + 1 := ⟨n - 1, by omega⟩
  rw [run_at T.less_row]
  have h6 : (compGo (turnC (run tab m) (.var 2) (.nm 2) [2] (.cmp .ne (.var 2) (.var 1))) (row.map nD) [] [.pu (dN row), .pu (.int g), .no]) = .ok ((rest row g).map nD) [.pu (dN row), .pu (.int g), .no] := by
    refine comp_filt fun a ha => ?_
    by_cases h8 : a = g <;> simp [turnC, ev_var, -eq_int, eq_ints, h8]
  simp [D_less_row, runDf, ev_var, h6]
  rfl
theorem put_in_r (T : Has tab x) {n : Nat} (h : 2 ≤ n) {row : List Nat} {g k : Nat} (hl : row.length ≤ 1000) : run tab n x.put_in [dN row, .int g, .int k] = .rt false (dN (insAt (rest row g) k g)) [] := by
  obtain ⟨m, rfl⟩ : ∃ m, n = m + 1 := ⟨n - 1, by omega⟩
  rw [run_at T.put_in]
  have h1 := less_row_r T (n := m) (by omega) (row := row) (g := g)
  have h2 : (rest row g).length ≤ 1000 := Nat.le_trans (List.length_filter_le ..) hl
  generalize rest row g = r at *
  have h3 : binD .add (.tup ((r.map nD).take k)) (.tup [.int g]) = _ := bin_addT (by simp; omega)
  have h4 : binD .add (.tup ((r.map nD).take k ++ [.int g])) (.tup ((r.map nD).drop k)) = _ := bin_addT (by simp; omega)
  have e1 : dN r = .tup (r.map nD) := rfl
  rw [e1] at h1
  have e2 : dN (insAt r k g) = .tup ((r.map nD).take k ++ [.int g] ++ (r.map nD).drop k) := by
    unfold dN insAt
    simp
  rw [e2]
  simp [-List.append_assoc, D_put_in, runDf, ev_var, putR, h1, lim, h3, h4]
end
end Lt.Hx
end
section
set_option maxRecDepth 100000
set_option maxHeartbeats 1000000
namespace Lt.Hx
open PySem
@[simp] theorem asg_tp {t : T} {l : List D} {e : Env} : asg (.tp t) (.tup l) e = asgs t l e := by unfold asg; rfl
@[simp] theorem asgs_nil {e : Env} : asgs .nil [] e = some e := by unfold asgs; rfl
@[simp] theorem asgs_cons {t u : T} {d : D} {l : List D} {e : Env} : asgs (.cons t u) (d :: l) e = match asg t d e with
    | some e1 => asgs u l e1
    | none => none := by rw [asgs] <;> rfl
/-- who moves when one stays away -/
def movs (S : List Nat) (L : List (List Nat)) (row : List Nat) (g : Nat) : List Nat := row.filter fun o => decide (o ≠ g) && decide (got S L row o ≠ got S L (rest row g) o)
def movedD (S : List Nat) (L : List (List Nat)) (row : List Nat) (g : Nat) : D := .tup ((movs S L row g).map fun o => .tup [nD o, oD (got S L (rest row g) o)])
def seatsD (S : List Nat) (L : List (List Nat)) (row : List Nat) (g : Nat) : D := .tup (if (got S L row g).isSome then ((g :: movs S L row g).filter fun o => (got S L row o).isSome).map fun o => oD (got S L row o) else [])
/-- the place in the list, or its length -/
def rankN (W : List Nat) : Option Nat → Nat
  | none => W.length
  | some p => W.findIdx fun q => decide (q = p)
def Among (W : List Nat) (a : Option Nat) : Prop := ∀ p, a = some p → p ∈ W
theorem idx_at {p : Nat} : ∀ {W : List Nat}, p ∈ W → (W.map nD).findIdx? (fun y => y.eqv (nD p)) = some (W.findIdx fun q => decide (q = p))
  | [], h => by cases h
  | a :: W, h => by
    rw [List.map_cons, List.findIdx?_cons, List.findIdx_cons, eqv_nD]
    by_cases e : a = p
    · simp [e]
    · rcases List.mem_cons.mp h with h | h
      · exact absurd h.symm e
      · have := idx_at h
        simp only [e, decide_false]
        rw [this]
        rfl
theorem eqOk_n {y : D} (hp : y.plain = true) (hd : y.depth = 0) {a : Option Nat} : eqOk y (oD a) = true := by
  unfold eqOk
  rw [hp, oD_plain, hd]
  rfl
theorem all_eqOk {W : List Nat} {a : Option Nat} : ((W.map nD).all fun y => eqOk y (oD a)) = true := by
  rw [List.all_map, List.all_eq_true]
  intro q _
  exact eqOk_n rfl rfl
theorem index_dN {W : List Nat} {p : Nat} (h : p ∈ W) : indexD (dN W) (.int p) = some (.v (.int (rankN W (some p)))) := by
  have h1 : ((W.map nD).all fun y => eqOk y (nD p)) = true := all_eqOk (a := some p)
  show (if (nD p).plain && (W.map nD).all (fun y => eqOk y (nD p)) then (match (W.map nD).findIdx? fun y => y.eqv (nD p) with
    | some j => some (R.v (.int j))
    | none => none) else none) = _
  rw [h1, idx_at h]
  rfl
theorem in_dN {W : List Nat} {a : Option Nat} : inD (oD a) (dN W) = some (decide (∃ p, a = some p ∧ p ∈ W)) := by
  show (if (oD a).plain && (W.map nD).all (fun y => eqOk y (oD a)) then some ((W.map nD).any fun y => y.eqv (oD a)) else none) = _
  rw [oD_plain, all_eqOk]
  simp only [Bool.and_self, if_true, Option.some.injEq]
  rw [Bool.eq_iff_iff, List.any_map, List.any_eq_true]
  have h1 : ∀ q : Nat, ((fun y => y.eqv (oD a)) ∘ nD) q = decide (some q = a) := fun q => eqv_oD (a := some q)
  simp only [h1, decide_eq_true_eq]
  constructor
  · rintro ⟨q, h, rfl⟩
    exact ⟨q, rfl, h⟩
  · rintro ⟨q, rfl, h⟩
    exact ⟨q, h, rfl⟩
theorem rest_lt {row : List Nat} {g m : Nat} (h : ∀ q ∈ row, q < m) : ∀ q ∈ rest row g, q < m := fun q hq => h q (List.mem_filter.mp hq).1
theorem insAt_lt {r : List Nat} {k g m : Nat} (h : ∀ q ∈ r, q < m) (hg : g < m) : ∀ q ∈ insAt r k g, q < m := fun q hq => by
  unfold insAt at hq
  simp at hq
  rcases hq with hq | rfl | hq
  · exact h q (List.mem_of_mem_take hq)
  · exact hg
  · exact h q (List.mem_of_mem_drop hq)
theorem isRow.lt {L : List (List Nat)} {row : List Nat} (h : isRow L row) : ∀ q ∈ row, q < L.length := fun q hq => List.mem_range.mp (h.mem_iff.mp hq)
theorem isRow.len {L : List (List Nat)} {row : List Nat} (h : isRow L row) : row.length = L.length := by
  have := h.length_eq
  simpa using this
theorem isRow.nodup {L : List (List Nat)} {row : List Nat} (h : isRow L row) : row.Nodup := h.nodup_iff.mpr List.nodup_range
/-- the lists with one told otherwise -/
def bent (L : List (List Nat)) (g : Nat) (W : List Nat) : List (List Nat) := L.take g ++ [W] ++ L.drop (g + 1)
theorem bent_len {L : List (List Nat)} {g : Nat} {W : List Nat} (h : g < L.length) : (bent L g W).length = L.length := by
  unfold bent
  simp
  omega
theorem bent_ok {S : List Nat} {L : List (List Nat)} (hh : OkHall S L) {g : Nat} (hg : g < L.length) {W : List Nat} (hW : OkList S.length W) : OkHall S (bent L g W) :=
  ⟨hh.ne, hh.pos, hh.small, by rw [bent_len hg]; exact hh.few, fun Q hQ => by
    unfold bent at hQ
    simp at hQ
    rcases hQ with hQ | rfl | hQ
    · exact hh.lists _ (List.mem_of_mem_take hQ)
    · exact hW
    · exact hh.lists _ (List.mem_of_mem_drop hQ)⟩
section
variable {tab : List Df} {x : Ix}
theorem moved_r (T : Has tab x) {n : Nat} (h : 3 ≤ n) {S : List Nat} {L : List (List Nat)} (hh : OkHall S L) {row : List Nat} (hr : ∀ q ∈ row, q < L.length) {g : Nat} : run tab n x.moved_in_hall [hL S L, dN row, .int g] = .rt false (movedD S L row g) [] := by
  obtain ⟨m, rfl⟩ : ∃ m, n = m + 1 := ⟨n - 1, by omega⟩
  rw [run_at T.moved_in_hall]
  have h6 : (compGo (turnC (run tab m) (.tup (.cons (.var 5) (.cons (.ix (.var 4) (.var 5)) .nil))) (.nm 5) [5] (.and (.cmp .ne (.var 5) (.var 2)) (.cmp .ne (.ix (.var 3) (.var 5)) (.ix (.var 4) (.var 5))))) (row.map nD) [] [.pu (hL S L), .pu (dN row), .pu (.int g), .pu (dealD S L row), .pu (dealD S L (rest row g)), .no]) = .ok ((movs S L row g).map fun o => .tup [nD o, oD (got S L (rest row g) o)]) [.pu (hL S L), .pu (dN row), .pu (.int g), .pu (dealD S L row), .pu (dealD S L (rest row g)), .no] := by
    refine comp_filt fun a ha => ?_
    have h1 := rowF_at (f := got S L row) (hr a ha)
    have h2 := rowF_at (f := got S L (rest row g)) (hr a ha)
    by_cases h8 : a = g
    · simp [-getElem?_pos, turnC, ev_var, -eq_int, eq_ints, h8]
    · by_cases h9 : got S L row a = got S L (rest row g) a <;> simp [-getElem?_pos, turnC, ev_var, -eq_int, eq_ints, h8, dealD, h1, h2, h9, lim]
  simp [D_moved_in_hall, runDf, ev_var, dealt_in_r T (show 2 ≤ m by omega) hh hr, less_row_r T (show 1 ≤ m by omega), dealt_in_r T (show 2 ≤ m by omega) hh (rest_lt hr), calmRs, putRs, putR, h6]
  rfl
theorem stays_way_r (T : Has tab x) {n : Nat} (h : 7 ≤ n) {S : List Nat} {L : List (List Nat)} (hh : OkHall S L) {o q : D} (ho : HallD o S L) {row : List Nat} (hr : isRow L row) (hq : RowD q row) {g : Nat} (hg : g < L.length) : run tab n x.stays_way [o, q, .int g] = .rt false (movedD S L row g) [] := by
  obtain ⟨m, rfl⟩ : ∃ m, n = m + 1 := ⟨n - 1, by omega⟩
  rw [run_at T.stays_way]
  simp [D_stays_way, runDf, ev_var, sure_come_r T (show 6 ≤ m by omega) hh ho hr hq hg, moved_r T (show 3 ≤ m by omega) hh hr.lt]
theorem seats_on_way_r (T : Has tab x) {n : Nat} (h : 7 ≤ n) {S : List Nat} {L : List (List Nat)} (hh : OkHall S L) {o q : D} (ho : HallD o S L) {row : List Nat} (hr : isRow L row) (hq : RowD q row) {g : Nat} (hg : g < L.length) : run tab n x.seats_on_way [o, q, .int g] = .rt false (seatsD S L row g) [] := by
  obtain ⟨m, rfl⟩ : ∃ m, n = m + 1 := ⟨n - 1, by omega⟩
  rw [run_at T.seats_on_way]
  have h1 := rowF_at (f := got S L row) hg
  have hlen : (movs S L row g).length ≤ 1000 := Nat.le_trans (List.length_filter_le ..) (by rw [hr.len]; exact hh.few)
  have hlt : ∀ a ∈ movs S L row g, a < L.length := fun a ha => hr.lt a (List.mem_filter.mp ha).1
  cases hgot : got S L row g with
  | none =>
    rw [hgot] at h1
    have h2 : seatsD S L row g = .tup [] := by simp [seatsD, hgot]
    rw [h2]
    simp at h1
    simp [-getElem?_pos, D_seats_on_way, runDf, ev_var, sure_come_r T (show 6 ≤ m by omega) hh ho hr hq hg, dealt_in_r T (show 2 ≤ m by omega) hh hr.lt, putR, dealD, h1, lim]
  | some p =>
    rw [hgot] at h1
    have h2 : seatsD S L row g = .tup (.int p :: ((movs S L row g).filter fun o => (got S L row o).isSome).map fun o => oD (got S L row o)) := by simp [seatsD, hgot]
    rw [h2]
    have c1 : ∀ v3 : Sl, (compGo (turnC (run tab m) (.var 8) (.tp (.cons (.nm 8) (.cons (.nm 9) .nil))) [8, 9] (.cst (.bl true))) ((movs S L row g).map fun o => D.tup [nD o, oD (got S L (rest row g) o)]) [] [.pu o, .pu q, .pu (.int g), .pu (dealD S L row), .no, .pu (hL S L), .pu (dN row), .pu (.int g), .no, .no]) = .ok ((movs S L row g).map nD) [.pu o, .pu q, .pu (.int g), .pu (dealD S L row), .no, .pu (hL S L), .pu (dN row), .pu (.int g), .no, .no] := fun _ => by
      refine comp_row fun a ha => ?_
      simp [turnC, ev_var]
    have c1 := c1 .no
    have c2 : (compGo (turnC (run tab m) (.ix (.var 3) (.var 8)) (.nm 8) [8] (.cmp .notn (.ix (.var 3) (.var 8)) (.cst .non))) ((movs S L row g).map nD) [] [.pu o, .pu q, .pu (.int g), .pu (dealD S L row), .pu (.lst ((movs S L row g).map nD)), .pu (hL S L), .pu (dN row), .pu (.int g), .no, .no]) = .ok (((movs S L row g).filter fun o => (got S L row o).isSome).map fun o => oD (got S L row o)) [.pu o, .pu q, .pu (.int g), .pu (dealD S L row), .pu (.lst ((movs S L row g).map nD)), .pu (hL S L), .pu (dN row), .pu (.int g), .no, .no] := by
      refine comp_filt fun a ha => ?_
      have h5 := rowF_at (f := got S L row) (hlt a ha)
      cases hga : got S L row a with
      | none =>
        rw [hga] at h5
        simp at h5
        simp [-getElem?_pos, turnC, ev_var, dealD, h5]
      | some p =>
        rw [hga] at h5
        simp at h5
        simp [-getElem?_pos, turnC, ev_var, dealD, h5, show cmpD .notn (.int p) .non = some true from rfl]
    have c3 : (((movs S L row g).filter fun o => (got S L row o).isSome)).length ≤ 1000 := Nat.le_trans (List.length_filter_le ..) hlen
    have c4 : ∀ l : List D, l.length ≤ 1000 → binD .add (.lst [.int p]) (.lst l) = some (.f (.lst (.int p :: l))) := fun l hl => by
      show (if [D.int p].length + l.length ≤ lim then some (R.f (.lst ([D.int p] ++ l))) else none) = _
      rw [if_pos (by unfold lim; simp; omega)]
      rfl
    have c5 := c4 (((movs S L row g).filter fun o => (got S L row o).isSome).map fun o => oD (got S L row o)) (by simpa using c3)
    simp only [dealD] at c1 c2
    simp at h1
    simp [-getElem?_pos, D_seats_on_way, runDf, ev_var, sure_come_r T (show 6 ≤ m by omega) hh ho hr hq hg, dealt_in_r T (show 2 ≤ m by omega) hh hr.lt, putR, dealD, h1, lim, moved_r T (show 3 ≤ m by omega) hh hr.lt, movedD, c1, c2, c5]
end
end Lt.Hx
end
section
set_option maxRecDepth 100000
set_option maxHeartbeats 1000000
namespace Lt.Hx
open PySem
@[simp] theorem it_pl2 {a b : D} : itD .pl [.tup [a, b]] = some [a, b] := rfl
theorem dN_at {W : List Nat} : dN W = .tup (W.map nD) := rfl
section
variable {tab : List Df} {x : Ix}
theorem rank_in_r (T : Has tab x) {n : Nat} (h : 1 ≤ n) {W : List Nat} {a : Option Nat} (ha : Among W a) : run tab n x.rank_in_list [dN W, oD a] = .rt false (.int (rankN W a)) [] := by
  obtain ⟨m, rfl⟩ : ∃ m, n = m + 1 := ⟨n - 1, by omega⟩
  rw [run_at T.rank_in_list]
  cases a with
  | none => simp [D_rank_in_list, runDf, ev_var, rankN]
  | some p =>
    have h1 := index_dN (ha p rfl)
    simp [-getElem?_pos, D_rank_in_list, runDf, ev_var, h1, show cmpD .isn (.int p) .non = some false from rfl]
theorem law_rank_r (T : Has tab x) {n : Nat} (h : 1 ≤ n) {W : List Nat} {a : Option Nat} (ha : Among W a) : run tab n x._law_rank [dN W, oD a] = .rt false (.int (rankN W a)) [] := by
  obtain ⟨m, rfl⟩ : ∃ m, n = m + 1 := ⟨n - 1, by omega⟩
  rw [run_at T._law_rank]
  cases a with
  | none => simp [D__law_rank, runDf, ev_var, rankN]
  | some p =>
    have h1 := index_dN (ha p rfl)
    simp [-getElem?_pos, D__law_rank, runDf, ev_var, h1, show cmpD .isn (.int p) .non = some false from rfl]
theorem got_at_r (T : Has tab x) {n : Nat} (h : 7 ≤ n) {S : List Nat} {L : List (List Nat)} (hh : OkHall S L) {o q : D} (ho : HallD o S L) {row : List Nat} (hr : isRow L row) (hq : RowD q row) {g k : Nat} (hg : g < L.length) (hk : k < L.length) : run tab n x.got_at [o, q, .int g, .int k] = .rt false (oD (got S L (insAt (rest row g) k g) g)) [] := by
  obtain ⟨m, rfl⟩ : ∃ m, n = m + 1 := ⟨n - 1, by omega⟩
  rw [run_at T.got_at]
  have h1 := rowF_at (f := got S L (insAt (rest row g) k g)) hg
  have h2 : (k : Int) ≤ (row.length : Int) - 1 := by rw [hr.len]; omega
  have h3 := dealt_in_r T (show 2 ≤ m by omega) hh (insAt_lt (rest_lt (g := g) hr.lt) hg (k := k))
  simp [-getElem?_pos, D_got_at, runDf, ev_var, sure_hall_d T (show 5 ≤ m by omega) hh ho, sure_hall_order_r T (show 4 ≤ m by omega) hh hr hq, is_number_r T (show 1 ≤ m by omega), sure_hall_guest_r T (show 3 ≤ m by omega) hg, is_within_r T (show 2 ≤ m by omega), h2, put_in_r T (show 2 ≤ m by omega) (show row.length ≤ 1000 by rw [hr.len]; exact hh.few), h3, dealD, h1, putR]
theorem got_all_r (T : Has tab x) {n : Nat} (h : 7 ≤ n) {S : List Nat} {L : List (List Nat)} (hh : OkHall S L) {o q : D} (ho : HallD o S L) {row : List Nat} (hr : isRow L row) (hq : RowD q row) {g : Nat} (hg : g < L.length) : run tab n x.got_all [o, q, .int g] = .rt false (.tup ((List.range L.length).map fun k => oD (got S L (insAt (rest row g) k g) g))) [] := by
  obtain ⟨m, rfl⟩ : ∃ m, n = m + 1 := ⟨n - 1, by omega⟩
  rw [run_at T.got_all]
  have c1 : (compGo (turnC (run tab m) (.ix (.call x.dealt_in [false, false] (.cons (.var 3) (.cons (.call x.put_in [false, false, false] (.cons (.var 4) (.cons (.var 5) (.cons (.var 6) .nil)))) .nil))) (.var 5)) (.nm 6) [6] (.cst (.bl true))) ((List.range row.length).map nD) [] [.pu o, .pu q, .pu (.int g), .pu (hL S L), .pu (dN row), .pu (.int g), .no]) = .ok ((List.range row.length).map fun k => oD (got S L (insAt (rest row g) k g) g)) [.pu o, .pu q, .pu (.int g), .pu (hL S L), .pu (dN row), .pu (.int g), .no] := by
    refine comp_row fun k hk => ?_
    have h1 := rowF_at (f := got S L (insAt (rest row g) k g)) hg
    have h3 := dealt_in_r T (show 2 ≤ m by omega) hh (insAt_lt (rest_lt (g := g) hr.lt) hg (k := k))
    simp [-getElem?_pos, turnC, ev_var, put_in_r T (show 2 ≤ m by omega) (show row.length ≤ 1000 by rw [hr.len]; exact hh.few), h3, dealD, h1]
  have h2 := it_rg1 (k := row.length) (by rw [hr.len]; exact hh.few)
  simp [-getElem?_pos, D_got_all, runDf, ev_var, sure_come_r T (show 6 ≤ m by omega) hh ho hr hq hg, h2, c1]
  rw [hr.len]
theorem got_with_r (T : Has tab x) {n : Nat} (h : 7 ≤ n) {S : List Nat} {L : List (List Nat)} (hh : OkHall S L) {o q r : D} (ho : HallD o S L) {row : List Nat} (hr : isRow L row) (hq : RowD q row) {g : Nat} (hg : g < L.length) {W : List Nat} (hW : OkList S.length W) (hw : RowD r W) : run tab n x.got_with [o, q, .int g, r] = .rt false (oD (got S (bent L g W) row g)) [] := by
  obtain ⟨m, rfl⟩ : ∃ m, n = m + 1 := ⟨n - 1, by omega⟩
  rw [run_at T.got_with]
  have hl := bent_len (W := W) hg
  have h1 := rowF_at (f := got S (bent L g W) row) (m := (bent L g W).length) (g := g) (by rw [hl]; exact hg)
  have h3 := dealt_in_r T (n := m) (show 2 ≤ m by omega) (bent_ok hh hg hW) (row := row) (by rw [hl]; exact hr.lt)
  have h4 := tupled_r T (n := m) hw.plain (Nat.lt_of_le_of_lt hw.depth (by omega))
  rw [hw.tup] at h4
  have h5 := is_list_of_r T (n := m) (by omega) hW hh.small
  have h6 := sure_hall_d T (n := m) (show 5 ≤ m by omega) hh ho
  have h7 := sure_hall_order_r T (n := m) (show 4 ≤ m by omega) hh hr hq
  have h8 := sure_hall_guest_r T (n := m) (S := S) (show 3 ≤ m by omega) hg
  have h9 : binD .add (.tup ((L.map dN).take g)) (.tup [dN W]) = _ := bin_addT (by have := hh.few; simp; omega)
  have h10 : binD .add (.tup ((L.map dN).take g ++ [dN W])) (.tup ((L.map dN).drop (g + 1))) = _ := bin_addT (by have := hh.few; simp; omega)
  have h11 : hL S (bent L g W) = .tup [dN S, .tup ((L.map dN).take g ++ [dN W] ++ (L.map dN).drop (g + 1))] := by
    unfold hL bent
    simp
  rw [h11] at h3
  unfold hL at h6 h7 h8
  have h12 : ((g : Int) + 1) = ((g + 1 : Nat) : Int) := by omega
  simp [-getElem?_pos, -List.append_assoc, -Int.natCast_add, D_got_with, runDf, ev_var, h6, h7, is_number_r T (show 1 ≤ m by omega), h4, h5, h8, h12, h9, h10, h3, dealD, h1, putR, lim]
theorem is_better_r (T : Has tab x) {n : Nat} (h : 7 ≤ n) {S : List Nat} {L : List (List Nat)} (hh : OkHall S L) {o : D} (ho : HallD o S L) {g : Nat} (hg : g < L.length) {a b : Option Nat} (ha : Among (wOf L g) a) (hb : Among (wOf L g) b) : run tab n x.is_better [o, .int g, oD a, oD b] = .rt false (.bl (decide (rankN (wOf L g) a < rankN (wOf L g) b))) [] := by
  obtain ⟨m, rfl⟩ : ∃ m, n = m + 1 := ⟨n - 1, by omega⟩
  rw [run_at T.is_better]
  have h6 := sure_hall_d T (n := m) (show 5 ≤ m by omega) hh ho
  have h8 := sure_hall_guest_r T (n := m) (S := S) (show 3 ≤ m by omega) hg
  have h1 := wOf_at hg
  have hn := fun i : Int => is_number_r T (n := m) (show 1 ≤ m by omega) (i := i)
  have hra := rank_in_r T (n := m) (show 1 ≤ m by omega) ha
  have hrb := rank_in_r T (n := m) (show 1 ≤ m by omega) hb
  have ia := in_dN (W := wOf L g) (a := a)
  have ib := in_dN (W := wOf L g) (a := b)
  unfold hL at h6 h8
  have hi : ∀ p : Nat, cmpD .isn (.int p) .non = some false := fun _ => rfl
  have hj : ∀ p : Nat, cmpD .notn (.int p) .non = some true := fun _ => rfl
  have hbs : ∀ p q : Bool, bltD .all [.lst [.bl p, .bl q]] = some (.v (.bl (p && q))) := fun p q => by cases p <;> cases q <;> rfl
  have hlt : ((rankN (wOf L g) a : Int) < (rankN (wOf L g) b : Int)) ↔ rankN (wOf L g) a < rankN (wOf L g) b := by omega
  cases a with
  | none =>
    cases b with
    | none =>
      simp at hra hrb
      simp [-getElem?_pos, D_is_better, runDf, ev_var, h6, h8, h1, hn, compGo, turnC, turnF, forGo, hra, hrb, hbs, putR, lim]
    | some q =>
      have hq : q ∈ wOf L g := hb q rfl
      simp [hq] at ib
      simp at hra hrb
      simp [-getElem?_pos, D_is_better, runDf, ev_var, h6, h8, h1, hn, compGo, turnC, turnF, forGo, hra, hrb, hbs, hi, hj, ib, putR, lim]
  | some p =>
    have hp : p ∈ wOf L g := ha p rfl
    simp [hp] at ia
    cases b with
    | none =>
      simp at hra hrb
      simp [-getElem?_pos, D_is_better, runDf, ev_var, h6, h8, h1, hn, compGo, turnC, turnF, forGo, hra, hrb, hbs, hi, hj, ia, putR, lim]
    | some q =>
      have hq : q ∈ wOf L g := hb q rfl
      simp [hq] at ib
      simp at hra hrb
      simp [-getElem?_pos, D_is_better, runDf, ev_var, h6, h8, h1, hn, compGo, turnC, turnF, forGo, hra, hrb, hbs, hi, hj, ia, ib, putR, lim]
end
end Lt.Hx
end
section
set_option maxRecDepth 100000
set_option maxHeartbeats 1000000
namespace Lt.Hx
/-! ### the mathematics of dealing in turn -/
theorem fl_cons {a : Nat} {W : List Nat} {s : Nat → Nat} : fl (a :: W) s = if 0 < s a then some a else fl W s := by
  unfold fl
  rw [List.find?_cons]
  by_cases h : 0 < s a <;> simp [h]
theorem fl_among {W : List Nat} {s : Nat → Nat} : Among W (fl W s) := fun _ h => List.mem_of_find?_eq_some h
theorem fl_pos {W : List Nat} {s : Nat → Nat} {p : Nat} (h : fl W s = some p) : 0 < s p := by
  unfold fl at h
  simpa using List.find?_some h
theorem rank_fl {s : Nat → Nat} : ∀ {W : List Nat}, rankN W (fl W s) = W.findIdx fun p => decide (0 < s p)
  | [] => rfl
  | a :: W => by
    have ih := rank_fl (s := s) (W := W)
    rw [fl_cons, List.findIdx_cons]
    by_cases h : 0 < s a
    · simp [h, rankN, List.findIdx_cons]
    · simp only [h, if_false, decide_false]
      cases hf : fl W s with
      | none =>
        rw [hf] at ih
        show (a :: W).length = _
        rw [List.length_cons]
        unfold rankN at ih
        simp only [ih]
        rfl
      | some p =>
        rw [hf] at ih
        have hp := fl_pos hf
        have hne : a ≠ p := fun e => h (e ▸ hp)
        have ih' : (W.findIdx fun q => decide (q = p)) = W.findIdx fun p => decide (0 < s p) := ih
        show ((a :: W).findIdx fun q => decide (q = p)) = _
        rw [List.findIdx_cons]
        simp only [hne, decide_false, ih']
theorem findIdx_mono {P Q : Nat → Bool} (h : ∀ p, P p = true → Q p = true) : ∀ {W : List Nat}, W.findIdx Q ≤ W.findIdx P
  | [] => Nat.le_refl _
  | a :: W => by
    have ih := findIdx_mono h (W := W)
    rw [List.findIdx_cons, List.findIdx_cons]
    cases hp : P a with
    | true => simp [h a hp]
    | false => cases hq : Q a <;> simp <;> omega
theorem fl_at {s : Nat → Nat} : ∀ {W : List Nat}, fl W s = W[W.findIdx fun p => decide (0 < s p)]?
  | [] => rfl
  | a :: W => by
    have ih := fl_at (s := s) (W := W)
    rw [fl_cons, List.findIdx_cons]
    by_cases h : 0 < s a
    · simp [h]
    · simp only [h, if_false, decide_false]
      rw [ih]
      simp
theorem fl_rank_inj {W : List Nat} {s t : Nat → Nat} (h : rankN W (fl W s) = rankN W (fl W t)) : fl W s = fl W t := by
  rw [rank_fl, rank_fl] at h
  rw [fl_at, fl_at, h]
theorem rank_mono {W : List Nat} {s t : Nat → Nat} (h : ∀ p, s p ≤ t p) : rankN W (fl W t) ≤ rankN W (fl W s) := by
  rw [rank_fl, rank_fl]
  exact findIdx_mono fun p hp => by
    have := h p
    simp at *
    omega
theorem rank_least {W : List Nat} {s : Nat → Nat} {p : Nat} (hp : 0 < s p) : rankN W (fl W s) ≤ rankN W (some p) := by
  rw [rank_fl]
  exact findIdx_mono fun q hq => by
    simp at *
    subst hq
    exact hp
theorem dec_le {s : Nat → Nat} {o : Option Nat} (p : Nat) : dec s o p ≤ s p := by
  cases o with
  | none => exact Nat.le_refl _
  | some q =>
    show (if p = q then s p - 1 else s p) ≤ s p
    split <;> omega
theorem aft_le {w : Nat → List Nat} : ∀ {row : List Nat} {s : Nat → Nat} (p : Nat), aft w row s p ≤ s p
  | [], _, _ => Nat.le_refl _
  | g :: row, s, p => Nat.le_trans (aft_le (row := row) p) (dec_le p)
theorem aft_append {w : Nat → List Nat} : ∀ {a b : List Nat} {s : Nat → Nat}, aft w (a ++ b) s = aft w b (aft w a s)
  | [], _, _ => rfl
  | g :: a, b, s => aft_append (a := a) (b := b)
theorem fnd_append {w : Nat → List Nat} : ∀ {a b : List Nat} {s : Nat → Nat} {f : Nat → Option Nat}, fnd w (a ++ b) s f = fnd w b (aft w a s) (fnd w a s f)
  | [], _, _, _ => rfl
  | g :: a, b, s, f => fnd_append (a := a) (b := b)
theorem fnd_not {w : Nat → List Nat} {g : Nat} : ∀ {b : List Nat} {s : Nat → Nat} {f : Nat → Option Nat}, g ∉ b → fnd w b s f g = f g
  | [], _, _, _ => rfl
  | q :: b, s, f, h => by
    have h1 : g ≠ q := fun e => h (e ▸ List.mem_cons_self ..)
    have h2 : g ∉ b := fun e => h (List.mem_cons_of_mem _ e)
    show fnd w b _ _ g = _
    rw [fnd_not h2]
    unfold upd
    rw [if_neg h1]
theorem fnd_at {w : Nat → List Nat} {a b : List Nat} {g : Nat} {s : Nat → Nat} {f : Nat → Option Nat} (h : g ∉ b) : fnd w (a ++ g :: b) s f g = fl (w g) (aft w a s) := by
  rw [fnd_append]
  show fnd w b _ _ g = _
  rw [fnd_not h]
  unfold upd
  rw [if_pos rfl]
theorem fnd_among {w : Nat → List Nat} : ∀ {row : List Nat} {s : Nat → Nat} {f : Nat → Option Nat}, (∀ g, Among (w g) (f g)) → ∀ g, Among (w g) (fnd w row s f g)
  | [], _, _, h => h
  | q :: row, s, f, h => fnd_among (row := row) fun g => by
    unfold upd
    by_cases e : g = q
    · rw [if_pos e, e]; exact fl_among
    · rw [if_neg e]; exact h g
theorem got_among {S : List Nat} {L : List (List Nat)} {row : List Nat} (g : Nat) : Among (wOf L g) (got S L row g) := fnd_among (fun _ _ h => by cases h) g
theorem aft_congr {w v : Nat → List Nat} : ∀ {row : List Nat} {s : Nat → Nat}, (∀ q ∈ row, w q = v q) → aft w row s = aft v row s
  | [], _, _ => rfl
  | q :: row, s, h => by
    show aft w row _ = aft v row _
    rw [h q (List.mem_cons_self ..)]
    exact aft_congr fun r hr => h r (List.mem_cons_of_mem _ hr)
/-! one stays away -/
def Rel (s t : Nat → Nat) : Prop := t = s ∨ ∃ q, t = fun p => if p = q then s p + 1 else s p
theorem Rel.le {s t : Nat → Nat} (h : Rel s t) (p : Nat) : s p ≤ t p := by
  rcases h with rfl | ⟨q, rfl⟩
  · exact Nat.le_refl _
  · show s p ≤ if p = q then s p + 1 else s p
    split <;> omega
theorem rel_dec {s : Nat → Nat} {o : Option Nat} (h : ∀ p, o = some p → 0 < s p) : Rel (dec s o) s := by
  cases o with
  | none => exact Or.inl rfl
  | some q =>
    refine Or.inr ⟨q, ?_⟩
    funext p
    have := h q rfl
    show s p = if p = q then (if p = q then s p - 1 else s p) + 1 else (if p = q then s p - 1 else s p)
    by_cases e : p = q
    · subst e; simp; omega
    · simp [e]
theorem fl_same {s : Nat → Nat} {q : Nat} : ∀ {W : List Nat}, fl W (fun p => if p = q then s p + 1 else s p) ≠ some q → fl W s = fl W (fun p => if p = q then s p + 1 else s p)
  | [], _ => rfl
  | a :: W, h => by
    rw [fl_cons] at h
    rw [fl_cons, fl_cons]
    by_cases e : a = q
    · subst e; simp at h
    · simp only [e, if_false] at h ⊢
      by_cases hs : 0 < s a
      · simp [hs]
      · simp only [hs, if_false] at h ⊢
        exact fl_same h
theorem rel_step {s t : Nat → Nat} (h : Rel s t) {W : List Nat} : Rel (dec s (fl W s)) (dec t (fl W t)) ∧ (fl W s ≠ fl W t → rankN W (fl W t) < rankN W (fl W s)) := by
  refine ⟨?_, fun hne => ?_⟩
  · rcases h with rfl | ⟨q, rfl⟩
    · exact Or.inl rfl
    · by_cases e : fl W (fun p => if p = q then s p + 1 else s p) = some q
      · have h1 : dec (fun p => if p = q then s p + 1 else s p) (some q) = s := by
          funext p
          show (if p = q then (if p = q then s p + 1 else s p) - 1 else (if p = q then s p + 1 else s p)) = s p
          by_cases e : p = q <;> simp [e]
        rw [e, h1]
        exact rel_dec fun p hp => fl_pos hp
      · rw [← fl_same e]
        rw [← fl_same e] at e
        cases ho : fl W s with
        | none => exact Or.inr ⟨q, rfl⟩
        | some p =>
          rw [ho] at e
          have hpq : p ≠ q := fun h => e (by rw [h])
          refine Or.inr ⟨q, ?_⟩
          funext r
          show (if r = p then (if r = q then s r + 1 else s r) - 1 else (if r = q then s r + 1 else s r)) = if r = q then (if r = p then s r - 1 else s r) + 1 else (if r = p then s r - 1 else s r)
          by_cases e1 : r = p
          · have : r ≠ q := fun h => hpq (e1.symm.trans h)
            simp [e1, hpq]
          · simp [e1]
  · have h1 := rank_mono (W := W) h.le
    rcases Nat.lt_or_ge (rankN W (fl W t)) (rankN W (fl W s)) with h2 | h2
    · exact h2
    · exact absurd (fl_rank_inj (Nat.le_antisymm h2 h1)) hne
theorem rel_path {w : Nat → List Nat} : ∀ {row : List Nat} {s t : Nat → Nat} {f h : Nat → Option Nat}, Rel s t → (∀ o, f o ≠ h o → rankN (w o) (h o) < rankN (w o) (f o)) →
    Rel (aft w row s) (aft w row t) ∧ ∀ o, fnd w row s f o ≠ fnd w row t h o → rankN (w o) (fnd w row t h o) < rankN (w o) (fnd w row s f o)
  | [], _, _, _, _, hr, hf => ⟨hr, hf⟩
  | g :: row, s, t, f, h, hr, hf => by
    obtain ⟨h1, h2⟩ := rel_step hr (W := w g)
    refine rel_path (row := row) h1 fun o ho => ?_
    unfold upd at ho ⊢
    by_cases e : o = g
    · subst e
      simp only [if_true] at ho ⊢
      exact h2 ho
    · simp only [e, if_false] at ho ⊢
      exact hf o ho
theorem rest_self {row : List Nat} {g : Nat} (h : g ∉ row) : rest row g = row := by
  unfold rest
  rw [List.filter_eq_self]
  intro a ha
  have : a ≠ g := fun e => h (e ▸ ha)
  simp [this]
theorem rest_split {a b : List Nat} {g : Nat} (ha : g ∉ a) (hb : g ∉ b) : rest (a ++ g :: b) g = a ++ b := by
  have h1 := rest_self ha
  have h2 := rest_self hb
  unfold rest at *
  rw [List.filter_append, h1, List.filter_cons, h2]
  simp
theorem split_at {row : List Nat} (hd : row.Nodup) {g : Nat} (hg : g ∈ row) : ∃ a b, row = a ++ g :: b ∧ g ∉ a ∧ g ∉ b := by
  obtain ⟨a, b, rfl⟩ := List.append_of_mem hg
  have h1 := List.nodup_append.mp hd
  obtain ⟨h2, h3, h4⟩ := h1
  exact ⟨a, b, rfl, fun e => h4 g e g (List.mem_cons_self ..) rfl, (List.nodup_cons.mp h3).1⟩
theorem rel_rest {w : Nat → List Nat} {row : List Nat} (hd : row.Nodup) {g : Nat} {s : Nat → Nat} {f : Nat → Option Nat} :
    Rel (aft w row s) (aft w (rest row g) s) ∧ ∀ o, o ≠ g → fnd w row s f o ≠ fnd w (rest row g) s f o → rankN (w o) (fnd w (rest row g) s f o) < rankN (w o) (fnd w row s f o) := by
  by_cases hg : g ∈ row
  · obtain ⟨a, b, rfl, ha, hb⟩ := split_at hd hg
    rw [rest_split ha hb, aft_append, aft_append, fnd_append, fnd_append]
    have h1 := rel_dec (s := aft w a s) (o := fl (w g) (aft w a s)) fun p hp => fl_pos hp
    refine ⟨(rel_path (w := w) (row := b) (f := f) (h := f) h1 fun o ho => absurd rfl ho).1, fun o hog ho => ?_⟩
    have h3 : ∀ (q : Nat → Option Nat), ∀ o, o ≠ g → (upd q g (fl (w g) (aft w a s))) o = q o := fun q o e => by unfold upd; rw [if_neg e]
    -- who comes after g
    have key : ∀ {b : List Nat} {s t : Nat → Nat} {f h : Nat → Option Nat}, Rel s t → (∀ o, o ≠ g → f o ≠ h o → rankN (w o) (h o) < rankN (w o) (f o)) → ∀ o, o ≠ g → fnd w b s f o ≠ fnd w b t h o → rankN (w o) (fnd w b t h o) < rankN (w o) (fnd w b s f o) := by
      intro b
      induction b with
      | nil => intro s t f h _ hf; exact hf
      | cons q b ih =>
        intro s t f h hr hf
        obtain ⟨k1, k2⟩ := rel_step hr (W := w q)
        refine ih k1 fun o hog ho => ?_
        unfold upd at ho ⊢
        by_cases e : o = q
        · subst e
          simp only [if_true] at ho ⊢
          exact k2 ho
        · simp only [e, if_false] at ho ⊢
          exact hf o hog ho
    exact key h1 (fun o hog ho => absurd (h3 _ o hog) ho) o hog ho
  · rw [rest_self hg]
    exact ⟨Or.inl rfl, fun o _ ho => absurd rfl ho⟩
/-! how many have a place -/
def cntF (m : Nat) (f : Nat → Option Nat) (j : Nat) : Nat := ((List.range m).filter fun o => decide (f o = some j)).length
theorem cnt_upd {m g j : Nat} {f : Nat → Option Nat} {o : Option Nat} (hg : g < m) (hf : f g = none) : cntF m (upd f g o) j = cntF m f j + if o = some j then 1 else 0 := by
  unfold cntF
  induction m with
  | zero => omega
  | succ m ih =>
    rw [List.range_succ, List.filter_append, List.filter_append, List.length_append, List.length_append]
    by_cases e : g = m
    · subst e
      have h1 : ((List.range g).filter fun q => decide (upd f g o q = some j)) = ((List.range g).filter fun q => decide (f q = some j)) := by
        apply List.filter_congr
        intro q hq
        have : q ≠ g := by have := List.mem_range.mp hq; omega
        unfold upd
        rw [if_neg this]
      have h2 : upd f g o g = o := by unfold upd; rw [if_pos rfl]
      rw [h1]
      simp only [List.filter_cons, List.filter_nil, h2, hf]
      by_cases h : o = some j <;> simp [h]
    · rw [ih (by omega)]
      have h2 : upd f g o m = f m := by unfold upd; rw [if_neg fun h => e h.symm]
      simp only [List.filter_cons, List.filter_nil, h2]
      omega
theorem dec_at {s : Nat → Nat} {o : Option Nat} (h : ∀ p, o = some p → 0 < s p) (j : Nat) : dec s o j + (if o = some j then 1 else 0) = s j := by
  cases o with
  | none => simp [dec]
  | some q =>
    have := h q rfl
    show (if j = q then s j - 1 else s j) + _ = _
    by_cases e : j = q
    · subst e; simp only [if_true]; omega
    · have : q ≠ j := fun h => e h.symm
      simp [e, this]
theorem cnt_go {w : Nat → List Nat} {m j : Nat} : ∀ {row : List Nat} {s : Nat → Nat} {f : Nat → Option Nat}, row.Nodup → (∀ o ∈ row, o < m ∧ f o = none) → cntF m (fnd w row s f) j + aft w row s j = cntF m f j + s j
  | [], _, _, _, _ => rfl
  | g :: row, s, f, hd, h => by
    obtain ⟨d1, d2⟩ := List.nodup_cons.mp hd
    obtain ⟨g1, g2⟩ := h g (List.mem_cons_self ..)
    have ih := cnt_go (w := w) (m := m) (j := j) (row := row) (s := dec s (fl (w g) s)) (f := upd f g (fl (w g) s)) d2 fun o ho => by
      obtain ⟨o1, o2⟩ := h o (List.mem_cons_of_mem _ ho)
      refine ⟨o1, ?_⟩
      unfold upd
      have : o ≠ g := fun e => d1 (e ▸ ho)
      rw [if_neg this, o2]
    have h1 := cnt_upd (o := fl (w g) s) (j := j) g1 g2
    have h2 := dec_at (s := s) (o := fl (w g) s) (fun p hp => fl_pos hp) j
    show cntF m (fnd w row (dec s (fl (w g) s)) (upd f g (fl (w g) s))) j + aft w row (dec s (fl (w g) s)) j = _
    rw [ih, h1]
    omega
theorem sum_one {q : Nat} : ∀ {K : Nat}, ((List.range K).map fun j => if j = q then (1 : Int) else 0).sum = if q < K then 1 else 0
  | 0 => by simp
  | K + 1 => by
    rw [List.range_succ, List.map_append, List.sum_append, sum_one]
    by_cases h : K = q
    · subst h; simp
    · by_cases h2 : q < K
      · have : q < K + 1 := by omega
        simp [h, h2, this]
      · have : ¬ q < K + 1 := by omega
        simp [h, h2, this]
end Lt.Hx
end
section
set_option maxRecDepth 100000
set_option maxHeartbeats 1000000
namespace Lt.Hx
open PySem
theorem ints_map {α : Type} {f : α → Int} : ∀ {l : List α}, intz (l.map fun a => D.int (f a)) = some (l.map f)
  | [] => rfl
  | a :: l => by
    show (intz (l.map fun a => D.int (f a))).map (f a :: ·) = _
    rw [ints_map]
    rfl
theorem least_ge {z : Int} : ∀ {l : List Int} {m : Int}, z ≤ m → (∀ a ∈ l, z ≤ a) → z ≤ least m l
  | [], _, h, _ => h
  | x :: l, m, h, hl => by
    refine least_ge (l := l) ?_ fun a ha => hl a (List.mem_cons_of_mem _ ha)
    have := hl x (List.mem_cons_self ..)
    split <;> assumption
theorem min1_ok {α : Type} {f : α → Int} {l : List α} (hl : l ≠ []) (h : ∀ a ∈ l, 0 ≤ f a) : ∃ v : Int, bltD .min1 [.lst (l.map fun a => .int (f a))] = some (.v (.int v)) ∧ 0 ≤ v := by
  cases l with
  | nil => exact absurd rfl hl
  | cons a l =>
    refine ⟨least (f a) (l.map f), ?_, least_ge (h a (List.mem_cons_self ..)) fun x hx => ?_⟩
    · have h1 := ints_map (f := f) (l := a :: l)
      show (match intz ((a :: l).map fun a => .int (f a)) with
        | some (x :: r) => some (R.v (.int (least x r)))
        | _ => none) = _
      rw [h1]
      rfl
    · obtain ⟨b, hb, rfl⟩ := List.mem_map.mp hx
      exact h b (List.mem_cons_of_mem _ hb)
theorem sum_map {α : Type} {f : α → Int} {l : List α} : bltD .sum [.lst (l.map fun a => .int (f a))] = some (.v (.int (l.map f).sum)) := by
  show ((intz (l.map fun a => .int (f a))).map fun is => R.v (.int is.sum)) = _
  rw [ints_map]
  rfl
@[simp] theorem eq_oI {a : Option Nat} {j : Nat} : eqD (oD a) (.int j) = some (decide (a = some j)) := eq_oD (b := some j)
def gap (S : List Nat) (L : List (List Nat)) (row : List Nat) (g j : Nat) : Int := (cntF L.length (got S L row) j : Int) - (cntF L.length (got S L (rest row g)) j : Int)
theorem gap_eq {S : List Nat} {L : List (List Nat)} {row : List Nat} (hd : row.Nodup) (hr : ∀ q ∈ row, q < L.length) (g j : Nat) :
    gap S L row g j = (aft (wOf L) (rest row g) (sOf S) j : Int) - aft (wOf L) row (sOf S) j := by
  have h1 := cnt_go (w := wOf L) (m := L.length) (j := j) (row := row) (s := sOf S) (f := fun _ => none) hd fun o ho => ⟨hr o ho, rfl⟩
  have h2 := cnt_go (w := wOf L) (m := L.length) (j := j) (row := rest row g) (s := sOf S) (f := fun _ => none) (hd.filter _) fun o ho => ⟨rest_lt hr o ho, rfl⟩
  unfold gap got
  omega
theorem gap_fact {S : List Nat} {L : List (List Nat)} {row : List Nat} (hd : row.Nodup) (hr : ∀ q ∈ row, q < L.length) (g : Nat) :
    (∀ j, 0 ≤ gap S L row g j) ∧ ∀ K, ((List.range K).map (gap S L row g)).sum ≤ 1 := by
  have h := (rel_rest (w := wOf L) hd (g := g) (s := sOf S) (f := fun _ => none)).1
  refine ⟨fun j => by have := h.le j; rw [gap_eq hd hr]; omega, fun K => ?_⟩
  rcases h with h | ⟨q, h⟩
  · have h1 : gap S L row g = fun _ => 0 := by funext j; rw [gap_eq hd hr, h]; omega
    rw [h1]
    have : ∀ K : Nat, ((List.range K).map fun _ => (0 : Int)).sum = 0 := fun K => by
      induction K with
      | zero => rfl
      | succ K ih => rw [List.range_succ, List.map_append, List.sum_append, ih]; rfl
    rw [this]
    omega
  · have h1 : gap S L row g = fun j => if j = q then (1 : Int) else 0 := by
      funext j
      rw [gap_eq hd hr, h]
      show (((if j = q then aft (wOf L) row (sOf S) j + 1 else aft (wOf L) row (sOf S) j : Nat) : Int)) - _ = _
      by_cases e : j = q <;> simp [e] <;> omega
    rw [h1, sum_one]
    split <;> omega
section
variable {tab : List Df} {x : Ix}
theorem cnt_comp {C : Calls} {m : Nat} {f : Nat → Option Nat} {j : Nat} {s0 s1 s2 s3 s4 s5 s6 s7 s8 s9 s10 s11 s12 s13 : Sl} :
    compGo (turnC C (.cst (.int 1)) (.nm 14) [14] (.cmp .eq (.var 14) (.var 15))) (rowF m f) [] [s0, s1, s2, s3, s4, s5, s6, s7, s8, s9, s10, s11, s12, s13, .no, .pu (.int j)]
      = .ok (((List.range m).filter fun o => decide (f o = some j)).map fun _ => D.int 1) [s0, s1, s2, s3, s4, s5, s6, s7, s8, s9, s10, s11, s12, s13, .no, .pu (.int j)] := by
  unfold rowF
  refine comp_filt fun a ha => ?_
  by_cases h : f a = some j <;> simp [turnC, ev_var, h]
def gapE : E := .comp (.bin .sub (.blt .len (.cons (.comp (.cst (.int 1)) (.nm 14) [14] .pl (.cons (.var 11) .nil) (.cmp .eq (.var 14) (.var 15))) .nil)) (.blt .len (.cons (.comp (.cst (.int 1)) (.nm 14) [14] .pl (.cons (.var 12) .nil) (.cmp .eq (.var 14) (.var 15))) .nil))) (.nm 15) [15] .rg1 (.cons (.blt .len (.cons (.ix (.var 0) (.cst (.int 0))) .nil)) .nil) (.cst (.bl true))
theorem gap_ev {C : Calls} {S : List Nat} {L : List (List Nat)} {row : List Nat} {g : Nat} {s1 s2 s3 s4 s5 s6 s7 s8 s9 s10 s13 : Sl} (hK : S.length ≤ 1000) :
    ev C gapE [.pu (hL S L), s1, s2, s3, s4, s5, s6, s7, s8, s9, s10, .pu (dealD S L row), .pu (dealD S L (rest row g)), s13, .no, .no]
      = .ok (.f (.lst ((List.range S.length).map fun j => .int (gap S L row g j)))) [.pu (hL S L), s1, s2, s3, s4, s5, s6, s7, s8, s9, s10, .pu (dealD S L row), .pu (dealD S L (rest row g)), s13, .no, .no] := by
  have c1 : compGo (turnC C (.bin .sub (.blt .len (.cons (.comp (.cst (.int 1)) (.nm 14) [14] .pl (.cons (.var 11) .nil) (.cmp .eq (.var 14) (.var 15))) .nil)) (.blt .len (.cons (.comp (.cst (.int 1)) (.nm 14) [14] .pl (.cons (.var 12) .nil) (.cmp .eq (.var 14) (.var 15))) .nil))) (.nm 15) [15] (.cst (.bl true))) ((List.range S.length).map nD) [] [.pu (hL S L), s1, s2, s3, s4, s5, s6, s7, s8, s9, s10, .pu (dealD S L row), .pu (dealD S L (rest row g)), s13, .no, .no]
      = .ok ((List.range S.length).map fun j => .int (gap S L row g j)) [.pu (hL S L), s1, s2, s3, s4, s5, s6, s7, s8, s9, s10, .pu (dealD S L row), .pu (dealD S L (rest row g)), s13, .no, .no] := by
    refine comp_row fun j hj => ?_
    simp [-getElem?_pos, turnC, ev_var, dealD, cnt_comp]
    rfl
  have i1 := it_rg1 hK
  simp [-getElem?_pos, gapE, ev_var, hL, i1]
  simp [hL] at c1
  simp [c1]
def gapS : S := .cons (.set 13 false gapE)
  (.cons (.ite (.or (.cmp .lt (.blt .min1 (.cons (.var 13) .nil)) (.cst (.int 0))) (.cmp .gt (.blt .sum (.cons (.var 13) .nil)) (.cst (.int 1)))) (.cons (.ret (.cst (.bl false)))
  .nil) .nil)
  .nil)
theorem gapS_es {C : Calls} {S : List Nat} {L : List (List Nat)} {row : List Nat} {g : Nat} (hh : OkHall S L) (hd : row.Nodup) (hr : ∀ q ∈ row, q < L.length) {s1 s2 s3 s4 s5 s6 s7 s8 s9 s10 s13 : Sl} : ∃ v,
    es C gapS [.pu (hL S L), s1, s2, s3, s4, s5, s6, s7, s8, s9, s10, .pu (dealD S L row), .pu (dealD S L (rest row g)), s13, .no, .no]
      = .nx [.pu (hL S L), s1, s2, s3, s4, s5, s6, s7, s8, s9, s10, .pu (dealD S L row), .pu (dealD S L (rest row g)), v, .no, .no] := by
  obtain ⟨f1, f2⟩ := gap_fact (S := S) hd hr g
  have hne : List.range S.length ≠ [] := fun e => by
    have := congrArg List.length e
    simp at this
    exact hh.ne this
  obtain ⟨z, m1, m2⟩ := min1_ok (f := gap S L row g) hne fun a _ => f1 a
  have m3 := sum_map (f := gap S L row g) (l := List.range S.length)
  have m4 := f2 S.length
  have m5 : ¬ z < 0 := by omega
  have m6 : ¬ 1 < ((List.range S.length).map (gap S L row g)).sum := by omega
  exact ⟨_, by simp [gapS, gap_ev hh.small, ev_var, putR, m1, m3, m5, m6]; rfl⟩
theorem stay_turn (T : Has tab x) {n : Nat} (h : 1 ≤ n) {S : List Nat} {L : List (List Nat)} (hh : OkHall S L) {row : List Nat} (hr : isRow L row) {g k : Nat} {s3 s4 s5 s6 s7 s8 s9 s10 s11 s12 s13 : Sl} : ∃ v11 v12 v13,
    turnF (run tab n) (.nm 6) (.cons (.set 11 false (.call x._law_run [false, false] (.cons (.var 0) (.cons (.sl (.var 1) (.cst .non) (.var 6)) .nil))))
  (.cons (.set 12 false (.call x._law_run [false, false] (.cons (.var 0) (.cons (.comp (.var 14) (.nm 14) [14] .pl (.cons (.sl (.var 1) (.cst .non) (.var 6)) .nil) (.cmp .ne (.var 14) (.var 2))) .nil)))) gapS)) (nD k) [.pu (hL S L), .pu (dN row), .pu (.int g), s3, s4, s5, s6, s7, s8, s9, s10, s11, s12, s13, .no, .no]
      = .nx [.pu (hL S L), .pu (dN row), .pu (.int g), s3, s4, s5, .pu (.int k), s7, s8, s9, s10, v11, v12, v13, .no, .no] := by
  have hd : (row.take k).Nodup := hr.nodup.sublist (List.take_sublist ..)
  have hlt : ∀ q ∈ row.take k, q < L.length := fun q hq => hr.lt q (List.mem_of_mem_take hq)
  obtain ⟨v, hv⟩ := gapS_es (C := run tab n) (g := g) hh hd hlt (s1 := .pu (dN row)) (s2 := .pu (.int g)) (s3 := s3) (s4 := s4) (s5 := s5) (s6 := .pu (.int k)) (s7 := s7) (s8 := s8) (s9 := s9) (s10 := s10) (s13 := s13)
  refine ⟨.pu (dealD S L (row.take k)), .pu (dealD S L (rest (row.take k) g)), v, ?_⟩
  have h1 := law_run_r T h hh hlt hd (r := .tup ((row.map nD).take k)) (by rw [← List.map_take]; rfl)
  have h2 := law_run_r T h hh (rest_lt (g := g) hlt) (hd.filter _) (r := .lst ((rest (row.take k) g).map nD)) rfl
  have c1 : compGo (turnC (run tab n) (.var 14) (.nm 14) [14] (.cmp .ne (.var 14) (.var 2))) ((row.map nD).take k) [] [.pu (hL S L), .pu (dN row), .pu (.int g), s3, s4, s5, .pu (.int k), s7, s8, s9, s10, .pu (dealD S L (row.take k)), s12, s13, .no, .no]
      = .ok ((rest (row.take k) g).map nD) [.pu (hL S L), .pu (dN row), .pu (.int g), s3, s4, s5, .pu (.int k), s7, s8, s9, s10, .pu (dealD S L (row.take k)), s12, s13, .no, .no] := by
    rw [← List.map_take]
    refine comp_filt fun a ha => ?_
    by_cases h8 : a = g <;> simp [turnC, ev_var, -eq_int, eq_ints, h8]
  simp only [dN] at *
  simp [turnF, ev_var, putR, h1, c1, h2, hv, -List.map_take]
end
end Lt.Hx
end
section
set_option maxRecDepth 100000
set_option maxHeartbeats 1000000
namespace Lt.Hx
open PySem
@[simp] theorem ix_h0 {S : List Nat} {L : List (List Nat)} : ixD (hL S L) (.int 0) = some (dN S) := rfl
@[simp] theorem ix_h1 {S : List Nat} {L : List (List Nat)} : ixD (hL S L) (.int 1) = some (.tup (L.map dN)) := rfl
theorem movs_rest {S : List Nat} {L : List (List Nat)} {row : List Nat} {g : Nat} : ((rest row g).filter fun o => decide (got S L row o ≠ got S L (rest row g) o)) = movs S L row g := by
  unfold movs
  conv => lhs; arg 2; unfold rest
  rw [List.filter_filter]
  apply List.filter_congr
  intro a _
  exact Bool.and_comm ..
theorem moved_fact {S : List Nat} {L : List (List Nat)} {row : List Nat} (hd : row.Nodup) {g o : Nat} (ho : o ∈ movs S L row g) : rankN (wOf L o) (got S L (rest row g) o) < rankN (wOf L o) (got S L row o) := by
  have h := (List.mem_filter.mp ho).2
  simp only [Bool.and_eq_true, decide_eq_true_eq] at h
  exact (rel_rest (w := wOf L) hd (g := g) (s := sOf S) (f := fun _ => none)).2 o h.1 h.2
theorem rowF_plain {m : Nat} {f : Nat → Option Nat} : D.plains (rowF m f) = true := plains_all fun d hd => by
  obtain ⟨k, _, rfl⟩ := List.mem_map.mp hd
  exact oD_plain
theorem movedD_plain {S : List Nat} {L : List (List Nat)} {row : List Nat} {g : Nat} : (movedD S L row g).plain = true := plains_all fun d hd => by
  obtain ⟨k, _, rfl⟩ := List.mem_map.mp hd
  show (true && ((oD _).plain && true)) = true
  rw [oD_plain]
  rfl
theorem movedD_depth {S : List Nat} {L : List (List Nat)} {row : List Nat} {g : Nat} : (movedD S L row g).depth ≤ 3 := Nat.succ_le_succ (depths_le fun d hd => by
  obtain ⟨k, _, rfl⟩ := List.mem_map.mp hd
  refine Nat.succ_le_succ (depths_le fun d hd => ?_)
  rcases List.mem_cons.mp hd with rfl | hd
  · exact Nat.zero_le _
  · rw [List.mem_singleton.mp hd, oD_depth]
    exact Nat.zero_le _)
theorem seatsD_plain {S : List Nat} {L : List (List Nat)} {row : List Nat} {g : Nat} : (seatsD S L row g).plain = true := plains_all fun d hd => by
  split at hd
  · obtain ⟨k, _, rfl⟩ := List.mem_map.mp hd
    exact oD_plain
  · cases hd
theorem seatsD_depth {S : List Nat} {L : List (List Nat)} {row : List Nat} {g : Nat} : (seatsD S L row g).depth ≤ 1 := Nat.succ_le_succ (depths_le fun d hd => by
  split at hd
  · obtain ⟨k, _, rfl⟩ := List.mem_map.mp hd
    rw [oD_depth]
    exact Nat.zero_le _
  · cases hd)
section
variable {tab : List Df} {x : Ix}
theorem stay_go (T : Has tab x) {n : Nat} (h : 1 ≤ n) {S : List Nat} {L : List (List Nat)} (hh : OkHall S L) {row : List Nat} (hr : isRow L row) {g : Nat} {s3 s4 s5 s7 s8 s9 s10 : Sl} : ∀ {ks : List Nat} {s6 s11 s12 s13 : Sl}, ∃ v6 v11 v12 v13,
    forGo (turnF (run tab n) (.nm 6) (.cons (.set 11 false (.call x._law_run [false, false] (.cons (.var 0) (.cons (.sl (.var 1) (.cst .non) (.var 6)) .nil))))
  (.cons (.set 12 false (.call x._law_run [false, false] (.cons (.var 0) (.cons (.comp (.var 14) (.nm 14) [14] .pl (.cons (.sl (.var 1) (.cst .non) (.var 6)) .nil) (.cmp .ne (.var 14) (.var 2))) .nil)))) gapS))) (ks.map nD) [.pu (hL S L), .pu (dN row), .pu (.int g), s3, s4, s5, s6, s7, s8, s9, s10, s11, s12, s13, .no, .no]
      = .nx [.pu (hL S L), .pu (dN row), .pu (.int g), s3, s4, s5, v6, s7, s8, s9, s10, v11, v12, v13, .no, .no]
  | [], s6, s11, s12, s13 => ⟨s6, s11, s12, s13, rfl⟩
  | k :: ks, s6, s11, s12, s13 => by
    obtain ⟨a, b, c, e1⟩ := stay_turn T h hh hr (g := g) (k := k) (s3 := s3) (s4 := s4) (s5 := s5) (s6 := s6) (s7 := s7) (s8 := s8) (s9 := s9) (s10 := s10) (s11 := s11) (s12 := s12) (s13 := s13)
    obtain ⟨v6, a2, b2, c2, e2⟩ := stay_go T h hh hr (g := g) (s3 := s3) (s4 := s4) (s5 := s5) (s7 := s7) (s8 := s8) (s9 := s9) (s10 := s10) (ks := ks) (s6 := .pu (.int k)) (s11 := a) (s12 := b) (s13 := c)
    refine ⟨v6, a2, b2, c2, ?_⟩
    rw [List.map_cons]
    unfold forGo
    rw [e1]
    exact e2
theorem es_for_pl {C : Calls} {t : T} {k : It} {it : E} {b : S} {e e2 : Env} {d : D} {xs : List D} (h1 : evl C it e = .ok [.v d] e) (h3 : itD k [d] = some xs) (h5 : forGo (turnF C t b) xs e = .nx e2) : es C (.for t k it b) e = .nx e2 := by
  rw [es_for, h1]
  show (match itD k [d] with
    | some xs => (forGo (turnF C t b) xs e).unl []
    | none => .st) = _
  rw [h3]
  show (forGo (turnF C t b) xs e).unl [] = _
  rw [h5]
  rfl
theorem es_go {C : Calls} {s r : S} {e e1 : Env} (h : es C s e = .nx e1) : es C (.cons s r) e = es C r e1 := by rw [es_cons, h]; rfl
theorem it_rg {k : Nat} (h : k ≤ 10000) : itD .rg1 [.int k] = some ((List.range k).map nD) := by
  show (if (k : Int) ≤ 16777216 ∧ -16777216 ≤ (k : Int) then some ((List.range (k : Int).toNat).map fun (k : Nat) => D.int k) else none) = _
  rw [if_pos ⟨by omega, by omega⟩]
  rfl
theorem law_stay_r (T : Has tab x) {n : Nat} (h : 9 ≤ n) {S : List Nat} {L : List (List Nat)} (hh : OkHall S L) {row : List Nat} (hr : isRow L row) {g : Nat} (hg : g < L.length) : run tab n x._law_stay_right [hL S L, dN row, .int g] = .rt false (.bl true) [] := by
  obtain ⟨m, rfl⟩ : ∃ m, n = m + 1 := ⟨n - 1, by omega⟩
  rw [run_at T._law_stay_right]
  have l1 : run tab m x._law_lists [hL S L] = .rt true (softD S L) [] := lists_r T hL_plain (Nat.lt_of_le_of_lt hL_depth (by omega))
  have r1 := law_run_r T (n := m) (by omega) hh hr.lt hr.nodup (r := dN row) rfl
  have r2 := law_run_r T (n := m) (by omega) hh (rest_lt (g := g) hr.lt) (hr.nodup.filter _) (r := dN (rest row g)) rfl
  have q1 := stays_way_r T (n := m) (by omega) hh (Or.inr rfl) hr (Or.inr rfl) hg
  have q2 := seats_on_way_r T (n := m) (by omega) hh (Or.inl rfl) hr (Or.inr rfl) hg
  have hmlt : ∀ o ∈ movs S L row g, o < L.length := fun o ho => hr.lt o (List.mem_filter.mp ho).1
  have hml : (movs S L row g).length ≤ 1000 := Nat.le_trans (List.length_filter_le ..) (by rw [hr.len]; exact hh.few)
  -- the comprehensions
  have c1 : compGo (turnC (run tab m) (.var 14) (.nm 14) [14] (.cmp .ne (.var 14) (.var 2))) (row.map nD) [] [.pu (hL S L), .pu (dN row), .pu (.int g), .no, .no, .no, .no, .no, .no, .no, .no, .no, .no, .no, .no, .no]
      = .ok ((rest row g).map nD) [.pu (hL S L), .pu (dN row), .pu (.int g), .no, .no, .no, .no, .no, .no, .no, .no, .no, .no, .no, .no, .no] := by
    refine comp_filt fun a ha => ?_
    by_cases h8 : a = g <;> simp [turnC, ev_var, -eq_int, eq_ints, h8]
  have c3 : compGo (turnC (run tab m) (.var 14) (.nm 14) [14] (.cmp .ne (.ix (.var 9) (.var 14)) (.ix (.var 10) (.var 14)))) ((rest row g).map nD) [] [.pu (hL S L), .pu (dN row), .pu (.int g), .no, .no, .no, .no, .pu (softD S L), .pu (dN (rest row g)), .pu (dealD S L row), .pu (dealD S L (rest row g)), .no, .no, .no, .no, .no]
      = .ok ((movs S L row g).map nD) [.pu (hL S L), .pu (dN row), .pu (.int g), .no, .no, .no, .no, .pu (softD S L), .pu (dN (rest row g)), .pu (dealD S L row), .pu (dealD S L (rest row g)), .no, .no, .no, .no, .no] := by
    rw [← movs_rest]
    refine comp_filt fun a ha => ?_
    have h1 := rowF_at (f := got S L row) (rest_lt hr.lt a ha)
    have h2 := rowF_at (f := got S L (rest row g)) (rest_lt hr.lt a ha)
    by_cases h9 : got S L row a = got S L (rest row g) a <;> simp [-getElem?_pos, turnC, ev_var, dealD, h1, h2, h9]
  have c4 : ∀ w : Sl, compGo (turnC (run tab m) (.cst (.int 1)) (.nm 14) [14] (.cmp .ge (.call x._law_rank [false, false] (.cons (.ix (.ix (.var 0) (.cst (.int 1))) (.var 14)) (.cons (.ix (.var 10) (.var 14)) .nil))) (.call x._law_rank [false, false] (.cons (.ix (.ix (.var 0) (.cst (.int 1))) (.var 14)) (.cons (.ix (.var 9) (.var 14)) .nil))))) ((movs S L row g).map nD) [] [.pu (hL S L), .pu (dN row), .pu (.int g), .pu (.lst ((movs S L row g).map nD)), .no, .no, .no, .pu (softD S L), .pu (dN (rest row g)), .pu (dealD S L row), .pu (dealD S L (rest row g)), .no, .no, .no, .no, .no]
      = .ok [] [.pu (hL S L), .pu (dN row), .pu (.int g), .pu (.lst ((movs S L row g).map nD)), .no, .no, .no, .pu (softD S L), .pu (dN (rest row g)), .pu (dealD S L row), .pu (dealD S L (rest row g)), .no, .no, .no, .no, .no] := fun _ => by
    refine (comp_filt (p := fun _ => false) (g := fun _ => D.int 1) fun a ha => ?_).trans (by simp)
    have h1 := rowF_at (f := got S L row) (hmlt a ha)
    have h2 := rowF_at (f := got S L (rest row g)) (hmlt a ha)
    have h3 := wOf_at (hmlt a ha)
    have h4 := law_rank_r T (n := m) (by omega) (got_among (S := S) (L := L) (row := row) a)
    have h5 := law_rank_r T (n := m) (by omega) (got_among (S := S) (L := L) (row := rest row g) a)
    have h6 := moved_fact hr.nodup ha
    have h7 : ¬ ((rankN (wOf L a) (got S L row a) : Int) ≤ rankN (wOf L a) (got S L (rest row g) a)) := by omega
    simp [-getElem?_pos, turnC, ev_var, dealD, h1, h2, h3, h4, h5, h7]
  have c4 := c4 .no
  have c5 : ∀ w : Sl, compGo (turnC (run tab m) (.ix (.var 9) (.var 14)) (.nm 14) [14] (.cmp .notn (.ix (.var 9) (.var 14)) (.cst .non))) (D.int g :: (movs S L row g).map nD) [] [.pu (hL S L), .pu (dN row), .pu (.int g), .pu (.lst ((movs S L row g).map nD)), .no, .no, .no, .pu (softD S L), .pu (dN (rest row g)), .pu (dealD S L row), .pu (dealD S L (rest row g)), .no, .no, .no, .no, .no]
      = .ok (((g :: movs S L row g).filter fun o => (got S L row o).isSome).map fun o => oD (got S L row o)) [.pu (hL S L), .pu (dN row), .pu (.int g), .pu (.lst ((movs S L row g).map nD)), .no, .no, .no, .pu (softD S L), .pu (dN (rest row g)), .pu (dealD S L row), .pu (dealD S L (rest row g)), .no, .no, .no, .no, .no] := fun _ => by
    refine comp_filt (l := g :: movs S L row g) (enc := nD) fun a ha => ?_
    have halt : a < L.length := by
      rcases List.mem_cons.mp ha with rfl | ha
      · exact hg
      · exact hmlt a ha
    have h5 := rowF_at (f := got S L row) halt
    cases hga : got S L row a with
    | none =>
      rw [hga] at h5
      simp at h5
      simp [-getElem?_pos, turnC, ev_var, dealD, h5]
    | some p =>
      rw [hga] at h5
      simp at h5
      simp [-getElem?_pos, turnC, ev_var, dealD, h5, show cmpD .notn (.int p) .non = some true from rfl]
  have c5 := c5 .no
  have c7 : ∀ s4 s5 : Sl, compGo (turnC (run tab m) (.tup (.cons (.var 14) (.cons (.ix (.var 10) (.var 14)) .nil))) (.nm 14) [14] (.cst (.bl true))) ((movs S L row g).map nD) [] [.pu (hL S L), .pu (dN row), .pu (.int g), .pu (.lst ((movs S L row g).map nD)), s4, s5, .no, .pu (softD S L), .pu (dN (rest row g)), .pu (dealD S L row), .pu (dealD S L (rest row g)), .no, .no, .no, .no, .no]
      = .ok ((movs S L row g).map fun o => .tup [nD o, oD (got S L (rest row g) o)]) [.pu (hL S L), .pu (dN row), .pu (.int g), .pu (.lst ((movs S L row g).map nD)), s4, s5, .no, .pu (softD S L), .pu (dN (rest row g)), .pu (dealD S L row), .pu (dealD S L (rest row g)), .no, .no, .no, .no, .no] := fun _ _ => by
    refine comp_row fun a ha => ?_
    have h2 := rowF_at (f := got S L (rest row g)) (hmlt a ha)
    simp [-getElem?_pos, turnC, ev_var, dealD, h2, lim]
  have sm : run tab m x._law_same [.lst [movedD S L row g, seatsD S L row g], .lst [movedD S L row g, seatsD S L row g]] = .rt false (.bl true) [] := by
    refine same_r T ?_ ?_
    · show ((movedD S L row g).plain && ((seatsD S L row g).plain && true)) = true
      rw [movedD_plain, seatsD_plain]
      rfl
    · have h1 := movedD_depth (S := S) (L := L) (row := row) (g := g)
      have h2 := seatsD_depth (S := S) (L := L) (row := row) (g := g)
      show max (movedD S L row g).depth (max (seatsD S L row g).depth 0) + 1 < m
      omega
  have i1 := it_rg (k := row.length + 1) (by have := hr.len; have := hh.few; omega)
  have c8 : binD .add (.lst [.int g]) (.lst ((movs S L row g).map nD)) = some (.f (.lst (D.int g :: (movs S L row g).map nD))) := by
    show (if [D.int g].length + ((movs S L row g).map nD).length ≤ lim then some (R.f (.lst ([D.int g] ++ (movs S L row g).map nD))) else none) = _
    rw [if_pos (by unfold lim; simp; omega)]
    rfl
  have n1 : eqD (.lst []) (.lst []) = some true := rfl
  have hk : ((row.length : Int) + 1) = ((row.length + 1 : Nat) : Int) := by omega
  have g1 := rowF_at (f := got S L row) hg
  have hj : ∀ p : Nat, cmpD .notn (.int p) .non = some true := fun _ => rfl
  show backs [false, false, false] (es (run tab m) (D__law_stay_right x).body [.pu (hL S L), .pu (dN row), .pu (.int g), .no, .no, .no, .no, .no, .no, .no, .no, .no, .no, .no, .no, .no]) = _
  unfold D__law_stay_right
  cases hgot : got S L row g with
  | none =>
    have hs : seatsD S L row g = .tup [] := by simp [seatsD, hgot]
    rw [hs] at q2 sm
    rw [hgot] at g1
    simp only [oD_none] at g1
    obtain ⟨v6, v11, v12, v13, hv⟩ := stay_go T (n := m) (by omega) hh hr (g := g) (ks := List.range (row.length + 1)) (s3 := .pu (.lst ((movs S L row g).map nD))) (s4 := .pu (.lst [])) (s5 := .pu (.lst [movedD S L row g, .tup []])) (s6 := .no) (s7 := .pu (softD S L)) (s8 := .pu (dN (rest row g))) (s9 := .pu (dealD S L row)) (s10 := .pu (dealD S L (rest row g))) (s11 := .no) (s12 := .no) (s13 := .no)
    refine (congrArg (backs _) (es_go (e1 := [.pu (hL S L), .pu (dN row), .pu (.int g), .no, .no, .no, .no, .pu (softD S L), .pu (dN (rest row g)), .no, .no, .no, .no, .no, .no, .no]) ?_)).trans ?_
    · simp only [dN] at c1 ⊢
      simp [-getElem?_pos, ev_var, l1, c1, calmRs, putRs, putR]
    refine (congrArg (backs _) (es_go (e1 := [.pu (hL S L), .pu (dN row), .pu (.int g), .no, .no, .no, .no, .pu (softD S L), .pu (dN (rest row g)), .pu (dealD S L row), .pu (dealD S L (rest row g)), .no, .no, .no, .no, .no]) ?_)).trans ?_
    · simp [-getElem?_pos, ev_var, r1, r2, calmRs, putRs, putR]
    refine (congrArg (backs _) (es_go (e1 := [.pu (hL S L), .pu (dN row), .pu (.int g), .pu (.lst ((movs S L row g).map nD)), .no, .no, .no, .pu (softD S L), .pu (dN (rest row g)), .pu (dealD S L row), .pu (dealD S L (rest row g)), .no, .no, .no, .no, .no]) ?_)).trans ?_
    · simp only [dN] at c3 ⊢
      simp [-getElem?_pos, ev_var, c3, putR]
    refine (congrArg (backs _) (es_go (e1 := [.pu (hL S L), .pu (dN row), .pu (.int g), .pu (.lst ((movs S L row g).map nD)), .no, .no, .no, .pu (softD S L), .pu (dN (rest row g)), .pu (dealD S L row), .pu (dealD S L (rest row g)), .no, .no, .no, .no, .no]) ?_)).trans ?_
    · simp only [dN] at c4 ⊢
      simp [-getElem?_pos, ev_var, c4, n1, lim]
    refine (congrArg (backs _) (es_go (e1 := [.pu (hL S L), .pu (dN row), .pu (.int g), .pu (.lst ((movs S L row g).map nD)), .pu (.lst []), .no, .no, .pu (softD S L), .pu (dN (rest row g)), .pu (dealD S L row), .pu (dealD S L (rest row g)), .no, .no, .no, .no, .no]) ?_)).trans ?_
    · simp only [dN, dealD] at c5 g1 ⊢
      simp [-getElem?_pos, ev_var, putR, lim, g1, dealD]
    refine (congrArg (backs _) (es_go (e1 := [.pu (hL S L), .pu (dN row), .pu (.int g), .pu (.lst ((movs S L row g).map nD)), .pu (.lst []), .pu (.lst [movedD S L row g, .tup []]), .no, .pu (softD S L), .pu (dN (rest row g)), .pu (dealD S L row), .pu (dealD S L (rest row g)), .no, .no, .no, .no, .no]) ?_)).trans ?_
    · simp only [dN, lN] at q1 q2 ⊢
      simp [-getElem?_pos, ev_var, putR, lim, q1, q2]
    refine (congrArg (backs _) (es_go (e1 := [.pu (hL S L), .pu (dN row), .pu (.int g), .pu (.lst ((movs S L row g).map nD)), .pu (.lst []), .pu (.lst [movedD S L row g, .tup []]), .no, .pu (softD S L), .pu (dN (rest row g)), .pu (dealD S L row), .pu (dealD S L (rest row g)), .no, .no, .no, .no, .no]) ?_)).trans ?_
    · simp only [dN, movedD] at c7 sm ⊢
      simp [-getElem?_pos, ev_var, c7, sm, lim]
    refine (congrArg (backs _) (es_go (e1 := [.pu (hL S L), .pu (dN row), .pu (.int g), .pu (.lst ((movs S L row g).map nD)), .pu (.lst []), .pu (.lst [movedD S L row g, .tup []]), v6, .pu (softD S L), .pu (dN (rest row g)), .pu (dealD S L row), .pu (dealD S L (rest row g)), v11, v12, v13, .no, .no]) ?_)).trans ?_
    · refine es_for_pl (d := .int (row.length + 1 : Nat)) ?_ i1 hv
      rw [← hk]
      simp [-getElem?_pos, -Int.natCast_add, ev_var]
    simp
  | some p =>
    have hs : seatsD S L row g = .tup (((g :: movs S L row g).filter fun o => (got S L row o).isSome).map fun o => oD (got S L row o)) := by unfold seatsD; rw [hgot]; rfl
    rw [hs] at q2 sm
    rw [hgot] at g1
    simp only [oD_some] at g1
    obtain ⟨v6, v11, v12, v13, hv⟩ := stay_go T (n := m) (by omega) hh hr (g := g) (ks := List.range (row.length + 1)) (s3 := .pu (.lst ((movs S L row g).map nD))) (s4 := .pu (.lst (((g :: movs S L row g).filter fun o => (got S L row o).isSome).map fun o => oD (got S L row o)))) (s5 := .pu (.lst [movedD S L row g, .tup (((g :: movs S L row g).filter fun o => (got S L row o).isSome).map fun o => oD (got S L row o))])) (s6 := .no) (s7 := .pu (softD S L)) (s8 := .pu (dN (rest row g))) (s9 := .pu (dealD S L row)) (s10 := .pu (dealD S L (rest row g))) (s11 := .no) (s12 := .no) (s13 := .no)
    generalize (((g :: movs S L row g).filter fun o => (got S L row o).isSome).map fun o => oD (got S L row o)) = way at *
    refine (congrArg (backs _) (es_go (e1 := [.pu (hL S L), .pu (dN row), .pu (.int g), .no, .no, .no, .no, .pu (softD S L), .pu (dN (rest row g)), .no, .no, .no, .no, .no, .no, .no]) ?_)).trans ?_
    · simp only [dN] at c1 ⊢
      simp [-getElem?_pos, ev_var, l1, c1, calmRs, putRs, putR]
    refine (congrArg (backs _) (es_go (e1 := [.pu (hL S L), .pu (dN row), .pu (.int g), .no, .no, .no, .no, .pu (softD S L), .pu (dN (rest row g)), .pu (dealD S L row), .pu (dealD S L (rest row g)), .no, .no, .no, .no, .no]) ?_)).trans ?_
    · simp [-getElem?_pos, ev_var, r1, r2, calmRs, putRs, putR]
    refine (congrArg (backs _) (es_go (e1 := [.pu (hL S L), .pu (dN row), .pu (.int g), .pu (.lst ((movs S L row g).map nD)), .no, .no, .no, .pu (softD S L), .pu (dN (rest row g)), .pu (dealD S L row), .pu (dealD S L (rest row g)), .no, .no, .no, .no, .no]) ?_)).trans ?_
    · simp only [dN] at c3 ⊢
      simp [-getElem?_pos, ev_var, c3, putR]
    refine (congrArg (backs _) (es_go (e1 := [.pu (hL S L), .pu (dN row), .pu (.int g), .pu (.lst ((movs S L row g).map nD)), .no, .no, .no, .pu (softD S L), .pu (dN (rest row g)), .pu (dealD S L row), .pu (dealD S L (rest row g)), .no, .no, .no, .no, .no]) ?_)).trans ?_
    · simp only [dN] at c4 ⊢
      simp [-getElem?_pos, ev_var, c4, n1, lim]
    refine (congrArg (backs _) (es_go (e1 := [.pu (hL S L), .pu (dN row), .pu (.int g), .pu (.lst ((movs S L row g).map nD)), .pu (.lst way), .no, .no, .pu (softD S L), .pu (dN (rest row g)), .pu (dealD S L row), .pu (dealD S L (rest row g)), .no, .no, .no, .no, .no]) ?_)).trans ?_
    · simp only [dN, dealD] at c5 g1 ⊢
      simp [-getElem?_pos, ev_var, putR, lim, g1, hj, c8, c5, dealD]
    refine (congrArg (backs _) (es_go (e1 := [.pu (hL S L), .pu (dN row), .pu (.int g), .pu (.lst ((movs S L row g).map nD)), .pu (.lst way), .pu (.lst [movedD S L row g, .tup way]), .no, .pu (softD S L), .pu (dN (rest row g)), .pu (dealD S L row), .pu (dealD S L (rest row g)), .no, .no, .no, .no, .no]) ?_)).trans ?_
    · simp only [dN, lN] at q1 q2 ⊢
      simp [-getElem?_pos, ev_var, putR, lim, q1, q2]
    refine (congrArg (backs _) (es_go (e1 := [.pu (hL S L), .pu (dN row), .pu (.int g), .pu (.lst ((movs S L row g).map nD)), .pu (.lst way), .pu (.lst [movedD S L row g, .tup way]), .no, .pu (softD S L), .pu (dN (rest row g)), .pu (dealD S L row), .pu (dealD S L (rest row g)), .no, .no, .no, .no, .no]) ?_)).trans ?_
    · simp only [dN, movedD] at c7 sm ⊢
      simp [-getElem?_pos, ev_var, c7, sm, lim]
    refine (congrArg (backs _) (es_go (e1 := [.pu (hL S L), .pu (dN row), .pu (.int g), .pu (.lst ((movs S L row g).map nD)), .pu (.lst way), .pu (.lst [movedD S L row g, .tup way]), v6, .pu (softD S L), .pu (dN (rest row g)), .pu (dealD S L row), .pu (dealD S L (rest row g)), v11, v12, v13, .no, .no]) ?_)).trans ?_
    · refine es_for_pl (d := .int (row.length + 1 : Nat)) ?_ i1 hv
      rw [← hk]
      simp [-getElem?_pos, -Int.natCast_add, ev_var]
    simp
end
end Lt.Hx
end
section
set_option maxRecDepth 100000
set_option maxHeartbeats 1000000
namespace Lt.Hx
open PySem
section
variable {tab : List Df} {x : Ix}
theorem cell_turn {C : Calls} {s0 s3 s4 s5 : Sl} {z b : Int} {k : Nat} (hk : k ≤ 1000) : ∃ z' : Int, ∃ v5 : Sl,
    turnF C (.tp (.cons (.nm 3) (.cons (.nm 4) .nil))) (.cons (.set 5 false (.bin .mod (.blt .int (.cons (.var 3) .nil)) (.var 1)))
  (.cons (.six 2 (.var 5) (.bin .add (.ix (.var 2) (.var 5)) (.bin .mul (.var 4) (.bin .add (.var 3) (.cst (.int 2))))))
  .nil)) (.tup [.int k, .int b]) [s0, .pu (.int 1), .mu true false (.lst [.int z]), s3, s4, s5]
    = .nx [s0, .pu (.int 1), .mu true false (.lst [.int z']), .pu (.int k), .pu (.int b), v5] := by
  have h1 : binD .mod (.int k) (.int 1) = some (.v (.int 0)) := by rw [bin_modI (by omega), Int.emod_one]
  have h2 : binD .mul (.int b) (.int ((k : Int) + 2)) = some (.v (.int (b * ((k : Int) + 2)))) := bin_mulI (Or.inr (small_of (by omega) (by omega)))
  have h3 : place 1 0 = some 0 := rfl
  refine ⟨z + b * ((k : Int) + 2), .pu (.int 0), ?_⟩
  simp [-getElem?_pos, turnF, ev_var, putR, h1, h2, isBox, h3]
theorem cell_go {C : Calls} {s0 : Sl} : ∀ {bs : List Int} {k : Nat} (hk : k + bs.length ≤ 1000) {s3 s4 s5 : Sl} {z : Int}, ∃ (z' : Int) (v3 v4 v5 : Sl),
    forGo (turnF C (.tp (.cons (.nm 3) (.cons (.nm 4) .nil))) (.cons (.set 5 false (.bin .mod (.blt .int (.cons (.var 3) .nil)) (.var 1)))
  (.cons (.six 2 (.var 5) (.bin .add (.ix (.var 2) (.var 5)) (.bin .mul (.var 4) (.bin .add (.var 3) (.cst (.int 2))))))
  .nil))) (pairs k (bs.map D.int)) [s0, .pu (.int 1), .mu true false (.lst [.int z]), s3, s4, s5]
    = .nx [s0, .pu (.int 1), .mu true false (.lst [.int z']), v3, v4, v5]
  | [], k, hk, s3, s4, s5, z => ⟨z, s3, s4, s5, rfl⟩
  | b :: bs, k, hk, s3, s4, s5, z => by
    have hl : (b :: bs).length = bs.length + 1 := rfl
    obtain ⟨z1, v5, e1⟩ := cell_turn (C := C) (s0 := s0) (s3 := s3) (s4 := s4) (s5 := s5) (z := z) (b := b) (k := k) (by omega)
    obtain ⟨z2, w3, w4, w5, e2⟩ := cell_go (C := C) (s0 := s0) (bs := bs) (k := k + 1) (by omega) (s3 := .pu (.int k)) (s4 := .pu (.int b)) (s5 := v5) (z := z1)
    refine ⟨z2, w3, w4, w5, ?_⟩
    show forGo _ (.tup [.int k, .int b] :: pairs (k + 1) (bs.map D.int)) _ = _
    unfold forGo
    rw [e1]
    exact e2
theorem cut_map {α β : Type} {f : α → β} {l : List α} {a b : Option Int} : cut (l.map f) a b = (cut l a b).map f := by
  unfold cut
  simp
theorem cut_le {α : Type} {l : List α} {a b : Option Int} : (cut l a b).length ≤ l.length := by
  unfold cut
  simp
  omega
theorem cells_r (T : Has tab x) {n : Nat} (h : 1 ≤ n) {ns : List Int} (hn : ns.length ≤ 63) : ∃ z : Int, run tab n x._law_cells [.lst (ns.map D.int), .int 1] = .rt true (.lst [.int z]) [] := by
  obtain ⟨m, rfl⟩ : ∃ m, n = m + 1 := ⟨n - 1, by omega⟩
  rw [run_at T._law_cells]
  have s1 : slD (.lst (ns.map D.int)) none (some 1) = some (.f (.lst ((ns.map D.int).take 1))) := by
    show some (R.f (.lst (cut _ none (some ((1 : Nat) : Int))))) = _
    rw [cut_to]
  have s2 : slD (.lst (ns.map D.int)) (some 1) (some 63) = some (.f (.lst ((cut ns (some 1) (some 63)).map D.int))) := by
    show some (R.f (.lst (cut _ _ _))) = _
    rw [cut_map]
  have hl := cut_le (l := ns) (a := some 1) (b := some 63)
  cases ns with
  | nil =>
    obtain ⟨z, v3, v4, v5, e1⟩ := cell_go (C := run tab m) (s0 := .pu (.lst (([] : List Int).map D.int))) (bs := cut [] (some 1) (some 63)) (k := 0) (by have : ([] : List Int).length = 0 := rfl; omega) (s3 := .no) (s4 := .no) (s5 := .no) (z := 0)
    refine ⟨z, ?_⟩
    simp [-getElem?_pos, D__law_cells, runDf, ev_var, putR, boxed, lim] at *
    simp [-getElem?_pos, s1, s2, e1, boxed]
  | cons a r =>
    obtain ⟨z, v3, v4, v5, e1⟩ := cell_go (C := run tab m) (s0 := .pu (.lst ((a :: r).map D.int))) (bs := cut (a :: r) (some 1) (some 63)) (k := 0) (by omega) (s3 := .no) (s4 := .no) (s5 := .no) (z := a)
    refine ⟨z, ?_⟩
    simp [-getElem?_pos, D__law_cells, runDf, ev_var, putR, boxed, lim] at *
    simp [-getElem?_pos, s1, s2, e1, boxed]
theorem box_r (T : Has tab x) {n : Nat} (h : 1 ≤ n) {z : Int} : ∃ d, run tab n x._law_box [.lst [.int z], .int 0] = .rt true d [] ∧ Tn 0 d ∧ boxed d = true := by
  obtain ⟨m, rfl⟩ : ∃ m, n = m + 1 := ⟨n - 1, by omega⟩
  rw [run_at T._law_box]
  have p1 : binD .pow (.int 10) (.int 18) = some (.v (.int 1000000000000000000)) := by
    show (if (0 : Int) ≤ 18 ∧ (18 : Int) ≤ 1000 ∧ (10 : Int).natAbs < 18446744073709551616 then some (R.v (.int (10 ^ (18 : Int).toNat))) else none) = _
    rw [if_pos (by decide)]
    rfl
  have p2 : ∀ (i : Int) (b : Bool), binD .mul (.int i) (.int (if b = true then 1 else 0)) = some (.v (.int (i * (if b = true then 1 else 0)))) := fun i b => bin_mulI (Or.inr (by cases b <;> rfl))
  have p3 : binD .mod (.int z) (.int 2305843009213693951) = some (.v (.int (z % 2305843009213693951))) := bin_modI (by omega)
  have p4 : binD .mul (.int 39373) (.int 0) = some (.v (.int (39373 * 0))) := bin_mulI (Or.inl rfl)
  obtain ⟨A, p5⟩ : ∃ A : Int, bltD .abs [.int z] = some (.v (.int A)) := ⟨_, rfl⟩
  obtain ⟨B, p6, p7⟩ : ∃ B : Int, bltD .int [.bl (decide ((1000000000000000000 : Int) ≤ A))] = some (.v (.int B)) ∧ small64 B = true := by
    refine ⟨_, rfl, ?_⟩
    cases decide ((1000000000000000000 : Int) ≤ A) <;> rfl
  have p8 : binD .mul (.int A) (.int B) = some (.v (.int (A * B))) := bin_mulI (Or.inr p7)
  refine ⟨.lst [.int (A * B), .int (z % 2305843009213693951 + 39373 * 0 + 3196071), .int 0], ?_, ⟨_, _, 0, rfl, by omega, by omega⟩, rfl⟩
  have p9 : (0 : Int) < ((0 : Nat) + 1 : Nat) := by omega
  simp [-getElem?_pos, -blt_intB, D__law_box, runDf, ev_var, putR, p1, p3, p4, p5, p6, p8, lim]
end
end Lt.Hx
end
section
set_option maxRecDepth 100000
set_option maxHeartbeats 1000000
namespace Lt.Hx
open PySem
theorem got_ins {S : List Nat} {L : List (List Nat)} {r : List Nat} {k g : Nat} (h : g ∉ r) : got S L (insAt r k g) g = fl (wOf L g) (aft (wOf L) (r.take k) (sOf S)) := by
  have e : insAt r k g = r.take k ++ g :: r.drop k := by unfold insAt; simp
  unfold got
  rw [e]
  exact fnd_at fun h1 => h (List.mem_of_mem_drop h1)
theorem rest_out {row : List Nat} {g : Nat} : g ∉ rest row g := fun h => by
  have := (List.mem_filter.mp h).2
  simp at this
theorem ranks_sorted {S : List Nat} {L : List (List Nat)} {row : List Nat} {g m : Nat} : ((List.range m).map fun k => rankN (wOf L g) (got S L (insAt (rest row g) k g) g)).Pairwise (· ≤ ·) :=
  List.pairwise_map.mpr (List.pairwise_lt_range.imp fun {i j} h => by
    rw [got_ins rest_out, got_ins rest_out]
    refine rank_mono fun p => ?_
    have e : (rest row g).take j = (rest row g).take i ++ ((rest row g).take j).drop i := by
      have h1 := List.take_append_drop i ((rest row g).take j)
      rw [List.take_take, Nat.min_eq_left (by omega)] at h1
      exact h1.symm
    rw [e, aft_append]
    exact aft_le p)
theorem wOf_bent {L : List (List Nat)} {g : Nat} {W : List Nat} (hg : g < L.length) {q : Nat} : wOf (bent L g W) q = if q = g then W else wOf L q := by
  unfold wOf bent
  rw [List.getD_eq_getElem?_getD, List.getD_eq_getElem?_getD]
  have hl : (L.take g).length = g := by simp; omega
  by_cases h : q = g
  · subst h
    rw [if_pos rfl, List.append_assoc, List.getElem?_append_right (by omega), hl]
    simp
  · rw [if_neg h]
    by_cases h2 : q < g
    · rw [List.append_assoc, List.getElem?_append_left (by omega), List.getElem?_take_of_lt h2]
    · rw [List.getElem?_append_right (by simp; omega), List.getElem?_drop]
      congr 2
      simp
      omega
theorem its_fact {S : List Nat} {L : List (List Nat)} {row : List Nat} (hd : row.Nodup) {g p : Nat} (hg : g < L.length) (hr : g ∈ row) {W : List Nat} (hi : got S (bent L g W) row g = some p) : rankN (wOf L g) (got S L row g) ≤ rankN (wOf L g) (some p) := by
  obtain ⟨a, b, rfl, ha, hb⟩ := split_at hd hr
  unfold got at *
  rw [fnd_at hb] at *
  have h1 : aft (wOf (bent L g W)) a (sOf S) = aft (wOf L) a (sOf S) := aft_congr fun q hq => by
    have : q ≠ g := fun e => ha (e ▸ hq)
    rw [wOf_bent hg, if_neg this]
  rw [h1] at hi
  exact rank_least (fl_pos hi)
theorem sorted_self {R : List Nat} (h : R.Pairwise (· ≤ ·)) : bltD .sorted [lN R] = some (.f (lN R)) := by
  show ((intz (R.map nD)).map fun is => Lt.R.f (.lst ((isort is).map .int))) = _
  rw [ints_nD]
  show some (Lt.R.f (.lst ((isort (R.map fun (k : Nat) => (k : Int))).map .int))) = _
  rw [isort_eq (List.Perm.refl _) (List.pairwise_map.mpr (h.imp fun hij => by omega)), List.map_map]
  rfl
def gB (x : Ix) : S := (.cons (.par [(13, false), (14, false)] (.cons (.blt .tuple (.cons (.comp (.var 15) (.nm 15) [15] .pl (.cons (.var 4) .nil) (.cmp .ne (.var 15) (.var 5))) .nil)) (.cons (.ix (.ix (.var 3) (.cst (.int 1))) (.var 5)) .nil)))
  (.cons (.set 8 false (.comp (.ix (.call x._law_run [false, false] (.cons (.var 3) (.cons (.bin .add (.bin .add (.sl (.var 13) (.cst .non) (.var 17)) (.tup (.cons (.var 5) .nil))) (.sl (.var 13) (.var 17) (.cst .non))) .nil))) (.var 5)) (.nm 17) [17] .rg1 (.cons (.var 7) .nil) (.cst (.bl true))))
  (.cons (.set 9 false (.comp (.call x._law_rank [false, false] (.cons (.var 14) (.cons (.var 15) .nil))) (.nm 15) [15] .pl (.cons (.var 8) .nil) (.cst (.bl true))))
  (.cons (.set 10 false (.blt .tuple (.cons (.call x._law_pick [true, false, false] (.cons (.var 1) (.cons (.blt .rlist1 (.cons (.blt .len (.cons (.ix (.var 3) (.cst (.int 0))) .nil)) .nil)) (.cons (.bin .add (.cst (.int 1)) (.call x._law_take [true, false] (.cons (.var 1) (.cons (.blt .len (.cons (.ix (.var 3) (.cst (.int 0))) .nil)) .nil)))) .nil)))) .nil)))
  (.cons (.set 11 false (.tup (.cons (.ix (.var 3) (.cst (.int 0))) (.cons (.bin .add (.bin .add (.sl (.ix (.var 3) (.cst (.int 1))) (.cst .non) (.var 5)) (.tup (.cons (.var 10) .nil))) (.sl (.ix (.var 3) (.cst (.int 1))) (.bin .add (.var 5) (.cst (.int 1))) (.cst .non))) .nil))))
  (.cons (.par [(15, false), (16, false), (17, false)] (.cons (.ix (.call x._law_run [false, false] (.cons (.var 3) (.cons (.var 4) .nil))) (.var 5)) (.cons (.ix (.call x._law_run [false, false] (.cons (.var 11) (.cons (.var 4) .nil))) (.var 5)) (.cons (.call x._law_take [true, false] (.cons (.var 1) (.cons (.var 7) .nil))) .nil))))
  (.cons (.ite (.or (.cmp .ne (.var 9) (.blt .sorted (.cons (.var 9) .nil))) (.and (.cmp .isin (.var 16) (.var 14)) (.cmp .lt (.call x._law_rank [false, false] (.cons (.var 14) (.cons (.var 16) .nil))) (.call x._law_rank [false, false] (.cons (.var 14) (.cons (.var 15) .nil)))))) (.cons (.ret (.cst (.bl false)))
  .nil) .nil)
  (.cons (.par [(18, false), (19, false)] (.cons (.call x._law_of [true, false] (.cons (.var 1) (.cons (.bin .add (.blt .list (.cons (.var 14) .nil)) (.lst (.cons (.cst .non) .nil))) .nil))) (.cons (.call x._law_of [true, false] (.cons (.var 1) (.cons (.bin .add (.blt .list (.cons (.var 14) .nil)) (.lst (.cons (.cst .non) .nil))) .nil))) .nil)))
  (.cons (.set 12 false (.lst (.cons (.call x.got_all [false, false, false] (.cons (.var 6) (.cons (.blt .list (.cons (.var 4) .nil)) (.cons (.var 5) .nil)))) (.cons (.call x.got_at [false, false, false, false] (.cons (.var 3) (.cons (.blt .list (.cons (.var 4) .nil)) (.cons (.var 5) (.cons (.var 17) .nil))))) .nil))))
  (.cons (.set 12 false (.bin .add (.var 12) (.lst (.cons (.call x.got_with [false, false, false, false] (.cons (.var 6) (.cons (.var 4) (.cons (.var 5) (.cons (.blt .list (.cons (.var 10) .nil)) .nil))))) (.cons (.call x.is_better [false, false, false, false] (.cons (.var 6) (.cons (.var 5) (.cons (.var 18) (.cons (.var 19) .nil))))) .nil)))))
  (.cons (.ite (.not (.call x._law_same [false, false] (.cons (.var 12) (.cons (.lst (.cons (.blt .tuple (.cons (.var 8) .nil)) (.cons (.ix (.var 8) (.var 17)) (.cons (.var 16) (.cons (.cmp .lt (.call x._law_rank [false, false] (.cons (.var 14) (.cons (.var 18) .nil))) (.call x._law_rank [false, false] (.cons (.var 14) (.cons (.var 19) .nil)))) .nil))))) .nil)))) (.cons (.ret (.cst (.bl false)))
  .nil) .nil)
  (.cons (.ite (.not (.call x._law_stay_right [false, false, false] (.cons (.var 3) (.cons (.var 4) (.cons (.var 5) .nil))))) (.cons (.ret (.cst (.bl false)))
  .nil) .nil)
  .nil))))))))))))
def lB (x : Ix) : S := (.cons (.set 3 false (.call x._law_hall [true, false] (.cons (.var 1) (.cons (.cst (.int 8)) .nil))))
  (.cons (.par [(6, false), (7, false)] (.cons (.call x._law_lists [false] (.cons (.var 3) .nil)) (.cons (.blt .len (.cons (.ix (.var 3) (.cst (.int 1))) .nil)) .nil)))
  (.cons (.set 4 false (.blt .tuple (.cons (.call x._law_pick [true, false, false] (.cons (.var 1) (.cons (.blt .rlist1 (.cons (.var 7) .nil)) (.cons (.var 7) .nil)))) .nil)))
  (.cons (.for (.nm 5) .rg1 (.cons (.var 7) .nil) (gB x))
  .nil))))
end Lt.Hx
end
section
set_option maxRecDepth 100000
set_option maxHeartbeats 2000000
namespace Lt.Hx
open PySem
theorem insAt_perm {r : List Nat} {k g : Nat} : (insAt r k g).Perm (g :: r) := by
  have e : insAt r k g = r.take k ++ g :: r.drop k := by unfold insAt; simp
  rw [e]
  have h := List.perm_middle (a := g) (l₁ := r.take k) (l₂ := r.drop k)
  rw [List.take_append_drop] at h
  exact h
theorem insAt_nodup {row : List Nat} {k g : Nat} (hd : row.Nodup) : (insAt (rest row g) k g).Nodup :=
  insAt_perm.nodup_iff.mpr (List.nodup_cons.mpr ⟨rest_out, hd.filter _⟩)
theorem insAt_D {r : List Nat} {k g : Nat} : D.tup ((r.map nD).take k ++ [.int g] ++ (r.map nD).drop k) = dN (insAt r k g) := by
  unfold dN insAt
  simp
theorem of_opt {W : List Nat} {a : D} (h : a ∈ W.map nD ++ [D.non]) : ∃ o, a = oD o ∧ Among W o := by
  rcases List.mem_append.mp h with h | h
  · obtain ⟨p, hp, rfl⟩ := List.mem_map.mp h
    exact ⟨some p, rfl, fun q hq => by cases hq; exact hp⟩
  · rw [List.mem_singleton.mp h]
    exact ⟨none, rfl, fun q hq => by cases hq⟩
section
variable {tab : List Df} {x : Ix}
variable {s0 s2 s8 s9 s10 s11 s12 s13 s14 s15 s16 s17 s18 s19 : Sl}
theorem g_c1 {C : Calls} {S : List Nat} {L : List (List Nat)} {row : List Nat} {g : Nat} {d : D} : compGo (turnC C (.var 15) (.nm 15) [15] (.cmp .ne (.var 15) (.var 5))) (row.map nD) [] [s0, .mu true false d, s2, .pu (hL S L), .pu (dN row), .pu (.int g), .pu (softD S L), .pu (.int L.length), s8, s9, s10, s11, s12, s13, s14, .no, s16, s17, s18, s19] = .ok ((rest row g).map nD) [s0, .mu true false d, s2, .pu (hL S L), .pu (dN row), .pu (.int g), .pu (softD S L), .pu (.int L.length), s8, s9, s10, s11, s12, s13, s14, .no, s16, s17, s18, s19] := by
  refine comp_filt fun a ha => ?_
  by_cases h8 : a = g <;> simp [turnC, ev_var, -eq_int, eq_ints, h8]
theorem g_c2 (T : Has tab x) {n : Nat} (h : 1 ≤ n) {S : List Nat} {L : List (List Nat)} (hh : OkHall S L) {row : List Nat} (hr : isRow L row) {g : Nat} (hg : g < L.length) {d : D} : compGo (turnC (run tab n) (.ix (.call x._law_run [false, false] (.cons (.var 3) (.cons (.bin .add (.bin .add (.sl (.var 13) (.cst .non) (.var 17)) (.tup (.cons (.var 5) .nil))) (.sl (.var 13) (.var 17) (.cst .non))) .nil))) (.var 5)) (.nm 17) [17] (.cst (.bl true))) ((List.range L.length).map nD) [] [s0, .mu true false d, s2, .pu (hL S L), .pu (dN row), .pu (.int g), .pu (softD S L), .pu (.int L.length), s8, s9, s10, s11, s12, .pu (dN (rest row g)), .pu (dN (wOf L g)), s15, s16, .no, s18, s19] = .ok ((List.range L.length).map fun k => oD (got S L (insAt (rest row g) k g) g)) [s0, .mu true false d, s2, .pu (hL S L), .pu (dN row), .pu (.int g), .pu (softD S L), .pu (.int L.length), s8, s9, s10, s11, s12, .pu (dN (rest row g)), .pu (dN (wOf L g)), s15, s16, .no, s18, s19] := by
  refine comp_row fun k hk => ?_
  have h1 := rowF_at (f := got S L (insAt (rest row g) k g)) hg
  have h3 := law_run_r T h hh (insAt_lt (rest_lt (g := g) hr.lt) hg (k := k)) (insAt_nodup hr.nodup) (r := dN (insAt (rest row g) k g)) rfl
  have h2 : (rest row g).length ≤ 1000 := Nat.le_trans (List.length_filter_le ..) (by rw [hr.len]; exact hh.few)
  have h4 : binD .add (.tup (((rest row g).map nD).take k)) (.tup [.int g]) = _ := bin_addT (by simp; omega)
  have h5 : binD .add (.tup (((rest row g).map nD).take k ++ [.int g])) (.tup (((rest row g).map nD).drop k)) = _ := bin_addT (by simp; omega)
  rw [insAt_D] at h5
  have e1 : dN (rest row g) = .tup ((rest row g).map nD) := rfl
  rw [e1]
  simp [-getElem?_pos, -List.append_assoc, turnC, ev_var, lim, h4, h5, h3, dealD, h1]
theorem g_c3 (T : Has tab x) {n : Nat} (h : 1 ≤ n) {S : List Nat} {L : List (List Nat)} {row : List Nat} {g : Nat} {d : D} : compGo (turnC (run tab n) (.call x._law_rank [false, false] (.cons (.var 14) (.cons (.var 15) .nil))) (.nm 15) [15] (.cst (.bl true))) ((List.range L.length).map fun k => oD (got S L (insAt (rest row g) k g) g)) [] [s0, .mu true false d, s2, .pu (hL S L), .pu (dN row), .pu (.int g), .pu (softD S L), .pu (.int L.length), .pu (.lst ((List.range L.length).map fun k => oD (got S L (insAt (rest row g) k g) g))), s9, s10, s11, s12, .pu (dN (rest row g)), .pu (dN (wOf L g)), .no, s16, s17, s18, s19] = .ok (((List.range L.length).map fun k => rankN (wOf L g) (got S L (insAt (rest row g) k g) g)).map nD) [s0, .mu true false d, s2, .pu (hL S L), .pu (dN row), .pu (.int g), .pu (softD S L), .pu (.int L.length), .pu (.lst ((List.range L.length).map fun k => oD (got S L (insAt (rest row g) k g) g))), s9, s10, s11, s12, .pu (dN (rest row g)), .pu (dN (wOf L g)), .no, s16, s17, s18, s19] := by
  refine (comp_row (g := fun k => D.int (rankN (wOf L g) (got S L (insAt (rest row g) k g) g))) fun k hk => ?_).trans (by rw [List.map_map]; rfl)
  have h1 := law_rank_r T h (got_among (S := S) (L := L) (row := insAt (rest row g) k g) g)
  simp [-getElem?_pos, turnC, ev_var, h1]
theorem g_1 {C : Calls} {S : List Nat} {L : List (List Nat)} {row : List Nat} {g : Nat} {d : D} (hg : g < L.length) : es C (.par [(13, false), (14, false)] (.cons (.blt .tuple (.cons (.comp (.var 15) (.nm 15) [15] .pl (.cons (.var 4) .nil) (.cmp .ne (.var 15) (.var 5))) .nil)) (.cons (.ix (.ix (.var 3) (.cst (.int 1))) (.var 5)) .nil))) [s0, .mu true false d, s2, .pu (hL S L), .pu (dN row), .pu (.int g), .pu (softD S L), .pu (.int L.length), s8, s9, s10, s11, s12, s13, s14, s15, s16, s17, s18, s19] = .nx [s0, .mu true false d, s2, .pu (hL S L), .pu (dN row), .pu (.int g), .pu (softD S L), .pu (.int L.length), s8, s9, s10, s11, s12, .pu (dN (rest row g)), .pu (dN (wOf L g)), s15, s16, s17, s18, s19] := by
  have h1 := wOf_at hg
  have c1 := g_c1 (C := C) (S := S) (L := L) (row := row) (g := g) (d := d) (s0 := s0) (s2 := s2) (s8 := s8) (s9 := s9) (s10 := s10) (s11 := s11) (s12 := s12) (s13 := s13) (s14 := s14) (s16 := s16) (s17 := s17) (s18 := s18) (s19 := s19)
  simp [-getElem?_pos, ev_var, c1, calmRs, putRs, putR, h1]
  rfl
theorem g_2 (T : Has tab x) {n : Nat} (h : 1 ≤ n) {S : List Nat} {L : List (List Nat)} (hh : OkHall S L) {row : List Nat} (hr : isRow L row) {g : Nat} (hg : g < L.length) {d : D} : es (run tab n) (.set 8 false (.comp (.ix (.call x._law_run [false, false] (.cons (.var 3) (.cons (.bin .add (.bin .add (.sl (.var 13) (.cst .non) (.var 17)) (.tup (.cons (.var 5) .nil))) (.sl (.var 13) (.var 17) (.cst .non))) .nil))) (.var 5)) (.nm 17) [17] .rg1 (.cons (.var 7) .nil) (.cst (.bl true)))) [s0, .mu true false d, s2, .pu (hL S L), .pu (dN row), .pu (.int g), .pu (softD S L), .pu (.int L.length), s8, s9, s10, s11, s12, .pu (dN (rest row g)), .pu (dN (wOf L g)), s15, s16, s17, s18, s19] = .nx [s0, .mu true false d, s2, .pu (hL S L), .pu (dN row), .pu (.int g), .pu (softD S L), .pu (.int L.length), .pu (.lst ((List.range L.length).map fun k => oD (got S L (insAt (rest row g) k g) g))), s9, s10, s11, s12, .pu (dN (rest row g)), .pu (dN (wOf L g)), s15, s16, s17, s18, s19] := by
  have c2 := g_c2 T h hh hr hg (d := d) (s0 := s0) (s2 := s2) (s8 := s8) (s9 := s9) (s10 := s10) (s11 := s11) (s12 := s12) (s15 := s15) (s16 := s16) (s18 := s18) (s19 := s19)
  have i1 := it_rg (k := L.length) (by have := hh.few; omega)
  simp [-getElem?_pos, ev_var, i1, c2, putR]
theorem g_3 (T : Has tab x) {n : Nat} (h : 1 ≤ n) {S : List Nat} {L : List (List Nat)} {row : List Nat} {g : Nat} {d : D} : es (run tab n) (.set 9 false (.comp (.call x._law_rank [false, false] (.cons (.var 14) (.cons (.var 15) .nil))) (.nm 15) [15] .pl (.cons (.var 8) .nil) (.cst (.bl true)))) [s0, .mu true false d, s2, .pu (hL S L), .pu (dN row), .pu (.int g), .pu (softD S L), .pu (.int L.length), .pu (.lst ((List.range L.length).map fun k => oD (got S L (insAt (rest row g) k g) g))), s9, s10, s11, s12, .pu (dN (rest row g)), .pu (dN (wOf L g)), s15, s16, s17, s18, s19] = .nx [s0, .mu true false d, s2, .pu (hL S L), .pu (dN row), .pu (.int g), .pu (softD S L), .pu (.int L.length), .pu (.lst ((List.range L.length).map fun k => oD (got S L (insAt (rest row g) k g) g))), .pu (lN ((List.range L.length).map fun k => rankN (wOf L g) (got S L (insAt (rest row g) k g) g))), s10, s11, s12, .pu (dN (rest row g)), .pu (dN (wOf L g)), s15, s16, s17, s18, s19] := by
  have c3 := g_c3 T h (S := S) (L := L) (row := row) (g := g) (d := d) (s0 := s0) (s2 := s2) (s9 := s9) (s10 := s10) (s11 := s11) (s12 := s12) (s16 := s16) (s17 := s17) (s18 := s18) (s19 := s19)
  simp only [es_set, ev_comp, evl_cons, evl_nil, ev_var, slot_0, slot_s, bind_ok, looks_v, looks_nil, it_pl, items_L, lock_v, lock_nil, wiped_s, wiped_0, List.set_cons_zero, List.set_cons_succ]
  rw [c3]
  simp [putR, lN]
theorem g_4 (T : Has tab x) {n : Nat} (h : 2 ≤ n) {S : List Nat} {L : List (List Nat)} (hh : OkHall S L) (hK : S.length ≤ 4) {row : List Nat} {g : Nat} {d : D} {c : Nat} (hc : c ≤ 100000) (ht : Tn c d) : ∃ (d2 : D) (W : List Nat), es (run tab n) (.set 10 false (.blt .tuple (.cons (.call x._law_pick [true, false, false] (.cons (.var 1) (.cons (.blt .rlist1 (.cons (.blt .len (.cons (.ix (.var 3) (.cst (.int 0))) .nil)) .nil)) (.cons (.bin .add (.cst (.int 1)) (.call x._law_take [true, false] (.cons (.var 1) (.cons (.blt .len (.cons (.ix (.var 3) (.cst (.int 0))) .nil)) .nil)))) .nil)))) .nil))) [s0, .mu true false d, s2, .pu (hL S L), .pu (dN row), .pu (.int g), .pu (softD S L), .pu (.int L.length), .pu (.lst ((List.range L.length).map fun k => oD (got S L (insAt (rest row g) k g) g))), .pu (lN ((List.range L.length).map fun k => rankN (wOf L g) (got S L (insAt (rest row g) k g) g))), s10, s11, s12, .pu (dN (rest row g)), .pu (dN (wOf L g)), s15, s16, s17, s18, s19] = .nx [s0, .mu true false d2, s2, .pu (hL S L), .pu (dN row), .pu (.int g), .pu (softD S L), .pu (.int L.length), .pu (.lst ((List.range L.length).map fun k => oD (got S L (insAt (rest row g) k g) g))), .pu (lN ((List.range L.length).map fun k => rankN (wOf L g) (got S L (insAt (rest row g) k g) g))), .pu (dN W), s11, s12, .pu (dN (rest row g)), .pu (dN (wOf L g)), s15, s16, s17, s18, s19] ∧ OkList S.length W ∧ Tn (c + 5) d2 := by
  have hS : 0 < S.length := List.length_pos_iff.mpr hh.ne
  obtain ⟨r, d1, hr, hrw, t1⟩ := take_r T (n := n) (by omega) (by omega) ht hS (by omega)
  have h1 := callS_t (C := run tab n) (f := x._law_take) (i := 1) (e := [s0, .mu true false d, s2, .pu (hL S L), .pu (dN row), .pu (.int g), .pu (softD S L), .pu (.int L.length), .pu (.lst ((List.range L.length).map fun k => oD (got S L (insAt (rest row g) k g) g))), .pu (lN ((List.range L.length).map fun k => rankN (wOf L g) (got S L (insAt (rest row g) k g) g))), s10, s11, s12, .pu (dN (rest row g)), .pu (dN (wOf L g)), s15, s16, s17, s18, s19]) (o := true) (d1 := d) (d1' := d1) (d := .int r) (bs := [false]) (rs := [.v (.int S.length)]) (ds := [.int S.length]) (fr := false) rfl rfl hr
  obtain ⟨l, pool, d2, e2, t2, p2, l2⟩ := pick_r T h (c := c + 1) (by omega) t1 (G := List.range S.length) (by simp; omega) rfl (k := r + 1) (by omega)
  have hk : ((r + 1 : Nat) : Int) = 1 + (r : Int) := by omega
  rw [hk] at e2
  have h2 := callS_t (C := run tab n) (f := x._law_pick) (i := 1) (e := [s0, .mu true false d1, s2, .pu (hL S L), .pu (dN row), .pu (.int g), .pu (softD S L), .pu (.int L.length), .pu (.lst ((List.range L.length).map fun k => oD (got S L (insAt (rest row g) k g) g))), .pu (lN ((List.range L.length).map fun k => rankN (wOf L g) (got S L (insAt (rest row g) k g) g))), s10, s11, s12, .pu (dN (rest row g)), .pu (dN (wOf L g)), s15, s16, s17, s18, s19]) (o := true) (d1 := d1) (d1' := d2) (d := lN l) (bs := [false, false]) (rs := [.f (lN (List.range S.length)), .v (.int (1 + (r : Int)))]) (ds := [lN (List.range S.length), .int (1 + (r : Int))]) (fr := true) rfl rfl e2
  have hlen : l.length = r + 1 := by rw [l2]; simp; omega
  have hnd : (pool ++ l).Nodup := p2.nodup_iff.mpr List.nodup_range
  have hmem : ∀ p ∈ l, p < S.length := fun p hp => List.mem_range.mp (p2.mem_iff.mp (List.mem_append_right _ hp))
  refine ⟨d2, l, ?_, ⟨fun e => by rw [e] at hlen; simp at hlen, (List.nodup_append.mp hnd).2.1, hmem⟩, t2.mono (by omega)⟩
  simp at h1 h2
  have h3 : bltD .tuple [lN l] = some (.v (dN l)) := rfl
  have b1 := blt_rl (k := S.length) (by omega)
  simp [-getElem?_pos, ev_var, b1, h1, h2, h3, putR]
theorem g_5 {C : Calls} {S : List Nat} {L : List (List Nat)} (hh : OkHall S L) {row W : List Nat} {g : Nat} {d2 : D} (hg : g < L.length) : es C (.set 11 false (.tup (.cons (.ix (.var 3) (.cst (.int 0))) (.cons (.bin .add (.bin .add (.sl (.ix (.var 3) (.cst (.int 1))) (.cst .non) (.var 5)) (.tup (.cons (.var 10) .nil))) (.sl (.ix (.var 3) (.cst (.int 1))) (.bin .add (.var 5) (.cst (.int 1))) (.cst .non))) .nil)))) [s0, .mu true false d2, s2, .pu (hL S L), .pu (dN row), .pu (.int g), .pu (softD S L), .pu (.int L.length), .pu (.lst ((List.range L.length).map fun k => oD (got S L (insAt (rest row g) k g) g))), .pu (lN ((List.range L.length).map fun k => rankN (wOf L g) (got S L (insAt (rest row g) k g) g))), .pu (dN W), s11, s12, .pu (dN (rest row g)), .pu (dN (wOf L g)), s15, s16, s17, s18, s19] = .nx [s0, .mu true false d2, s2, .pu (hL S L), .pu (dN row), .pu (.int g), .pu (softD S L), .pu (.int L.length), .pu (.lst ((List.range L.length).map fun k => oD (got S L (insAt (rest row g) k g) g))), .pu (lN ((List.range L.length).map fun k => rankN (wOf L g) (got S L (insAt (rest row g) k g) g))), .pu (dN W), .pu (hL S (bent L g W)), s12, .pu (dN (rest row g)), .pu (dN (wOf L g)), s15, s16, s17, s18, s19] := by
  have h9 : binD .add (.tup ((L.map dN).take g)) (.tup [dN W]) = _ := bin_addT (by have := hh.few; simp; omega)
  have h10 : binD .add (.tup ((L.map dN).take g ++ [dN W])) (.tup ((L.map dN).drop (g + 1))) = _ := bin_addT (by have := hh.few; simp; omega)
  have h11 : D.tup [dN S, .tup ((L.map dN).take g ++ [dN W] ++ (L.map dN).drop (g + 1))] = hL S (bent L g W) := by
    unfold hL bent
    simp
  have h12 : ((g : Int) + 1) = ((g + 1 : Nat) : Int) := by omega
  rw [← h11]
  simp [-getElem?_pos, -List.append_assoc, -Int.natCast_add, ev_var, h12, h9, h10, putR, lim]
end
end Lt.Hx
end
section
set_option maxRecDepth 100000
set_option maxHeartbeats 2000000
namespace Lt.Hx
open PySem
theorem dealD_at {S : List Nat} {L : List (List Nat)} {row : List Nat} {g : Nat} (h : g < L.length) : ixD (dealD S L row) (.int g) = some (oD (got S L row g)) := by
  unfold dealD
  rw [ix_tup]
  exact rowF_at h
section
variable {tab : List Df} {x : Ix}
variable {s0 s2 s8 s9 s10 s11 s12 s13 s14 s15 s16 s17 s18 s19 : Sl}
theorem g_6 (T : Has tab x) {n : Nat} (h : 1 ≤ n) {S : List Nat} {L : List (List Nat)} (hh : OkHall S L) {row W : List Nat} (hW : OkList S.length W) (hr : isRow L row) {g : Nat} (hg : g < L.length) {d2 : D} {c : Nat} (hc : c ≤ 100000) (ht : Tn c d2) : ∃ (d3 : D) (k : Nat), es (run tab n) (.par [(15, false), (16, false), (17, false)] (.cons (.ix (.call x._law_run [false, false] (.cons (.var 3) (.cons (.var 4) .nil))) (.var 5)) (.cons (.ix (.call x._law_run [false, false] (.cons (.var 11) (.cons (.var 4) .nil))) (.var 5)) (.cons (.call x._law_take [true, false] (.cons (.var 1) (.cons (.var 7) .nil))) .nil)))) [s0, .mu true false d2, s2, .pu (hL S L), .pu (dN row), .pu (.int g), .pu (softD S L), .pu (.int L.length), .pu (.lst ((List.range L.length).map fun k => oD (got S L (insAt (rest row g) k g) g))), .pu (lN ((List.range L.length).map fun k => rankN (wOf L g) (got S L (insAt (rest row g) k g) g))), .pu (dN W), .pu (hL S (bent L g W)), s12, .pu (dN (rest row g)), .pu (dN (wOf L g)), s15, s16, s17, s18, s19] = .nx [s0, .mu true false d3, s2, .pu (hL S L), .pu (dN row), .pu (.int g), .pu (softD S L), .pu (.int L.length), .pu (.lst ((List.range L.length).map fun k => oD (got S L (insAt (rest row g) k g) g))), .pu (lN ((List.range L.length).map fun k => rankN (wOf L g) (got S L (insAt (rest row g) k g) g))), .pu (dN W), .pu (hL S (bent L g W)), s12, .pu (dN (rest row g)), .pu (dN (wOf L g)), .pu (oD (got S L row g)), .pu (oD (got S (bent L g W) row g)), .pu (.int k), s18, s19] ∧ k < L.length ∧ Tn (c + 1) d3 := by
  obtain ⟨k, d3, hk, hkw, t1⟩ := take_r T h (by omega) ht (w := L.length) (by omega) (by have := hh.few; omega)
  refine ⟨d3, k, ?_, hkw, t1⟩
  have h1 := callS_t (C := run tab n) (f := x._law_take) (i := 1) (e := [s0, .mu true false d2, s2, .pu (hL S L), .pu (dN row), .pu (.int g), .pu (softD S L), .pu (.int L.length), .pu (.lst ((List.range L.length).map fun k => oD (got S L (insAt (rest row g) k g) g))), .pu (lN ((List.range L.length).map fun k => rankN (wOf L g) (got S L (insAt (rest row g) k g) g))), .pu (dN W), .pu (hL S (bent L g W)), s12, .pu (dN (rest row g)), .pu (dN (wOf L g)), s15, s16, s17, s18, s19]) (o := true) (d1 := d2) (d1' := d3) (d := .int k) (bs := [false]) (rs := [.v (.int L.length)]) (ds := [.int L.length]) (fr := false) rfl rfl hk
  have hl := bent_len (W := W) hg
  have r1 := law_run_r T h hh hr.lt hr.nodup (r := dN row) rfl
  have r2 := law_run_r T h (bent_ok hh hg hW) (row := row) (by rw [hl]; exact hr.lt) hr.nodup (r := dN row) rfl
  have a1 := dealD_at (S := S) (row := row) hg
  have a2 := dealD_at (S := S) (L := bent L g W) (row := row) (g := g) (by rw [hl]; exact hg)
  simp at h1
  simp [-getElem?_pos, ev_var, r1, r2, a1, a2, h1, calmRs, putRs, putR]
theorem g_7 (T : Has tab x) {n : Nat} (h : 1 ≤ n) {S : List Nat} {L : List (List Nat)} {row W : List Nat} (hr : isRow L row) {g k : Nat} (hg : g < L.length) {d3 : D} : es (run tab n) (.ite (.or (.cmp .ne (.var 9) (.blt .sorted (.cons (.var 9) .nil))) (.and (.cmp .isin (.var 16) (.var 14)) (.cmp .lt (.call x._law_rank [false, false] (.cons (.var 14) (.cons (.var 16) .nil))) (.call x._law_rank [false, false] (.cons (.var 14) (.cons (.var 15) .nil)))))) (.cons (.ret (.cst (.bl false)))
  .nil) .nil) [s0, .mu true false d3, s2, .pu (hL S L), .pu (dN row), .pu (.int g), .pu (softD S L), .pu (.int L.length), .pu (.lst ((List.range L.length).map fun k => oD (got S L (insAt (rest row g) k g) g))), .pu (lN ((List.range L.length).map fun k => rankN (wOf L g) (got S L (insAt (rest row g) k g) g))), .pu (dN W), .pu (hL S (bent L g W)), s12, .pu (dN (rest row g)), .pu (dN (wOf L g)), .pu (oD (got S L row g)), .pu (oD (got S (bent L g W) row g)), .pu (.int k), s18, s19] = .nx [s0, .mu true false d3, s2, .pu (hL S L), .pu (dN row), .pu (.int g), .pu (softD S L), .pu (.int L.length), .pu (.lst ((List.range L.length).map fun k => oD (got S L (insAt (rest row g) k g) g))), .pu (lN ((List.range L.length).map fun k => rankN (wOf L g) (got S L (insAt (rest row g) k g) g))), .pu (dN W), .pu (hL S (bent L g W)), s12, .pu (dN (rest row g)), .pu (dN (wOf L g)), .pu (oD (got S L row g)), .pu (oD (got S (bent L g W) row g)), .pu (.int k), s18, s19] := by
  have b1 := sorted_self (ranks_sorted (S := S) (L := L) (row := row) (g := g) (m := L.length))
  have b2 := eq_lN_self (l := (List.range L.length).map fun k => rankN (wOf L g) (got S L (insAt (rest row g) k g) g))
  have b3 := in_dN (W := wOf L g) (a := got S (bent L g W) row g)
  have b4 := law_rank_r T h (got_among (S := S) (L := L) (row := row) g)
  generalize lN ((List.range L.length).map fun k => rankN (wOf L g) (got S L (insAt (rest row g) k g) g)) = RK at *
  by_cases hin : ∃ p, got S (bent L g W) row g = some p ∧ p ∈ wOf L g
  · have b5 := law_rank_r T h (W := wOf L g) (a := got S (bent L g W) row g) (fun q hq => by
      obtain ⟨p, h1, h2⟩ := hin
      rw [h1] at hq
      cases hq
      exact h2)
    have b6 : ¬ ((rankN (wOf L g) (got S (bent L g W) row g) : Int) < rankN (wOf L g) (got S L row g)) := by
      obtain ⟨p, h1, h2⟩ := hin
      have := its_fact hr.nodup hg (hr.mem_iff.mpr (List.mem_range.mpr hg)) h1
      rw [h1]
      omega
    rw [show (decide (∃ p, got S (bent L g W) row g = some p ∧ p ∈ wOf L g)) = true from decide_eq_true hin] at b3
    simp only [es_ite, ev_or, ev_and, ev_cmp, ev_blt, ev_call, evl_cons, evl_nil, ev_var, slot_0, slot_s, bind_ok, look_v, look_f, looks_v, looks_f, looks_nil, b1, lift_some, cmp_ne, b2, Option.map_some, Bool.not_true, Bool.not_false, liftB_some, truth_bl, cmp_in, b3, callR_eq, plainRs_v, plainRs_0, b4, b5, resR_rt, cmp_lt, b6, decide_false, testR_ok, fl_ok, es_nil]
  · rw [show (decide (∃ p, got S (bent L g W) row g = some p ∧ p ∈ wOf L g)) = false from decide_eq_false hin] at b3
    simp only [es_ite, ev_or, ev_and, ev_cmp, ev_blt, ev_call, evl_cons, evl_nil, ev_var, slot_0, slot_s, bind_ok, look_v, look_f, looks_v, looks_f, looks_nil, b1, lift_some, cmp_ne, b2, Option.map_some, Bool.not_true, Bool.not_false, liftB_some, truth_bl, cmp_in, b3, testR_ok, fl_ok, es_nil]
theorem g_8 (T : Has tab x) {n : Nat} (h : 2 ≤ n) {S : List Nat} {L : List (List Nat)} (hh : OkHall S L) {row W : List Nat} {g k : Nat} (hg : g < L.length) {d3 : D} {c : Nat} (hc : c ≤ 100000) (ht : Tn c d3) : ∃ (d5 : D) (a b : Option Nat), es (run tab n) (.par [(18, false), (19, false)] (.cons (.call x._law_of [true, false] (.cons (.var 1) (.cons (.bin .add (.blt .list (.cons (.var 14) .nil)) (.lst (.cons (.cst .non) .nil))) .nil))) (.cons (.call x._law_of [true, false] (.cons (.var 1) (.cons (.bin .add (.blt .list (.cons (.var 14) .nil)) (.lst (.cons (.cst .non) .nil))) .nil))) .nil))) [s0, .mu true false d3, s2, .pu (hL S L), .pu (dN row), .pu (.int g), .pu (softD S L), .pu (.int L.length), .pu (.lst ((List.range L.length).map fun k => oD (got S L (insAt (rest row g) k g) g))), .pu (lN ((List.range L.length).map fun k => rankN (wOf L g) (got S L (insAt (rest row g) k g) g))), .pu (dN W), .pu (hL S (bent L g W)), s12, .pu (dN (rest row g)), .pu (dN (wOf L g)), .pu (oD (got S L row g)), .pu (oD (got S (bent L g W) row g)), .pu (.int k), s18, s19] = .nx [s0, .mu true false d5, s2, .pu (hL S L), .pu (dN row), .pu (.int g), .pu (softD S L), .pu (.int L.length), .pu (.lst ((List.range L.length).map fun k => oD (got S L (insAt (rest row g) k g) g))), .pu (lN ((List.range L.length).map fun k => rankN (wOf L g) (got S L (insAt (rest row g) k g) g))), .pu (dN W), .pu (hL S (bent L g W)), s12, .pu (dN (rest row g)), .pu (dN (wOf L g)), .pu (oD (got S L row g)), .pu (oD (got S (bent L g W) row g)), .pu (.int k), .pu (oD a), .pu (oD b)] ∧ Among (wOf L g) a ∧ Among (wOf L g) b ∧ Tn (c + 2) d5 := by
  have hw := hh.lists _ (wOf_mem hg)
  have hwl : (wOf L g).length ≤ 1000 := Nat.le_trans (nodup_len hw.2.1 hw.2.2) hh.small
  have hw0 : 0 < (wOf L g).length := List.length_pos_iff.mpr hw.1
  have hG : ((wOf L g).map nD ++ [D.non]).length ≤ 1001 := by simp; exact hwl
  obtain ⟨a0, d4, e1, t1, m1⟩ := of_r T h (by omega) ht (G := (wOf L g).map nD ++ [D.non]) (by simp) hG
  obtain ⟨b0, d5, e2, t2, m2⟩ := of_r T h (by omega) t1 (G := (wOf L g).map nD ++ [D.non]) (by simp) hG
  obtain ⟨a, rfl, ha⟩ := of_opt m1
  obtain ⟨b, rfl, hb⟩ := of_opt m2
  refine ⟨d5, a, b, ?_, ha, hb, t2.mono (by omega)⟩
  have h1 := callS_t (C := run tab n) (f := x._law_of) (i := 1) (e := [s0, .mu true false d3, s2, .pu (hL S L), .pu (dN row), .pu (.int g), .pu (softD S L), .pu (.int L.length), .pu (.lst ((List.range L.length).map fun k => oD (got S L (insAt (rest row g) k g) g))), .pu (lN ((List.range L.length).map fun k => rankN (wOf L g) (got S L (insAt (rest row g) k g) g))), .pu (dN W), .pu (hL S (bent L g W)), s12, .pu (dN (rest row g)), .pu (dN (wOf L g)), .pu (oD (got S L row g)), .pu (oD (got S (bent L g W) row g)), .pu (.int k), s18, s19]) (o := true) (d1 := d3) (d1' := d4) (d := oD a) (bs := [false]) (rs := [.f (.lst ((wOf L g).map nD ++ [D.non]))]) (ds := [.lst ((wOf L g).map nD ++ [D.non])]) (fr := false) rfl rfl e1
  have h2 := callS_t (C := run tab n) (f := x._law_of) (i := 1) (e := [s0, .mu true false d4, s2, .pu (hL S L), .pu (dN row), .pu (.int g), .pu (softD S L), .pu (.int L.length), .pu (.lst ((List.range L.length).map fun k => oD (got S L (insAt (rest row g) k g) g))), .pu (lN ((List.range L.length).map fun k => rankN (wOf L g) (got S L (insAt (rest row g) k g) g))), .pu (dN W), .pu (hL S (bent L g W)), s12, .pu (dN (rest row g)), .pu (dN (wOf L g)), .pu (oD (got S L row g)), .pu (oD (got S (bent L g W) row g)), .pu (.int k), s18, s19]) (o := true) (d1 := d4) (d1' := d5) (d := oD b) (bs := [false]) (rs := [.f (.lst ((wOf L g).map nD ++ [D.non]))]) (ds := [.lst ((wOf L g).map nD ++ [D.non])]) (fr := false) rfl rfl e2
  have b1 : bltD .list [dN (wOf L g)] = some (.f (.lst ((wOf L g).map nD))) := rfl
  have b2 : binD .add (.lst ((wOf L g).map nD)) (.lst [.non]) = some (.f (.lst ((wOf L g).map nD ++ [D.non]))) := by
    show (if ((wOf L g).map nD).length + [D.non].length ≤ lim then some (R.f (.lst ((wOf L g).map nD ++ [D.non]))) else none) = _
    rw [if_pos (by unfold lim; simp; omega)]
  simp at h1 h2
  simp [-getElem?_pos, ev_var, b1, b2, lim, h1, h2, calmRs, putRs, putR]
end
end Lt.Hx
end
section
set_option maxRecDepth 100000
set_option maxHeartbeats 2000000
namespace Lt.Hx
open PySem
section
variable {tab : List Df} {x : Ix}
variable {s0 s2 s8 s9 s10 s11 s12 s13 s14 s15 s16 s17 s18 s19 : Sl}
theorem g_9 (T : Has tab x) {n : Nat} (h : 8 ≤ n) {S : List Nat} {L : List (List Nat)} (hh : OkHall S L) {row W : List Nat} (hr : isRow L row) {g k : Nat} (hg : g < L.length) (hk : k < L.length) {d5 : D} {a b : Option Nat} : es (run tab n) (.set 12 false (.lst (.cons (.call x.got_all [false, false, false] (.cons (.var 6) (.cons (.blt .list (.cons (.var 4) .nil)) (.cons (.var 5) .nil)))) (.cons (.call x.got_at [false, false, false, false] (.cons (.var 3) (.cons (.blt .list (.cons (.var 4) .nil)) (.cons (.var 5) (.cons (.var 17) .nil))))) .nil)))) [s0, .mu true false d5, s2, .pu (hL S L), .pu (dN row), .pu (.int g), .pu (softD S L), .pu (.int L.length), .pu (.lst ((List.range L.length).map fun k => oD (got S L (insAt (rest row g) k g) g))), .pu (lN ((List.range L.length).map fun k => rankN (wOf L g) (got S L (insAt (rest row g) k g) g))), .pu (dN W), .pu (hL S (bent L g W)), s12, .pu (dN (rest row g)), .pu (dN (wOf L g)), .pu (oD (got S L row g)), .pu (oD (got S (bent L g W) row g)), .pu (.int k), .pu (oD a), .pu (oD b)] = .nx [s0, .mu true false d5, s2, .pu (hL S L), .pu (dN row), .pu (.int g), .pu (softD S L), .pu (.int L.length), .pu (.lst ((List.range L.length).map fun k => oD (got S L (insAt (rest row g) k g) g))), .pu (lN ((List.range L.length).map fun k => rankN (wOf L g) (got S L (insAt (rest row g) k g) g))), .pu (dN W), .pu (hL S (bent L g W)), .pu (.lst [.tup ((List.range L.length).map fun k => oD (got S L (insAt (rest row g) k g) g)), oD (got S L (insAt (rest row g) k g) g)]), .pu (dN (rest row g)), .pu (dN (wOf L g)), .pu (oD (got S L row g)), .pu (oD (got S (bent L g W) row g)), .pu (.int k), .pu (oD a), .pu (oD b)] := by
  have q1 := got_all_r T (n := n) (by omega) hh (Or.inr rfl) hr (Or.inr rfl) hg (q := lN row)
  have q2 := got_at_r T (n := n) (by omega) hh (Or.inl rfl) hr (Or.inr rfl) hg hk (q := lN row)
  have b1 : bltD .list [dN row] = some (.f (lN row)) := rfl
  simp [-getElem?_pos, ev_var, b1, q1, q2, lim, putR]
theorem g_10 (T : Has tab x) {n : Nat} (h : 8 ≤ n) {S : List Nat} {L : List (List Nat)} (hh : OkHall S L) {row W : List Nat} (hW : OkList S.length W) (hr : isRow L row) {g k : Nat} (hg : g < L.length) {d5 : D} {a b : Option Nat} (ha : Among (wOf L g) a) (hb : Among (wOf L g) b) : es (run tab n) (.set 12 false (.bin .add (.var 12) (.lst (.cons (.call x.got_with [false, false, false, false] (.cons (.var 6) (.cons (.var 4) (.cons (.var 5) (.cons (.blt .list (.cons (.var 10) .nil)) .nil))))) (.cons (.call x.is_better [false, false, false, false] (.cons (.var 6) (.cons (.var 5) (.cons (.var 18) (.cons (.var 19) .nil))))) .nil))))) [s0, .mu true false d5, s2, .pu (hL S L), .pu (dN row), .pu (.int g), .pu (softD S L), .pu (.int L.length), .pu (.lst ((List.range L.length).map fun k => oD (got S L (insAt (rest row g) k g) g))), .pu (lN ((List.range L.length).map fun k => rankN (wOf L g) (got S L (insAt (rest row g) k g) g))), .pu (dN W), .pu (hL S (bent L g W)), .pu (.lst [.tup ((List.range L.length).map fun k => oD (got S L (insAt (rest row g) k g) g)), oD (got S L (insAt (rest row g) k g) g)]), .pu (dN (rest row g)), .pu (dN (wOf L g)), .pu (oD (got S L row g)), .pu (oD (got S (bent L g W) row g)), .pu (.int k), .pu (oD a), .pu (oD b)] = .nx [s0, .mu true false d5, s2, .pu (hL S L), .pu (dN row), .pu (.int g), .pu (softD S L), .pu (.int L.length), .pu (.lst ((List.range L.length).map fun k => oD (got S L (insAt (rest row g) k g) g))), .pu (lN ((List.range L.length).map fun k => rankN (wOf L g) (got S L (insAt (rest row g) k g) g))), .pu (dN W), .pu (hL S (bent L g W)), .pu (.lst [.tup ((List.range L.length).map fun k => oD (got S L (insAt (rest row g) k g) g)), oD (got S L (insAt (rest row g) k g) g), oD (got S (bent L g W) row g), .bl (decide (rankN (wOf L g) a < rankN (wOf L g) b))]), .pu (dN (rest row g)), .pu (dN (wOf L g)), .pu (oD (got S L row g)), .pu (oD (got S (bent L g W) row g)), .pu (.int k), .pu (oD a), .pu (oD b)] := by
  have q1 := got_with_r T (n := n) (by omega) hh (Or.inr rfl) hr (Or.inl rfl) hg hW (Or.inr rfl) (q := dN row) (r := lN W)
  have q2 := is_better_r T (n := n) (by omega) hh (Or.inr rfl) hg ha hb
  have b1 : bltD .list [dN W] = some (.f (lN W)) := rfl
  have b2 : ∀ p q r s : D, binD .add (.lst [p, q]) (.lst [r, s]) = some (.f (.lst [p, q, r, s])) := fun p q r s => by
    show (if [p, q].length + [r, s].length ≤ lim then some (R.f (.lst ([p, q] ++ [r, s]))) else none) = _
    rw [if_pos (by unfold lim; simp)]
    rfl
  simp [-getElem?_pos, ev_var, b1, q1, q2, lim, b2, putR]
theorem full_plain {l : List D} (hl : D.plains l = true) {a b c : D} (ha : a.plain = true) (hb : b.plain = true) (hc : c.plain = true) : (D.lst [.tup l, a, b, c]).plain = true := by
  show (D.plains l && (a.plain && (b.plain && (c.plain && true)))) = true
  rw [hl, ha, hb, hc]
  rfl
theorem g_11 (T : Has tab x) {n : Nat} (h : 8 ≤ n) {S : List Nat} {L : List (List Nat)} (hh : OkHall S L) {row W : List Nat} {g k : Nat} (hk : k < L.length) {d5 : D} {a b : Option Nat} (ha : Among (wOf L g) a) (hb : Among (wOf L g) b) : es (run tab n) (.ite (.not (.call x._law_same [false, false] (.cons (.var 12) (.cons (.lst (.cons (.blt .tuple (.cons (.var 8) .nil)) (.cons (.ix (.var 8) (.var 17)) (.cons (.var 16) (.cons (.cmp .lt (.call x._law_rank [false, false] (.cons (.var 14) (.cons (.var 18) .nil))) (.call x._law_rank [false, false] (.cons (.var 14) (.cons (.var 19) .nil)))) .nil))))) .nil)))) (.cons (.ret (.cst (.bl false)))
  .nil) .nil) [s0, .mu true false d5, s2, .pu (hL S L), .pu (dN row), .pu (.int g), .pu (softD S L), .pu (.int L.length), .pu (.lst ((List.range L.length).map fun k => oD (got S L (insAt (rest row g) k g) g))), .pu (lN ((List.range L.length).map fun k => rankN (wOf L g) (got S L (insAt (rest row g) k g) g))), .pu (dN W), .pu (hL S (bent L g W)), .pu (.lst [.tup ((List.range L.length).map fun k => oD (got S L (insAt (rest row g) k g) g)), oD (got S L (insAt (rest row g) k g) g), oD (got S (bent L g W) row g), .bl (decide (rankN (wOf L g) a < rankN (wOf L g) b))]), .pu (dN (rest row g)), .pu (dN (wOf L g)), .pu (oD (got S L row g)), .pu (oD (got S (bent L g W) row g)), .pu (.int k), .pu (oD a), .pu (oD b)] = .nx [s0, .mu true false d5, s2, .pu (hL S L), .pu (dN row), .pu (.int g), .pu (softD S L), .pu (.int L.length), .pu (.lst ((List.range L.length).map fun k => oD (got S L (insAt (rest row g) k g) g))), .pu (lN ((List.range L.length).map fun k => rankN (wOf L g) (got S L (insAt (rest row g) k g) g))), .pu (dN W), .pu (hL S (bent L g W)), .pu (.lst [.tup ((List.range L.length).map fun k => oD (got S L (insAt (rest row g) k g) g)), oD (got S L (insAt (rest row g) k g) g), oD (got S (bent L g W) row g), .bl (decide (rankN (wOf L g) a < rankN (wOf L g) b))]), .pu (dN (rest row g)), .pu (dN (wOf L g)), .pu (oD (got S L row g)), .pu (oD (got S (bent L g W) row g)), .pu (.int k), .pu (oD a), .pu (oD b)] := by
  have r1 := law_rank_r T (n := n) (by omega) ha
  have r2 := law_rank_r T (n := n) (by omega) hb
  have i1 : ixD (.lst ((List.range L.length).map fun k => oD (got S L (insAt (rest row g) k g) g))) (.int k) = some (oD (got S L (insAt (rest row g) k g) g)) := by
    rw [ix_lst]
    simp [hk]
  have sm : run tab n x._law_same [.lst [.tup ((List.range L.length).map fun k => oD (got S L (insAt (rest row g) k g) g)), oD (got S L (insAt (rest row g) k g) g), oD (got S (bent L g W) row g), .bl (decide (rankN (wOf L g) a < rankN (wOf L g) b))], .lst [.tup ((List.range L.length).map fun k => oD (got S L (insAt (rest row g) k g) g)), oD (got S L (insAt (rest row g) k g) g), oD (got S (bent L g W) row g), .bl (decide (rankN (wOf L g) a < rankN (wOf L g) b))]] = .rt false (.bl true) [] := by
    refine same_r T (full_plain (plains_all fun d hd => by
      obtain ⟨k, _, rfl⟩ := List.mem_map.mp hd
      exact oD_plain) oD_plain oD_plain rfl) ?_
    have h1 : D.depths ((List.range L.length).map fun k => oD (got S L (insAt (rest row g) k g) g)) ≤ 0 := depths_le fun d hd => by
      obtain ⟨k, _, rfl⟩ := List.mem_map.mp hd
      rw [oD_depth]
      exact Nat.le_refl _
    have h2 := oD_depth (o := got S L (insAt (rest row g) k g) g)
    have h3 := oD_depth (o := got S (bent L g W) row g)
    show max (D.depths ((List.range L.length).map fun k => oD (got S L (insAt (rest row g) k g) g)) + 1) (max (oD (got S L (insAt (rest row g) k g) g)).depth (max (oD (got S (bent L g W) row g)).depth (max 0 0))) + 1 < n
    omega
  have b1 : bltD .tuple [(.lst ((List.range L.length).map fun k => oD (got S L (insAt (rest row g) k g) g)))] = some (.v (.tup ((List.range L.length).map fun k => oD (got S L (insAt (rest row g) k g) g)))) := rfl
  have hd : decide ((rankN (wOf L g) a : Int) < rankN (wOf L g) b) = decide (rankN (wOf L g) a < rankN (wOf L g) b) := by
    rw [decide_eq_decide]
    omega
  simp only [es_ite, ev_not, ev_call, evl_cons, evl_nil, ev_lst, ev_blt, ev_ix, ev_cmp, ev_var, slot_0, slot_s, bind_ok, look_v, look_f, looks_v, looks_f, looks_nil, b1, lift_some, i1, Option.map_some, callR_eq, plainRs_v, plainRs_f, plainRs_0, r1, r2, resR_rt, cmp_lt, liftB_some, hd, keeps_v, keeps_nil, List.length_cons, List.length_nil, lim, Nat.reduceAdd, Nat.reduceLeDiff, if_true, sm, truth_bl, Bool.not_true, testR_ok, fl_ok, es_nil]
theorem g_12 (T : Has tab x) {n : Nat} (h : 9 ≤ n) {S : List Nat} {L : List (List Nat)} (hh : OkHall S L) {row W : List Nat} (hr : isRow L row) {g k : Nat} (hg : g < L.length) {d5 : D} {a b : Option Nat} : es (run tab n) (.ite (.not (.call x._law_stay_right [false, false, false] (.cons (.var 3) (.cons (.var 4) (.cons (.var 5) .nil))))) (.cons (.ret (.cst (.bl false)))
  .nil) .nil) [s0, .mu true false d5, s2, .pu (hL S L), .pu (dN row), .pu (.int g), .pu (softD S L), .pu (.int L.length), .pu (.lst ((List.range L.length).map fun k => oD (got S L (insAt (rest row g) k g) g))), .pu (lN ((List.range L.length).map fun k => rankN (wOf L g) (got S L (insAt (rest row g) k g) g))), .pu (dN W), .pu (hL S (bent L g W)), .pu (.lst [.tup ((List.range L.length).map fun k => oD (got S L (insAt (rest row g) k g) g)), oD (got S L (insAt (rest row g) k g) g), oD (got S (bent L g W) row g), .bl (decide (rankN (wOf L g) a < rankN (wOf L g) b))]), .pu (dN (rest row g)), .pu (dN (wOf L g)), .pu (oD (got S L row g)), .pu (oD (got S (bent L g W) row g)), .pu (.int k), .pu (oD a), .pu (oD b)] = .nx [s0, .mu true false d5, s2, .pu (hL S L), .pu (dN row), .pu (.int g), .pu (softD S L), .pu (.int L.length), .pu (.lst ((List.range L.length).map fun k => oD (got S L (insAt (rest row g) k g) g))), .pu (lN ((List.range L.length).map fun k => rankN (wOf L g) (got S L (insAt (rest row g) k g) g))), .pu (dN W), .pu (hL S (bent L g W)), .pu (.lst [.tup ((List.range L.length).map fun k => oD (got S L (insAt (rest row g) k g) g)), oD (got S L (insAt (rest row g) k g) g), oD (got S (bent L g W) row g), .bl (decide (rankN (wOf L g) a < rankN (wOf L g) b))]), .pu (dN (rest row g)), .pu (dN (wOf L g)), .pu (oD (got S L row g)), .pu (oD (got S (bent L g W) row g)), .pu (.int k), .pu (oD a), .pu (oD b)] := by
  have q := law_stay_r T h hh hr hg
  simp only [es_ite, ev_not, ev_call, evl_cons, evl_nil, ev_var, slot_0, slot_s, bind_ok, look_v, callR_eq, plainRs_v, plainRs_0, Option.map_some, q, resR_rt, truth_bl, Bool.not_true, liftB_some, testR_ok, fl_ok, es_nil]
theorem guest_turn (T : Has tab x) {n : Nat} (h : 9 ≤ n) {S : List Nat} {L : List (List Nat)} (hh : OkHall S L) (hK : S.length ≤ 4) {row : List Nat} (hr : isRow L row) {g : Nat} (hg : g < L.length) {d : D} {c : Nat} (hc : c ≤ 90000) (ht : Tn c d) {s5 : Sl} :
    ∃ (d' : D) (v8 v9 v10 v11 v12 v13 v14 v15 v16 v17 v18 v19 : Sl), turnF (run tab n) (.nm 5) (gB x) (nD g) [s0, .mu true false d, s2, .pu (hL S L), .pu (dN row), s5, .pu (softD S L), .pu (.int L.length), s8, s9, s10, s11, s12, s13, s14, s15, s16, s17, s18, s19] = .nx [s0, .mu true false d', s2, .pu (hL S L), .pu (dN row), .pu (.int g), .pu (softD S L), .pu (.int L.length), v8, v9, v10, v11, v12, v13, v14, v15, v16, v17, v18, v19] ∧ Tn (c + 10) d' := by
  obtain ⟨d2, W, e4, hW, t4⟩ := g_4 T (n := n) (by omega) hh hK (row := row) (g := g) (c := c) (by omega) ht (s0 := s0) (s2 := s2) (s10 := s10) (s11 := s11) (s12 := s12) (s15 := s15) (s16 := s16) (s17 := s17) (s18 := s18) (s19 := s19)
  obtain ⟨d3, k, e6, hk, t6⟩ := g_6 T (n := n) (by omega) hh hW hr hg (c := c + 5) (by omega) t4 (s0 := s0) (s2 := s2) (s12 := s12) (s15 := s15) (s16 := s16) (s17 := s17) (s18 := s18) (s19 := s19)
  obtain ⟨d5, a, b, e8, ha, hb, t8⟩ := g_8 T (n := n) (by omega) hh (row := row) (W := W) (k := k) hg (c := c + 5 + 1) (by omega) t6 (s0 := s0) (s2 := s2) (s12 := s12) (s18 := s18) (s19 := s19)
  refine ⟨d5, (.pu (.lst ((List.range L.length).map fun k => oD (got S L (insAt (rest row g) k g) g)))), (.pu (lN ((List.range L.length).map fun k => rankN (wOf L g) (got S L (insAt (rest row g) k g) g)))), (.pu (dN W)), (.pu (hL S (bent L g W))), (.pu (.lst [.tup ((List.range L.length).map fun k => oD (got S L (insAt (rest row g) k g) g)), oD (got S L (insAt (rest row g) k g) g), oD (got S (bent L g W) row g), .bl (decide (rankN (wOf L g) a < rankN (wOf L g) b))])), (.pu (dN (rest row g))), (.pu (dN (wOf L g))), (.pu (oD (got S L row g))), (.pu (oD (got S (bent L g W) row g))), (.pu (.int k)), (.pu (oD a)), (.pu (oD b)), ?_, t8.mono (by omega)⟩
  show (match asg (.nm 5) (nD g) [s0, .mu true false d, s2, .pu (hL S L), .pu (dN row), s5, .pu (softD S L), .pu (.int L.length), s8, s9, s10, s11, s12, s13, s14, s15, s16, s17, s18, s19] with
    | some e3 => es (run tab n) (gB x) e3
    | none => .st) = _
  rw [asg_nm]
  show es (run tab n) (gB x) [s0, .mu true false d, s2, .pu (hL S L), .pu (dN row), .pu (.int g), .pu (softD S L), .pu (.int L.length), s8, s9, s10, s11, s12, s13, s14, s15, s16, s17, s18, s19] = _
  unfold gB
  rw [es_go (g_1 hg), es_go (g_2 T (by omega) hh hr hg), es_go (g_3 T (by omega)), es_go e4, es_go (g_5 hh hg), es_go e6, es_go (g_7 T (by omega) hr hg), es_go e8, es_go (g_9 T (by omega) hh hr hg hk), es_go (g_10 T (by omega) hh hW hr hg ha hb), es_go (g_11 T (by omega) hh hk ha hb), es_go (g_12 T (by omega) hh hr hg), es_nil]
end
end Lt.Hx
end
section
set_option maxRecDepth 100000
set_option maxHeartbeats 2000000
namespace Lt.Hx
open PySem
theorem row_of {m : Nat} {l pool : List Nat} (hp : (pool ++ l).Perm (List.range m)) (hl : l.length = min m (List.range m).length) : l.Perm (List.range m) := by
  have h := hp.length_eq
  simp at h hl
  have : pool = [] := by
    cases pool with
    | nil => rfl
    | cons a r => simp at h; omega
  rw [this] at hp
  exact hp
section
variable {tab : List Df} {x : Ix}
theorem guest_go (T : Has tab x) {n : Nat} (h : 9 ≤ n) {S : List Nat} {L : List (List Nat)} (hh : OkHall S L) (hK : S.length ≤ 4) {row : List Nat} (hr : isRow L row) {s0 s2 : Sl} : ∀ {gs : List Nat} (hg : ∀ g ∈ gs, g < L.length) {c : Nat} (hc : c + 10 * gs.length ≤ 90000) {d : D} (ht : Tn c d) {s5 s8 s9 s10 s11 s12 s13 s14 s15 s16 s17 s18 s19 : Sl},
    ∃ (d' : D) (v5 v8 v9 v10 v11 v12 v13 v14 v15 v16 v17 v18 v19 : Sl), forGo (turnF (run tab n) (.nm 5) (gB x)) (gs.map nD) [s0, .mu true false d, s2, .pu (hL S L), .pu (dN row), s5, .pu (softD S L), .pu (.int L.length), s8, s9, s10, s11, s12, s13, s14, s15, s16, s17, s18, s19] = .nx [s0, .mu true false d', s2, .pu (hL S L), .pu (dN row), v5, .pu (softD S L), .pu (.int L.length), v8, v9, v10, v11, v12, v13, v14, v15, v16, v17, v18, v19] ∧ Tn (c + 10 * gs.length) d'
  | [], _, c, hc, d, ht, s5, s8, s9, s10, s11, s12, s13, s14, s15, s16, s17, s18, s19 => ⟨d, s5, s8, s9, s10, s11, s12, s13, s14, s15, s16, s17, s18, s19, rfl, ht⟩
  | g :: gs, hg, c, hc, d, ht, s5, s8, s9, s10, s11, s12, s13, s14, s15, s16, s17, s18, s19 => by
    have hl : (g :: gs).length = gs.length + 1 := rfl
    obtain ⟨d1, v8, v9, v10, v11, v12, v13, v14, v15, v16, v17, v18, v19, e1, t1⟩ := guest_turn T h hh hK hr (hg g (List.mem_cons_self ..)) (c := c) (by omega) ht (s0 := s0) (s2 := s2) (s5 := s5) (s8 := s8) (s9 := s9) (s10 := s10) (s11 := s11) (s12 := s12) (s13 := s13) (s14 := s14) (s15 := s15) (s16 := s16) (s17 := s17) (s18 := s18) (s19 := s19)
    obtain ⟨d2, w5, w8, w9, w10, w11, w12, w13, w14, w15, w16, w17, w18, w19, e2, t2⟩ := guest_go T h hh hK hr (s0 := s0) (s2 := s2) (gs := gs) (fun q hq => hg q (List.mem_cons_of_mem _ hq)) (c := c + 10) (by omega) t1 (s5 := .pu (nD g)) (s8 := v8) (s9 := v9) (s10 := v10) (s11 := v11) (s12 := v12) (s13 := v13) (s14 := v14) (s15 := v15) (s16 := v16) (s17 := v17) (s18 := v18) (s19 := v19)
    refine ⟨d2, w5, w8, w9, w10, w11, w12, w13, w14, w15, w16, w17, w18, w19, ?_, t2.mono (by omega)⟩
    rw [List.map_cons]
    unfold forGo
    rw [e1]
    exact e2
theorem lap_turn (T : Has tab x) {n : Nat} (h : 9 ≤ n) {c : Nat} (hc : c ≤ 40000) {d k : D} (ht : Tn c d) {s0 s2 s3 s4 s5 s6 s7 s8 s9 s10 s11 s12 s13 s14 s15 s16 s17 s18 s19 : Sl} :
    ∃ (d' : D) (v3 v4 v5 v6 v7 v8 v9 v10 v11 v12 v13 v14 v15 v16 v17 v18 v19 : Sl), turnF (run tab n) (.nm 2) (lB x) k [s0, .mu true false d, s2, s3, s4, s5, s6, s7, s8, s9, s10, s11, s12, s13, s14, s15, s16, s17, s18, s19]
      = .nx [s0, .mu true false d', .pu k, v3, v4, v5, v6, v7, v8, v9, v10, v11, v12, v13, v14, v15, v16, v17, v18, v19] ∧ Tn (c + 2000) d' := by
  obtain ⟨S, L, d1, e1, hh, hK, hL8, t1⟩ := hall_r T (n := n) (by omega) (c := c) (by omega) ht (w := 8) (by omega)
  have h1 := callS_t (C := run tab n) (f := x._law_hall) (i := 1) (e := [s0, .mu true false d, .pu k, s3, s4, s5, s6, s7, s8, s9, s10, s11, s12, s13, s14, s15, s16, s17, s18, s19]) (o := true) (d1 := d) (d1' := d1) (d := hL S L) (bs := [false]) (rs := [.v (.int (8 : Nat))]) (ds := [.int (8 : Nat)]) (fr := false) rfl rfl e1
  obtain ⟨l, pool, d2, e2, t2, p2, l2⟩ := pick_r T (n := n) (by omega) (c := c + 1000) (by omega) t1 (G := List.range L.length) (by simp; omega) rfl (k := L.length) (by omega)
  have hrow : isRow L l := row_of p2 l2
  have h2 := callS_t (C := run tab n) (f := x._law_pick) (i := 1) (e := [s0, .mu true false d1, .pu k, .pu (hL S L), s4, s5, .pu (softD S L), .pu (.int L.length), s8, s9, s10, s11, s12, s13, s14, s15, s16, s17, s18, s19]) (o := true) (d1 := d1) (d1' := d2) (d := lN l) (bs := [false, false]) (rs := [.f (lN (List.range L.length)), .v (.int L.length)]) (ds := [lN (List.range L.length), .int L.length]) (fr := true) rfl rfl e2
  obtain ⟨d3, v5, v8, v9, v10, v11, v12, v13, v14, v15, v16, v17, v18, v19, e3, t3⟩ := guest_go T h hh hK hrow (s0 := s0) (s2 := .pu k) (gs := List.range L.length) (fun g hg => List.mem_range.mp hg) (c := c + 1000 + L.length) (by simp; omega) t2 (s5 := s5) (s8 := s8) (s9 := s9) (s10 := s10) (s11 := s11) (s12 := s12) (s13 := s13) (s14 := s14) (s15 := s15) (s16 := s16) (s17 := s17) (s18 := s18) (s19 := s19)
  refine ⟨d3, .pu (hL S L), .pu (dN l), v5, .pu (softD S L), .pu (.int L.length), v8, v9, v10, v11, v12, v13, v14, v15, v16, v17, v18, v19, ?_, t3.mono (by simp; omega)⟩
  have l1 : run tab n x._law_lists [hL S L] = .rt true (softD S L) [] := lists_r T hL_plain (Nat.lt_of_le_of_lt hL_depth (by omega))
  have b1 := blt_rl (k := L.length) hh.few
  have b2 : bltD .tuple [lN l] = some (.v (dN l)) := rfl
  have i1 := it_rg1 (k := L.length) hh.few
  have s1 : es (run tab n) (.set 3 false (.call x._law_hall [true, false] (.cons (.var 1) (.cons (.cst (.int 8)) .nil)))) [s0, .mu true false d, .pu k, s3, s4, s5, s6, s7, s8, s9, s10, s11, s12, s13, s14, s15, s16, s17, s18, s19] = .nx [s0, .mu true false d1, .pu k, .pu (hL S L), s4, s5, s6, s7, s8, s9, s10, s11, s12, s13, s14, s15, s16, s17, s18, s19] := by
    simp at h1
    simp [ev_var, h1, putR]
  have s2' : es (run tab n) (.par [(6, false), (7, false)] (.cons (.call x._law_lists [false] (.cons (.var 3) .nil)) (.cons (.blt .len (.cons (.ix (.var 3) (.cst (.int 1))) .nil)) .nil))) [s0, .mu true false d1, .pu k, .pu (hL S L), s4, s5, s6, s7, s8, s9, s10, s11, s12, s13, s14, s15, s16, s17, s18, s19] = .nx [s0, .mu true false d1, .pu k, .pu (hL S L), s4, s5, .pu (softD S L), .pu (.int L.length), s8, s9, s10, s11, s12, s13, s14, s15, s16, s17, s18, s19] := by
    simp [ev_var, l1, calmRs, putRs, putR]
  have s3' : es (run tab n) (.set 4 false (.blt .tuple (.cons (.call x._law_pick [true, false, false] (.cons (.var 1) (.cons (.blt .rlist1 (.cons (.var 7) .nil)) (.cons (.var 7) .nil)))) .nil))) [s0, .mu true false d1, .pu k, .pu (hL S L), s4, s5, .pu (softD S L), .pu (.int L.length), s8, s9, s10, s11, s12, s13, s14, s15, s16, s17, s18, s19] = .nx [s0, .mu true false d2, .pu k, .pu (hL S L), .pu (dN l), s5, .pu (softD S L), .pu (.int L.length), s8, s9, s10, s11, s12, s13, s14, s15, s16, s17, s18, s19] := by
    simp at h2
    simp [ev_var, b1, h2, b2, putR]
  have s4' := es_for_pl (C := run tab n) (t := .nm 5) (k := .rg1) (it := .cons (.var 7) .nil) (b := gB x) (d := .int L.length) (by simp [ev_var]) i1 e3
  show (match asg (.nm 2) k [s0, .mu true false d, s2, s3, s4, s5, s6, s7, s8, s9, s10, s11, s12, s13, s14, s15, s16, s17, s18, s19] with
    | some e3 => es (run tab n) (lB x) e3
    | none => .st) = _
  rw [asg_nm]
  show es (run tab n) (lB x) [s0, .mu true false d, .pu k, s3, s4, s5, s6, s7, s8, s9, s10, s11, s12, s13, s14, s15, s16, s17, s18, s19] = _
  unfold lB
  rw [es_go s1, es_go s2', es_go s3', es_go s4', es_nil]
theorem lap_go (T : Has tab x) {n : Nat} (h : 9 ≤ n) {s0 : Sl} : ∀ {ks : List D} {c : Nat} (hc : c + 2000 * ks.length ≤ 40000) {d : D} (ht : Tn c d) {s2 s3 s4 s5 s6 s7 s8 s9 s10 s11 s12 s13 s14 s15 s16 s17 s18 s19 : Sl},
    ∃ e' : Env, forGo (turnF (run tab n) (.nm 2) (lB x)) ks [s0, .mu true false d, s2, s3, s4, s5, s6, s7, s8, s9, s10, s11, s12, s13, s14, s15, s16, s17, s18, s19] = .nx (s0 :: e')
  | [], c, hc, d, ht, s2, s3, s4, s5, s6, s7, s8, s9, s10, s11, s12, s13, s14, s15, s16, s17, s18, s19 => ⟨_, rfl⟩
  | k :: ks, c, hc, d, ht, s2, s3, s4, s5, s6, s7, s8, s9, s10, s11, s12, s13, s14, s15, s16, s17, s18, s19 => by
    have hl : (k :: ks).length = ks.length + 1 := rfl
    obtain ⟨d1, v3, v4, v5, v6, v7, v8, v9, v10, v11, v12, v13, v14, v15, v16, v17, v18, v19, e1, t1⟩ := lap_turn T h (c := c) (by omega) ht (k := k) (s0 := s0) (s2 := s2) (s3 := s3) (s4 := s4) (s5 := s5) (s6 := s6) (s7 := s7) (s8 := s8) (s9 := s9) (s10 := s10) (s11 := s11) (s12 := s12) (s13 := s13) (s14 := s14) (s15 := s15) (s16 := s16) (s17 := s17) (s18 := s18) (s19 := s19)
    obtain ⟨e', e2⟩ := lap_go T h (s0 := s0) (ks := ks) (c := c + 2000) (by omega) t1 (s2 := .pu k) (s3 := v3) (s4 := v4) (s5 := v5) (s6 := v6) (s7 := v7) (s8 := v8) (s9 := v9) (s10 := v10) (s11 := v11) (s12 := v12) (s13 := v13) (s14 := v14) (s15 := v15) (s16 := v16) (s17 := v17) (s18 := v18) (s19 := v19)
    refine ⟨e', ?_⟩
    unfold forGo
    rw [e1]
    exact e2
/-- the law -/
theorem law_r (T : Has tab x) {n : Nat} (h : 10 ≤ n) (hand : run tab (n - 1) x._law_by_hand_right [] = .rt false (.bl true) []) {ns : List Int} (hn : ns.length ≤ 63) : run tab n x.law [.lst (ns.map D.int)] = .rt false (.bl true) [] := by
  obtain ⟨m, rfl⟩ : ∃ m, n = m + 1 := ⟨n - 1, by omega⟩
  rw [run_at T.law]
  simp only [Nat.add_sub_cancel] at hand
  obtain ⟨z, hz⟩ := cells_r T (n := m) (by omega) hn
  obtain ⟨d, hd, t0, hb⟩ := box_r T (n := m) (by omega) (z := z)
  obtain ⟨e', e3⟩ := lap_go T (n := m) (by omega) (s0 := .pu (.lst (ns.map D.int))) (ks := (List.range 3).map nD) (c := 0) (by simp) t0 (s2 := .no) (s3 := .no) (s4 := .no) (s5 := .no) (s6 := .no) (s7 := .no) (s8 := .no) (s9 := .no) (s10 := .no) (s11 := .no) (s12 := .no) (s13 := .no) (s14 := .no) (s15 := .no) (s16 := .no) (s17 := .no) (s18 := .no) (s19 := .no)
  have s1 : es (run tab m) (.ite (.not (.call x._law_by_hand_right [] .nil)) (.cons (.ret (.cst (.bl false))) .nil) .nil) (Sl.pu (.lst (ns.map D.int)) :: List.replicate 19 .no) = .nx (Sl.pu (.lst (ns.map D.int)) :: List.replicate 19 .no) := by
    simp [hand]
  have s2 : es (run tab m) (.set 1 true (.call x._law_box [false, false] (.cons (.call x._law_cells [false, false] (.cons (.var 0) (.cons (.cst (.int 1)) .nil))) (.cons (.cst (.int 0)) .nil)))) (Sl.pu (.lst (ns.map D.int)) :: List.replicate 19 .no) = .nx (Sl.pu (.lst (ns.map D.int)) :: .mu true false d :: List.replicate 18 .no) := by
    simp [ev_var, hz, hd, putR, hb, List.replicate]
  have s3 := es_for_pl (C := run tab m) (t := .nm 2) (k := .rg1) (it := .cons (.cst (.int 3)) .nil) (b := lB x) (d := .int (3 : Nat)) (by simp) (it_rg1 (k := 3) (by omega)) e3
  show backs [false] (es (run tab m) (D_law x).body (Sl.pu (.lst (ns.map D.int)) :: List.replicate 19 .no)) = _
  have hB : (D_law x).body = .cons (.ite (.not (.call x._law_by_hand_right [] .nil)) (.cons (.ret (.cst (.bl false))) .nil) .nil) (.cons (.set 1 true (.call x._law_box [false, false] (.cons (.call x._law_cells [false, false] (.cons (.var 0) (.cons (.cst (.int 1)) .nil))) (.cons (.cst (.int 0)) .nil)))) (.cons (.for (.nm 2) .rg1 (.cons (.cst (.int 3)) .nil) (lB x)) (.cons (.ret (.cst (.bl true))) .nil))) := rfl
  rw [hB, es_go s1, es_go s2]
  refine (congrArg (backs _) (es_go s3)).trans ?_
  simp
end
end Lt.Hx
end
section
set_option maxRecDepth 100000
set_option maxHeartbeats 4000000
namespace Hd
open PySem PySem.Spec PyProof.Rows L2 Lt
def tp (i : Nat) : Stmt := PySem.Challenge.pw_leftwithout_k71_whole_one_stays_away.main.body.getD i (.Pass default)
def cls : List Cl := [⟨"NoGuest", false, some "guest"⟩, ⟨"NoPlace", false, some "place"⟩, ⟨"Unfit", true, none⟩]
def r0 : Rw := ⟨⟨"is_number", 0, [false], ["thing"]⟩, 5, ["thing"], []⟩
def r1 : Rw := ⟨⟨"is_from", 1, [false, false], ["thing", "least"]⟩, 6, ["thing", "least"], []⟩
def r2 : Rw := ⟨⟨"is_within", 2, [false, false, false], ["thing", "least", "most"]⟩, 7, ["thing", "least", "most"], []⟩
def r3 : Rw := ⟨⟨"is_long", 3, [false, false], ["thing", "length"]⟩, 8, ["thing", "length"], []⟩
def r4 : Rw := ⟨⟨"tupled", 4, [false], ["value"]⟩, 9, ["value", "own"], []⟩
def r5 : Rw := ⟨⟨"are_numbers", 5, [false], ["thing"]⟩, 10, ["thing", "own"], []⟩
def r6 : Rw := ⟨⟨"is_list_of", 6, [false, false], ["many", "thing"]⟩, 12, ["many", "thing", "own"], []⟩
def r7 : Rw := ⟨⟨"are_seats", 7, [false], ["thing"]⟩, 13, ["thing", "own"], []⟩
def r8 : Rw := ⟨⟨"is_hall_in", 8, [false], ["thing"]⟩, 14, ["thing", "own"], []⟩
def r9 : Rw := ⟨⟨"sure_hall", 9, [false], ["hall"]⟩, 15, ["hall", "own"], []⟩
def r10 : Rw := ⟨⟨"is_order_of_hall", 10, [false, false], ["hall", "thing"]⟩, 16, ["hall", "thing"], []⟩
def r11 : Rw := ⟨⟨"sure_hall_order", 11, [false, false], ["hall", "order"]⟩, 17, ["hall", "order", "own"], []⟩
def r12 : Rw := ⟨⟨"sure_hall_guest", 12, [false, false], ["hall", "guest"]⟩, 18, ["hall", "guest"], []⟩
def r13 : Rw := ⟨⟨"first_left", 13, [false, false], ["wishes", "left"]⟩, 19, ["wishes", "left", "goods", "place"], []⟩
def r14 : Rw := ⟨⟨"dealt_in", 14, [false, false], ["hall", "row"]⟩, 20, ["hall", "row", "guest", "left", "found"], ["found", "left"]⟩
def r15 : Rw := ⟨⟨"less_row", 15, [false, false], ["row", "guest"]⟩, 22, ["row", "guest", "own"], []⟩
def r16 : Rw := ⟨⟨"put_in", 16, [false, false, false], ["row", "guest", "number"]⟩, 23, ["row", "guest", "number", "rest"], []⟩
def r17 : Rw := ⟨⟨"moved_in_hall", 17, [false, false, false], ["hall", "order", "guest"]⟩, 24, ["hall", "order", "guest", "near", "far", "own"], []⟩
def r18 : Rw := ⟨⟨"rank_in_list", 18, [false, false], ["wishes", "place"]⟩, 25, ["wishes", "place"], []⟩
def r19 : Rw := ⟨⟨"sure_come", 19, [false, false, false], ["hall", "order", "guest"]⟩, 26, ["hall", "order", "guest", "own", "row"], []⟩
def r20 : Rw := ⟨⟨"stays_way", 20, [false, false, false], ["hall", "order", "guest"]⟩, 27, ["hall", "order", "guest", "own", "row", "told"], []⟩
def r21 : Rw := ⟨⟨"seats_on_way", 21, [false, false, false], ["hall", "order", "guest"]⟩, 28, ["hall", "order", "guest", "deal", "movers", "own", "row", "told", "other", "_"], []⟩
def r22 : Rw := ⟨⟨"got_at", 22, [false, false, false, false], ["hall", "order", "guest", "number"]⟩, 29, ["hall", "order", "guest", "number", "own", "row", "told"], []⟩
def r23 : Rw := ⟨⟨"got_all", 23, [false, false, false], ["hall", "order", "guest"]⟩, 30, ["hall", "order", "guest", "own", "row", "told", "number"], []⟩
def r24 : Rw := ⟨⟨"got_with", 24, [false, false, false, false], ["hall", "order", "guest", "wishes"]⟩, 31, ["hall", "order", "guest", "wishes", "own", "row", "told", "place"], []⟩
def r25 : Rw := ⟨⟨"is_better", 25, [false, false, false, false], ["hall", "guest", "place", "other"]⟩, 32, ["hall", "guest", "place", "other", "own", "wishes", "one"], []⟩
def r26 : Rw := ⟨⟨"_law_box", 26, [false, false], ["script", "k"]⟩, 34, ["script", "k", "bit_so"], []⟩
def r27 : Rw := ⟨⟨"_law_take", 27, [true, false], ["tin", "below_so"]⟩, 35, ["tin", "below_so", "once_so", "wide_so", "twice_so", "drawn_so"], ["tin"]⟩
def r28 : Rw := ⟨⟨"_law_cells", 28, [false, false], ["script", "most_so"]⟩, 36, ["script", "most_so", "cells_so", "k", "bit_so", "at_so"], ["cells_so"]⟩
def r29 : Rw := ⟨⟨"_law_of", 29, [true, false], ["tin", "goods_so"]⟩, 37, ["tin", "goods_so"], ["tin"]⟩
def r30 : Rw := ⟨⟨"_law_pick", 30, [true, false, false], ["tin", "goods_so", "count_so"]⟩, 38, ["tin", "goods_so", "count_so", "lap", "pool_so", "found"], ["found", "pool_so", "tin"]⟩
def r31 : Rw := ⟨⟨"_law_lists", 31, [false], ["matter"]⟩, 39, ["matter", "bit"], []⟩
def r32 : Rw := ⟨⟨"_law_same", 32, [false, false], ["got", "due"]⟩, 40, ["got", "due", "mine", "its"], []⟩
def r33 : Rw := ⟨⟨"_law_run", 33, [false, false], ["hall_so", "row_so"]⟩, 41, ["hall_so", "row_so", "own", "left_so", "found", "goods_so", "k"], ["found", "left_so"]⟩
def r34 : Rw := ⟨⟨"_law_unmarked", 34, [false], ["told_so"]⟩, 42, ["told_so"], []⟩
def r35 : Rw := ⟨⟨"_law_hall", 35, [true, false], ["tin", "most_so"]⟩, 43, ["tin", "most_so", "many_so", "seats_so", "lists_so", "k"], ["lists_so", "tin"]⟩
def r36 : Rw := ⟨⟨"_law_heard", 36, [false, false], ["door_so", "goods_so"]⟩, 44, ["door_so", "goods_so", "slip_a", "slip_b", "slip_c"], []⟩
def r37 : Rw := ⟨⟨"_law_by_hand_right", 37, [], []⟩, 45, ["soft_so", "got", "due", "door_so", "rows_so", "tea", "line", "last_so", "own", "k"], []⟩
def r38 : Rw := ⟨⟨"_law_rank", 38, [false, false], ["wishes_so", "place_so"]⟩, 46, ["wishes_so", "place_so"], []⟩
def r39 : Rw := ⟨⟨"_law_stay_right", 39, [false, false, false], ["hall_so", "walk_so", "guest_so"]⟩, 47, ["hall_so", "walk_so", "guest_so", "movers_so", "way_so", "got", "k", "soft_so", "rest_so", "near_so", "far_so", "one_so", "two_so", "gaps_so", "own", "j"], []⟩
def r40 : Rw := ⟨⟨"law", 40, [false], ["script"]⟩, 48, ["script", "tin", "lap", "hall_so", "walk_so", "guest_so", "soft_so", "many_so", "all_so", "ranks_so", "other_so", "bent_so", "got", "rest_so", "wishes_so", "own", "its", "k", "one_so", "two_so"], ["tin"]⟩
def rws0 : List (Rw) := [r0, r1, r2, r3, r4, r5, r6, r7, r8, r9, r10, r11, r12, r13, r14, r15, r16, r17, r18, r19, r20, r21, r22, r23, r24, r25, r26, r27, r28, r29]
def rws1 : List (Rw) := [r30, r31, r32, r33, r34, r35, r36, r37, r38, r39, r40]
def rws : List (Rw) := rws0 ++ rws1
theorem rows_ok : rowsB tp rws 0 = true := by decide +kernel
def tab : List Df := tabOf tp 60 cls rws
end Hd
end
section
set_option maxRecDepth 100000
namespace Hd
open PySem Lt
def d0 : Df := ⟨1, [false], 1, (.cons (.ret (.and (.isi (.var 0) [.int]) (.not (.isi (.var 0) [.bool]))))
  .nil)⟩
def d1 : Df := ⟨2, [false, false], 2, (.cons (.ret (.and (.call 0 [false] (.cons (.var 0) .nil)) (.cmp .ge (.var 0) (.var 1))))
  .nil)⟩
def d2 : Df := ⟨3, [false, false, false], 3, (.cons (.ret (.and (.call 0 [false] (.cons (.var 0) .nil)) (.chain (.var 1) .le (.var 0) .le (.var 2))))
  .nil)⟩
def d3 : Df := ⟨2, [false, false], 2, (.cons (.ret (.and (.isi (.var 0) [.tuple]) (.cmp .eq (.blt .len (.cons (.var 0) .nil)) (.var 1))))
  .nil)⟩
def d4 : Df := ⟨1, [false], 2, (.cons (.ret (.ite (.isi (.var 0) [.list, .tuple]) (.blt .tuple (.cons (.comp (.call 4 [false] (.cons (.var 1) .nil)) (.nm 1) [1] .pl (.cons (.var 0) .nil) (.cst (.bl true))) .nil)) (.var 0)))
  .nil)⟩
def d5 : Df := ⟨1, [false], 2, (.cons (.ret (.and (.isi (.var 0) [.tuple]) (.blt .all (.cons (.comp (.call 0 [false] (.cons (.var 1) .nil)) (.nm 1) [1] .pl (.cons (.var 0) .nil) (.cst (.bl true))) .nil))))
  .nil)⟩
def d6 : Df := ⟨2, [false, false], 3, (.cons (.ite (.or (.not (.isi (.var 1) [.tuple])) (.or (.cmp .eq (.var 1) (.tup .nil)) (.not (.blt .all (.cons (.comp (.call 2 [false, false, false] (.cons (.var 2) (.cons (.cst (.int 0)) (.cons (.bin .sub (.var 0) (.cst (.int 1))) .nil)))) (.nm 2) [2] .pl (.cons (.var 1) .nil) (.cst (.bl true))) .nil))))) (.cons (.ret (.cst (.bl false)))
  .nil) .nil)
  (.cons (.ret (.cmp .eq (.blt .lenset (.cons (.var 1) .nil)) (.blt .len (.cons (.var 1) .nil))))
  .nil))⟩
def d7 : Df := ⟨1, [false], 2, (.cons (.ret (.and (.isi (.var 0) [.tuple]) (.and (.cmp .ne (.var 0) (.tup .nil)) (.blt .all (.cons (.comp (.call 1 [false, false] (.cons (.var 1) (.cons (.cst (.int 1)) .nil))) (.nm 1) [1] .pl (.cons (.var 0) .nil) (.cst (.bl true))) .nil)))))
  .nil)⟩
def d8 : Df := ⟨1, [false], 2, (.cons (.ite (.or (.not (.call 3 [false, false] (.cons (.var 0) (.cons (.cst (.int 2)) .nil)))) (.or (.not (.call 7 [false] (.cons (.ix (.var 0) (.cst (.int 0))) .nil))) (.not (.isi (.ix (.var 0) (.cst (.int 1))) [.tuple])))) (.cons (.ret (.cst (.bl false)))
  .nil) .nil)
  (.cons (.ret (.blt .all (.cons (.comp (.call 6 [false, false] (.cons (.blt .len (.cons (.ix (.var 0) (.cst (.int 0))) .nil)) (.cons (.var 1) .nil))) (.nm 1) [1] .pl (.cons (.ix (.var 0) (.cst (.int 1))) .nil) (.cst (.bl true))) .nil)))
  .nil))⟩
def d9 : Df := ⟨1, [false], 2, (.cons (.set 1 false (.call 4 [false] (.cons (.var 0) .nil)))
  (.cons (.ite (.not (.call 8 [false] (.cons (.var 1) .nil))) (.cons (.rais 2 .nil)
  .nil) .nil)
  (.cons (.ret (.var 1))
  .nil)))⟩
def d10 : Df := ⟨2, [false, false], 2, (.cons (.ret (.and (.call 5 [false] (.cons (.var 1) .nil)) (.cmp .eq (.blt .sorted (.cons (.var 1) .nil)) (.blt .rlist1 (.cons (.blt .len (.cons (.ix (.var 0) (.cst (.int 1))) .nil)) .nil)))))
  .nil)⟩
def d11 : Df := ⟨2, [false, false], 3, (.cons (.set 2 false (.call 4 [false] (.cons (.var 1) .nil)))
  (.cons (.ite (.not (.call 10 [false, false] (.cons (.var 0) (.cons (.var 2) .nil)))) (.cons (.rais 2 .nil)
  .nil) .nil)
  (.cons (.ret (.var 2))
  .nil)))⟩
def d12 : Df := ⟨2, [false, false], 2, (.cons (.ite (.not (.call 0 [false] (.cons (.var 1) .nil))) (.cons (.rais 2 .nil)
  .nil) .nil)
  (.cons (.ite (.not (.call 2 [false, false, false] (.cons (.var 1) (.cons (.cst (.int 0)) (.cons (.bin .sub (.blt .len (.cons (.ix (.var 0) (.cst (.int 1))) .nil)) (.cst (.int 1))) .nil))))) (.cons (.rais 0 (.cons (.var 1) .nil))
  .nil) .nil)
  (.cons (.ret (.var 1))
  .nil)))⟩
def d13 : Df := ⟨2, [false, false], 4, (.cons (.set 2 false (.comp (.var 3) (.nm 3) [3] .pl (.cons (.var 0) .nil) (.cmp .gt (.ix (.var 1) (.var 3)) (.cst (.int 0)))))
  (.cons (.ret (.ite (.cmp .ne (.var 2) (.lst .nil)) (.ix (.var 2) (.cst (.int 0))) (.cst .non)))
  .nil))⟩
def d14 : Df := ⟨2, [false, false], 5, (.cons (.par [(3, true), (4, true)] (.cons (.blt .list (.cons (.ix (.var 0) (.cst (.int 0))) .nil)) (.cons (.bin .mul (.lst (.cons (.cst .non) .nil)) (.blt .len (.cons (.ix (.var 0) (.cst (.int 1))) .nil))) .nil)))
  (.cons (.for (.nm 2) .pl (.cons (.var 1) .nil) (.cons (.six 4 (.var 2) (.call 13 [false, false] (.cons (.ix (.ix (.var 0) (.cst (.int 1))) (.var 2)) (.cons (.var 3) .nil))))
  (.cons (.ite (.cmp .notn (.ix (.var 4) (.var 2)) (.cst .non)) (.cons (.aix 3 (.ix (.var 4) (.var 2)) .sub (.cst (.int 1)))
  .nil) .nil)
  .nil)))
  (.cons (.ret (.blt .tuple (.cons (.var 4) .nil)))
  .nil)))⟩
def d15 : Df := ⟨2, [false, false], 3, (.cons (.ret (.blt .tuple (.cons (.comp (.var 2) (.nm 2) [2] .pl (.cons (.var 0) .nil) (.cmp .ne (.var 2) (.var 1))) .nil)))
  .nil)⟩
def d16 : Df := ⟨3, [false, false, false], 4, (.cons (.set 3 false (.call 15 [false, false] (.cons (.var 0) (.cons (.var 1) .nil))))
  (.cons (.ret (.bin .add (.bin .add (.sl (.var 3) (.cst .non) (.var 2)) (.tup (.cons (.var 1) .nil))) (.sl (.var 3) (.var 2) (.cst .non))))
  .nil))⟩
def d17 : Df := ⟨3, [false, false, false], 6, (.cons (.par [(3, false), (4, false)] (.cons (.call 14 [false, false] (.cons (.var 0) (.cons (.var 1) .nil))) (.cons (.call 14 [false, false] (.cons (.var 0) (.cons (.call 15 [false, false] (.cons (.var 1) (.cons (.var 2) .nil))) .nil))) .nil)))
  (.cons (.ret (.blt .tuple (.cons (.comp (.tup (.cons (.var 5) (.cons (.ix (.var 4) (.var 5)) .nil))) (.nm 5) [5] .pl (.cons (.var 1) .nil) (.and (.cmp .ne (.var 5) (.var 2)) (.cmp .ne (.ix (.var 3) (.var 5)) (.ix (.var 4) (.var 5))))) .nil)))
  .nil))⟩
def d18 : Df := ⟨2, [false, false], 2, (.cons (.ret (.ite (.cmp .isn (.var 1) (.cst .non)) (.blt .len (.cons (.var 0) .nil)) (.idx (.var 0) (.var 1))))
  .nil)⟩
def d19 : Df := ⟨3, [false, false, false], 5, (.cons (.set 3 false (.call 9 [false] (.cons (.var 0) .nil)))
  (.cons (.set 4 false (.call 11 [false, false] (.cons (.var 3) (.cons (.var 1) .nil))))
  (.cons (.ret (.tup (.cons (.var 3) (.cons (.var 4) (.cons (.call 12 [false, false] (.cons (.var 3) (.cons (.var 2) .nil))) .nil)))))
  .nil)))⟩
def d20 : Df := ⟨3, [false, false, false], 6, (.cons (.tset (.tp (.cons (.nm 3) (.cons (.nm 4) (.cons (.nm 5) .nil)))) (.call 19 [false, false, false] (.cons (.var 0) (.cons (.var 1) (.cons (.var 2) .nil)))))
  (.cons (.ret (.call 17 [false, false, false] (.cons (.var 3) (.cons (.var 4) (.cons (.var 5) .nil)))))
  .nil))⟩
def d21 : Df := ⟨3, [false, false, false], 10, (.cons (.tset (.tp (.cons (.nm 5) (.cons (.nm 6) (.cons (.nm 7) .nil)))) (.call 19 [false, false, false] (.cons (.var 0) (.cons (.var 1) (.cons (.var 2) .nil)))))
  (.cons (.set 3 false (.call 14 [false, false] (.cons (.var 5) (.cons (.var 6) .nil))))
  (.cons (.ite (.cmp .isn (.ix (.var 3) (.var 7)) (.cst .non)) (.cons (.ret (.tup .nil))
  .nil) .nil)
  (.cons (.set 4 false (.comp (.var 8) (.tp (.cons (.nm 8) (.cons (.nm 9) .nil))) [8, 9] .pl (.cons (.call 17 [false, false, false] (.cons (.var 5) (.cons (.var 6) (.cons (.var 7) .nil)))) .nil) (.cst (.bl true))))
  (.cons (.ret (.blt .tuple (.cons (.bin .add (.lst (.cons (.ix (.var 3) (.var 7)) .nil)) (.comp (.ix (.var 3) (.var 8)) (.nm 8) [8] .pl (.cons (.var 4) .nil) (.cmp .notn (.ix (.var 3) (.var 8)) (.cst .non)))) .nil)))
  .nil)))))⟩
def d22 : Df := ⟨4, [false, false, false, false], 7, (.cons (.set 4 false (.call 9 [false] (.cons (.var 0) .nil)))
  (.cons (.set 5 false (.call 11 [false, false] (.cons (.var 4) (.cons (.var 1) .nil))))
  (.cons (.ite (.or (.not (.call 0 [false] (.cons (.var 2) .nil))) (.not (.call 0 [false] (.cons (.var 3) .nil)))) (.cons (.rais 2 .nil)
  .nil) .nil)
  (.cons (.set 6 false (.call 12 [false, false] (.cons (.var 4) (.cons (.var 2) .nil))))
  (.cons (.ite (.not (.call 2 [false, false, false] (.cons (.var 3) (.cons (.cst (.int 0)) (.cons (.bin .sub (.blt .len (.cons (.var 5) .nil)) (.cst (.int 1))) .nil))))) (.cons (.rais 1 (.cons (.var 3) .nil))
  .nil) .nil)
  (.cons (.ret (.ix (.call 14 [false, false] (.cons (.var 4) (.cons (.call 16 [false, false, false] (.cons (.var 5) (.cons (.var 6) (.cons (.var 3) .nil)))) .nil))) (.var 6)))
  .nil))))))⟩
def d23 : Df := ⟨3, [false, false, false], 7, (.cons (.tset (.tp (.cons (.nm 3) (.cons (.nm 4) (.cons (.nm 5) .nil)))) (.call 19 [false, false, false] (.cons (.var 0) (.cons (.var 1) (.cons (.var 2) .nil)))))
  (.cons (.ret (.blt .tuple (.cons (.comp (.ix (.call 14 [false, false] (.cons (.var 3) (.cons (.call 16 [false, false, false] (.cons (.var 4) (.cons (.var 5) (.cons (.var 6) .nil)))) .nil))) (.var 5)) (.nm 6) [6] .rg1 (.cons (.blt .len (.cons (.var 4) .nil)) .nil) (.cst (.bl true))) .nil)))
  .nil))⟩
def d24 : Df := ⟨4, [false, false, false, false], 8, (.cons (.set 4 false (.call 9 [false] (.cons (.var 0) .nil)))
  (.cons (.set 5 false (.call 11 [false, false] (.cons (.var 4) (.cons (.var 1) .nil))))
  (.cons (.ite (.not (.call 0 [false] (.cons (.var 2) .nil))) (.cons (.rais 2 .nil)
  .nil) .nil)
  (.cons (.set 6 false (.call 4 [false] (.cons (.var 3) .nil)))
  (.cons (.ite (.not (.call 6 [false, false] (.cons (.blt .len (.cons (.ix (.var 4) (.cst (.int 0))) .nil)) (.cons (.var 6) .nil)))) (.cons (.rais 2 .nil)
  .nil) .nil)
  (.cons (.set 7 false (.call 12 [false, false] (.cons (.var 4) (.cons (.var 2) .nil))))
  (.cons (.ret (.ix (.call 14 [false, false] (.cons (.tup (.cons (.ix (.var 4) (.cst (.int 0))) (.cons (.bin .add (.bin .add (.sl (.ix (.var 4) (.cst (.int 1))) (.cst .non) (.var 7)) (.tup (.cons (.var 6) .nil))) (.sl (.ix (.var 4) (.cst (.int 1))) (.bin .add (.var 7) (.cst (.int 1))) (.cst .non))) .nil))) (.cons (.var 5) .nil))) (.var 7)))
  .nil)))))))⟩
def d25 : Df := ⟨4, [false, false, false, false], 7, (.cons (.set 4 false (.call 9 [false] (.cons (.var 0) .nil)))
  (.cons (.ite (.or (.not (.call 0 [false] (.cons (.var 1) .nil))) (.not (.blt .all (.cons (.comp (.or (.cmp .isn (.var 6) (.cst .non)) (.call 0 [false] (.cons (.var 6) .nil))) (.nm 6) [6] .pl (.cons (.tup (.cons (.var 2) (.cons (.var 3) .nil))) .nil) (.cst (.bl true))) .nil)))) (.cons (.rais 2 .nil)
  .nil) .nil)
  (.cons (.set 5 false (.ix (.ix (.var 4) (.cst (.int 1))) (.call 12 [false, false] (.cons (.var 4) (.cons (.var 1) .nil)))))
  (.cons (.for (.nm 6) .pl (.cons (.tup (.cons (.var 2) (.cons (.var 3) .nil))) .nil) (.cons (.ite (.and (.cmp .notn (.var 6) (.cst .non)) (.cmp .notin (.var 6) (.var 5))) (.cons (.rais 1 (.cons (.var 6) .nil))
  .nil) .nil)
  .nil))
  (.cons (.ret (.cmp .lt (.call 18 [false, false] (.cons (.var 5) (.cons (.var 2) .nil))) (.call 18 [false, false] (.cons (.var 5) (.cons (.var 3) .nil)))))
  .nil)))))⟩
def d26 : Df := ⟨2, [false, false], 3, (.cons (.set 2 false (.ite (.cmp .lt (.var 1) (.blt .len (.cons (.var 0) .nil))) (.ix (.var 0) (.var 1)) (.cst (.int 0))))
  (.cons (.ret (.lst (.cons (.bin .mul (.blt .abs (.cons (.var 2) .nil)) (.blt .int (.cons (.cmp .ge (.blt .abs (.cons (.var 2) .nil)) (.bin .pow (.cst (.int 10)) (.cst (.int 18)))) .nil))) (.cons (.bin .add (.bin .add (.bin .mod (.blt .int (.cons (.var 2) .nil)) (.cst (.int 2305843009213693951))) (.bin .mul (.cst (.int 39373)) (.var 1))) (.cst (.int 3196071))) (.cons (.cst (.int 0)) .nil)))))
  .nil))⟩
def d27 : Df := ⟨2, [true, false], 6, (.cons (.ite (.cmp .gt (.ix (.var 0) (.cst (.int 0))) (.cst (.int 0))) (.cons (.set 5 false (.bin .mod (.blt .int (.cons (.ix (.var 0) (.cst (.int 0))) .nil)) (.var 1)))
  (.cons (.six 0 (.cst (.int 0)) (.bin .fdiv (.ix (.var 0) (.cst (.int 0))) (.var 1)))
  (.cons (.ret (.var 5))
  .nil))) .nil)
  (.cons (.six 0 (.cst (.int 2)) (.bin .add (.ix (.var 0) (.cst (.int 2))) (.cst (.int 1))))
  (.cons (.set 2 false (.bin .mod (.blt .int (.cons (.bin .mul (.bin .add (.ix (.var 0) (.cst (.int 1))) (.bin .mul (.cst (.int 48271)) (.ix (.var 0) (.cst (.int 2))))) (.bin .add (.cst (.int 39373)) (.ix (.var 0) (.cst (.int 2))))) .nil)) (.cst (.int 2147483647))))
  (.cons (.set 3 false (.bin .add (.bin .mod (.blt .int (.cons (.var 2) .nil)) (.cst (.int 40009))) (.cst (.int 7))))
  (.cons (.set 4 false (.bin .mod (.blt .int (.cons (.bin .mul (.bin .add (.bin .add (.var 2) (.ix (.var 0) (.cst (.int 2)))) (.bin .fdiv (.ix (.var 0) (.cst (.int 1))) (.cst (.int 1000003)))) (.var 3)) .nil)) (.cst (.int 2147483629))))
  (.cons (.ret (.bin .mod (.blt .int (.cons (.bin .fdiv (.bin .mod (.blt .int (.cons (.bin .add (.bin .mul (.var 4) (.cst (.int 48271))) (.var 2)) .nil)) (.cst (.int 2147483587))) (.cst (.int 64))) .nil)) (.var 1)))
  .nil))))))⟩
def d28 : Df := ⟨2, [false, false], 6, (.cons (.set 2 true (.or (.blt .list (.cons (.sl (.var 0) (.cst .non) (.var 1)) .nil)) (.lst (.cons (.cst (.int 0)) .nil))))
  (.cons (.for (.tp (.cons (.nm 3) (.cons (.nm 4) .nil))) .en (.cons (.sl (.var 0) (.var 1) (.cst (.int 63))) .nil) (.cons (.set 5 false (.bin .mod (.blt .int (.cons (.var 3) .nil)) (.var 1)))
  (.cons (.six 2 (.var 5) (.bin .add (.ix (.var 2) (.var 5)) (.bin .mul (.var 4) (.bin .add (.var 3) (.cst (.int 2))))))
  .nil)))
  (.cons (.ret (.var 2))
  .nil)))⟩
def d29 : Df := ⟨2, [true, false], 2, (.cons (.ret (.ix (.var 1) (.call 27 [true, false] (.cons (.var 0) (.cons (.blt .len (.cons (.var 1) .nil)) .nil)))))
  .nil)⟩
def d30 : Df := ⟨3, [true, false, false], 6, (.cons (.par [(4, true), (5, true)] (.cons (.blt .list (.cons (.var 1) .nil)) (.cons (.lst .nil) .nil)))
  (.cons (.for (.nm 3) .rg1 (.cons (.blt .min2 (.cons (.blt .int (.cons (.var 2) .nil)) (.cons (.blt .len (.cons (.var 4) .nil)) .nil))) .nil) (.cons (.ex (.app 5 (.popa 4 (.call 27 [true, false] (.cons (.var 0) (.cons (.blt .len (.cons (.var 4) .nil)) .nil))))))
  .nil))
  (.cons (.ret (.var 5))
  .nil)))⟩
def d31 : Df := ⟨1, [false], 2, (.cons (.ret (.ite (.isi (.var 0) [.list, .tuple]) (.comp (.call 31 [false] (.cons (.var 1) .nil)) (.nm 1) [1] .pl (.cons (.var 0) .nil) (.cst (.bl true))) (.var 0)))
  .nil)⟩
def d32 : Df := ⟨2, [false, false], 4, (.cons (.ite (.isi (.var 1) [.list, .tuple]) (.cons (.ite (.or (.cmp .ne (.isi (.var 0) [.list]) (.isi (.var 1) [.list])) (.cmp .ne (.isi (.var 0) [.tuple]) (.isi (.var 1) [.tuple]))) (.cons (.ret (.cst (.bl false)))
  .nil) .nil)
  (.cons (.ret (.and (.cmp .eq (.blt .len (.cons (.var 0) .nil)) (.blt .len (.cons (.var 1) .nil))) (.blt .all (.cons (.comp (.call 32 [false, false] (.cons (.var 2) (.cons (.var 3) .nil))) (.tp (.cons (.nm 2) (.cons (.nm 3) .nil))) [2, 3] .zp (.cons (.var 0) (.cons (.var 1) .nil)) (.cst (.bl true))) .nil))))
  .nil)) .nil)
  (.cons (.ite (.cmp .isn (.var 1) (.cst .non)) (.cons (.ret (.cmp .isn (.var 0) (.cst .non)))
  .nil) .nil)
  (.cons (.ite (.isi (.var 1) [.bool, .str]) (.cons (.ret (.and (.cmp .eq (.isi (.var 0) [.bool]) (.isi (.var 1) [.bool])) (.and (.cmp .eq (.isi (.var 0) [.str]) (.isi (.var 1) [.str])) (.cmp .eq (.var 0) (.var 1)))))
  .nil) .nil)
  (.cons (.ret (.and (.isi (.var 0) [.int]) (.and (.not (.isi (.var 0) [.bool])) (.cmp .eq (.var 0) (.var 1)))))
  .nil))))⟩
def d33 : Df := ⟨2, [false, false], 7, (.cons (.par [(3, true), (4, true)] (.cons (.blt .list (.cons (.ix (.var 0) (.cst (.int 0))) .nil)) (.cons (.bin .mul (.lst (.cons (.cst .non) .nil)) (.blt .len (.cons (.ix (.var 0) (.cst (.int 1))) .nil))) .nil)))
  (.cons (.for (.nm 2) .pl (.cons (.var 1) .nil) (.cons (.set 5 false (.comp (.var 6) (.nm 6) [6] .pl (.cons (.ix (.ix (.var 0) (.cst (.int 1))) (.var 2)) .nil) (.cmp .gt (.ix (.var 3) (.var 6)) (.cst (.int 0)))))
  (.cons (.ite (.cmp .ne (.var 5) (.lst .nil)) (.cons (.six 4 (.var 2) (.ix (.var 5) (.cst (.int 0))))
  (.cons (.six 3 (.ix (.var 5) (.cst (.int 0))) (.bin .sub (.ix (.var 3) (.ix (.var 5) (.cst (.int 0)))) (.cst (.int 1))))
  .nil)) .nil)
  .nil)))
  (.cons (.ret (.blt .tuple (.cons (.var 4) .nil)))
  .nil)))⟩
def d34 : Df := ⟨1, [false], 1, (.cons (.ret (.ite (.and (.isi (.var 0) [.list]) (.and (.cmp .gt (.blt .len (.cons (.var 0) .nil)) (.cst (.int 0))) (.isi (.ix (.var 0) (.cst (.int 0))) [.str]))) (.lst (.cons (.cst (.str ⟨#[116, 111, 108, 100]⟩)) (.cons (.cst (.str ⟨#[97, 32, 109, 97, 114, 107]⟩)) .nil))) (.var 0)))
  .nil)⟩
def d35 : Df := ⟨2, [true, false], 6, (.cons (.set 2 false (.bin .add (.cst (.int 1)) (.call 27 [true, false] (.cons (.var 0) (.cons (.cst (.int 4)) .nil)))))
  (.cons (.set 3 false (.blt .tuple (.cons (.comp (.ix (.lst (.cons (.cst (.int 1)) (.cons (.cst (.int 1)) (.cons (.cst (.int 1)) (.cons (.cst (.int 2)) (.cons (.cst (.int 2)) (.cons (.cst (.int 3)) .nil))))))) (.call 27 [true, false] (.cons (.var 0) (.cons (.cst (.int 6)) .nil)))) (.nm 5) [5] .rg1 (.cons (.var 2) .nil) (.cst (.bl true))) .nil)))
  (.cons (.set 4 true (.lst .nil))
  (.cons (.for (.nm 5) .rg1 (.cons (.call 27 [true, false] (.cons (.var 0) (.cons (.bin .add (.var 1) (.cst (.int 1))) .nil))) .nil) (.cons (.ex (.app 4 (.blt .tuple (.cons (.call 30 [true, false, false] (.cons (.var 0) (.cons (.blt .rlist1 (.cons (.var 2) .nil)) (.cons (.bin .add (.cst (.int 1)) (.call 27 [true, false] (.cons (.var 0) (.cons (.var 2) .nil)))) .nil)))) .nil))))
  .nil))
  (.cons (.ret (.tup (.cons (.var 3) (.cons (.blt .tuple (.cons (.var 4) .nil)) .nil))))
  .nil)))))⟩
def d36 : Df := ⟨2, [false, false], 5, (.cons (.try (.cons (.ite (.cmp .lt (.var 0) (.cst (.int 3))) (.cons (.ret (.call 34 [false] (.cons (.calv [2, 16, 17, 19, 20, 21, 23, 39] 3 (.ix (.tup (.cons (.cst (.fn 20)) (.cons (.cst (.fn 21)) (.cons (.cst (.fn 23)) .nil)))) (.var 0)) (.cons (.ix (.var 1) (.cst (.int 0))) (.cons (.ix (.var 1) (.cst (.int 1))) (.cons (.ix (.var 1) (.cst (.int 2))) .nil)))) .nil)))
  .nil) .nil)
  (.cons (.ret (.call 34 [false] (.cons (.calv [22, 24, 25] 4 (.ix (.tup (.cons (.cst (.fn 22)) (.cons (.cst (.fn 24)) (.cons (.cst (.fn 25)) .nil)))) (.bin .sub (.var 0) (.cst (.int 3)))) (.cons (.ix (.var 1) (.cst (.int 0))) (.cons (.ix (.var 1) (.cst (.int 1))) (.cons (.ix (.var 1) (.cst (.int 2))) (.cons (.ix (.var 1) (.cst (.int 3))) .nil))))) .nil)))
  .nil)) (.hcons 2 (some 2) (.retl [(.cst (.str ⟨#[117, 110, 102, 105, 116]⟩)), (.isv true)]) (.hcons 0 (some 3) (.retl [(.cst (.str ⟨#[110, 111, 32, 103, 117, 101, 115, 116]⟩)), .fld, (.isv true)]) (.hcons 1 (some 4) (.retl [(.cst (.str ⟨#[110, 111, 32, 112, 108, 97, 99, 101]⟩)), .fld, (.isv true)]) .hnil))))
  .nil)⟩
def d37 : Df := ⟨0, [], 10, (.cons (.par [(5, false), (6, false)] (.cons (.tup (.cons (.tup (.cons (.cst (.int 1)) (.cons (.cst (.int 2)) (.cons (.cst (.int 1)) .nil)))) (.cons (.tup (.cons (.tup (.cons (.cst (.int 0)) (.cons (.cst (.int 1)) .nil))) (.cons (.tup (.cons (.cst (.int 0)) (.cons (.cst (.int 2)) .nil))) (.cons (.tup (.cons (.cst (.int 0)) .nil)) (.cons (.tup (.cons (.cst (.int 1)) (.cons (.cst (.int 0)) .nil))) (.cons (.tup (.cons (.cst (.int 1)) (.cons (.cst (.int 2)) .nil))) (.cons (.tup (.cons (.cst (.int 2)) (.cons (.cst (.int 1)) (.cons (.cst (.int 0)) .nil)))) .nil))))))) .nil))) (.cons (.tup (.cons (.cst (.int 0)) (.cons (.cst (.int 1)) (.cons (.cst (.int 2)) (.cons (.cst (.int 3)) (.cons (.cst (.int 4)) (.cons (.cst (.int 5)) .nil))))))) .nil)))
  (.cons (.set 0 false (.call 31 [false] (.cons (.var 5) .nil)))
  (.cons (.set 1 false (.lst (.cons (.comp (.call 20 [false, false, false] (.cons (.var 5) (.cons (.var 6) (.cons (.var 8) .nil)))) (.nm 8) [8] .pl (.cons (.var 6) .nil) (.cst (.bl true))) (.cons (.callk 20 [2, 1, 0] (.cons (.cst (.int 0)) (.cons (.blt .list (.cons (.var 6) .nil)) (.cons (.var 0) .nil)))) (.cons (.call 21 [false, false, false] (.cons (.var 5) (.cons (.var 6) (.cons (.cst (.int 0)) .nil)))) .nil)))))
  (.cons (.set 1 false (.bin .add (.var 1) (.lst (.cons (.callk 21 [2, 1, 0] (.cons (.cst (.int 3)) (.cons (.blt .list (.cons (.var 6) .nil)) (.cons (.var 0) .nil)))) (.cons (.call 21 [false, false, false] (.cons (.var 5) (.cons (.var 6) (.cons (.cst (.int 2)) .nil)))) .nil)))))
  (.cons (.set 2 false (.lst (.cons (.lst (.cons (.tup (.cons (.tup (.cons (.cst (.int 1)) (.cons (.cst (.int 0)) .nil))) (.cons (.tup (.cons (.cst (.int 5)) (.cons (.cst (.int 2)) .nil))) .nil))) (.cons (.tup (.cons (.tup (.cons (.cst (.int 5)) (.cons (.cst (.int 2)) .nil))) .nil)) (.cons (.tup .nil) (.cons (.tup (.cons (.tup (.cons (.cst (.int 5)) (.cons (.cst (.int 1)) .nil))) .nil)) (.cons (.tup (.cons (.tup (.cons (.cst (.int 5)) (.cons (.cst (.int 1)) .nil))) .nil)) (.cons (.tup .nil) .nil))))))) (.cons (.tup (.cons (.tup (.cons (.cst (.int 1)) (.cons (.cst (.int 0)) .nil))) (.cons (.tup (.cons (.cst (.int 5)) (.cons (.cst (.int 2)) .nil))) .nil))) (.cons (.tup (.cons (.cst (.int 0)) (.cons (.cst (.int 2)) .nil))) (.cons (.tup (.cons (.cst (.int 1)) .nil)) (.cons (.tup .nil) .nil)))))))
  (.cons (.set 1 false (.bin .add (.var 1) (.lst (.cons (.call 22 [false, false, false, false] (.cons (.var 5) (.cons (.var 6) (.cons (.cst (.int 0)) (.cons (.cst (.int 2)) .nil))))) (.cons (.callk 22 [3, 2, 1, 0] (.cons (.cst (.int 5)) (.cons (.cst (.int 2)) (.cons (.blt .list (.cons (.var 6) .nil)) (.cons (.var 0) .nil))))) .nil)))))
  (.cons (.set 1 false (.bin .add (.var 1) (.lst (.cons (.comp (.call 23 [false, false, false] (.cons (.var 5) (.cons (.var 6) (.cons (.var 8) .nil)))) (.nm 8) [8] .pl (.cons (.tup (.cons (.cst (.int 0)) (.cons (.cst (.int 2)) (.cons (.cst (.int 5)) .nil)))) .nil) (.cst (.bl true))) (.cons (.callk 23 [2, 1, 0] (.cons (.cst (.int 5)) (.cons (.blt .list (.cons (.var 6) .nil)) (.cons (.var 0) .nil)))) .nil)))))
  (.cons (.set 2 false (.bin .add (.var 2) (.lst (.cons (.cst (.int 1)) (.cons (.cst .non) (.cons (.lst (.cons (.tup (.cons (.cst (.int 0)) (.cons (.cst (.int 1)) (.cons (.cst (.int 1)) (.cons (.cst (.int 1)) (.cons (.cst .non) (.cons (.cst .non) .nil))))))) (.cons (.tup (.cons (.cst (.int 0)) (.cons (.cst .non) (.cons (.cst .non) (.cons (.cst .non) (.cons (.cst .non) (.cons (.cst .non) .nil))))))) (.cons (.tup (.cons (.cst (.int 2)) (.cons (.cst (.int 2)) (.cons (.cst (.int 1)) (.cons (.cst (.int 1)) (.cons (.cst (.int 1)) (.cons (.cst .non) .nil))))))) .nil)))) (.cons (.tup (.cons (.cst (.int 2)) (.cons (.cst (.int 2)) (.cons (.cst (.int 1)) (.cons (.cst (.int 1)) (.cons (.cst (.int 1)) (.cons (.cst .non) .nil))))))) .nil)))))))
  (.cons (.set 1 false (.bin .add (.var 1) (.lst (.cons (.call 24 [false, false, false, false] (.cons (.var 5) (.cons (.var 6) (.cons (.cst (.int 2)) (.cons (.tup (.cons (.cst (.int 2)) .nil)) .nil))))) (.cons (.callk 24 [3, 2, 1, 0] (.cons (.lst (.cons (.cst (.int 1)) (.cons (.cst (.int 2)) .nil))) (.cons (.cst (.int 5)) (.cons (.blt .list (.cons (.var 6) .nil)) (.cons (.var 0) .nil))))) (.cons (.call 24 [false, false, false, false] (.cons (.var 5) (.cons (.var 6) (.cons (.cst (.int 1)) (.cons (.tup (.cons (.cst (.int 1)) .nil)) .nil))))) (.cons (.call 25 [false, false, false, false] (.cons (.var 5) (.cons (.cst (.int 5)) (.cons (.cst (.int 2)) (.cons (.cst (.int 1)) .nil))))) .nil)))))))
  (.cons (.set 1 false (.bin .add (.var 1) (.lst (.cons (.callk 25 [3, 2, 1, 0] (.cons (.cst .non) (.cons (.cst (.int 0)) (.cons (.cst (.int 5)) (.cons (.var 0) .nil))))) (.cons (.call 25 [false, false, false, false] (.cons (.var 5) (.cons (.cst (.int 5)) (.cons (.cst (.int 1)) (.cons (.cst (.int 1)) .nil))))) (.cons (.call 25 [false, false, false, false] (.cons (.var 5) (.cons (.cst (.int 5)) (.cons (.cst .non) (.cons (.cst (.int 0)) .nil))))) (.cons (.call 25 [false, false, false, false] (.cons (.var 5) (.cons (.cst (.int 5)) (.cons (.cst .non) (.cons (.cst .non) .nil))))) .nil)))))))
  (.cons (.set 2 false (.bin .add (.var 2) (.lst (.cons (.cst .non) (.cons (.cst .non) (.cons (.cst (.int 1)) (.cons (.cst (.bl true)) (.cons (.cst (.bl true)) (.cons (.cst (.bl false)) (.cons (.cst (.bl false)) (.cons (.cst (.bl false)) .nil)))))))))))
  (.cons (.set 1 false (.bin .add (.bin .add (.var 1) (.comp (.call 36 [false, false] (.cons (.cst (.int 3)) (.cons (.tup (.cons (.var 5) (.cons (.var 6) (.cons (.cst (.int 0)) (.cons (.var 8) .nil))))) .nil))) (.nm 8) [8] .pl (.cons (.tup (.cons (.cst (.int 6)) (.cons (.neg (.cst (.int 1))) .nil))) .nil) (.cst (.bl true)))) (.lst (.cons (.call 36 [false, false] (.cons (.cst (.int 5)) (.cons (.tup (.cons (.var 5) (.cons (.cst (.int 2)) (.cons (.cst (.int 0)) (.cons (.cst (.int 1)) .nil))))) .nil))) (.cons (.call 36 [false, false] (.cons (.cst (.int 5)) (.cons (.tup (.cons (.var 5) (.cons (.cst (.int 2)) (.cons (.cst (.int 1)) (.cons (.cst (.int 2)) .nil))))) .nil))) .nil)))))
  (.cons (.set 1 false (.bin .add (.bin .add (.bin .add (.var 1) (.lst (.cons (.call 36 [false, false] (.cons (.cst (.int 5)) (.cons (.tup (.cons (.var 5) (.cons (.cst (.int 6)) (.cons (.cst (.int 9)) (.cons (.cst (.int 9)) .nil))))) .nil))) .nil))) (.comp (.call 36 [false, false] (.cons (.var 9) (.cons (.tup (.cons (.var 5) (.cons (.var 6) (.cons (.cst (.int 6)) (.cons (.tup (.cons (.cst (.int 0)) .nil)) .nil))))) .nil))) (.nm 9) [9] .pl (.cons (.tup (.cons (.cst (.int 0)) (.cons (.cst (.int 1)) (.cons (.cst (.int 2)) (.cons (.cst (.int 4)) .nil))))) .nil) (.cst (.bl true)))) (.lst (.cons (.call 36 [false, false] (.cons (.cst (.int 3)) (.cons (.tup (.cons (.var 5) (.cons (.var 6) (.cons (.neg (.cst (.int 1))) (.cons (.cst (.int 99)) .nil))))) .nil))) .nil))))
  (.cons (.set 2 false (.bin .add (.var 2) (.lst (.cons (.lst (.cons (.cst (.str ⟨#[110, 111, 32, 112, 108, 97, 99, 101]⟩)) (.cons (.cst (.int 6)) (.cons (.cst (.bl true)) .nil)))) (.cons (.lst (.cons (.cst (.str ⟨#[110, 111, 32, 112, 108, 97, 99, 101]⟩)) (.cons (.neg (.cst (.int 1))) (.cons (.cst (.bl true)) .nil)))) (.cons (.lst (.cons (.cst (.str ⟨#[110, 111, 32, 112, 108, 97, 99, 101]⟩)) (.cons (.cst (.int 1)) (.cons (.cst (.bl true)) .nil)))) .nil))))))
  (.cons (.set 2 false (.bin .add (.bin .add (.bin .add (.var 2) (.lst (.cons (.lst (.cons (.cst (.str ⟨#[110, 111, 32, 112, 108, 97, 99, 101]⟩)) (.cons (.cst (.int 1)) (.cons (.cst (.bl true)) .nil)))) (.cons (.lst (.cons (.cst (.str ⟨#[110, 111, 32, 103, 117, 101, 115, 116]⟩)) (.cons (.cst (.int 6)) (.cons (.cst (.bl true)) .nil)))) .nil)))) (.bin .mul (.lst (.cons (.lst (.cons (.cst (.str ⟨#[110, 111, 32, 103, 117, 101, 115, 116]⟩)) (.cons (.cst (.int 6)) (.cons (.cst (.bl true)) .nil)))) .nil)) (.cst (.int 4)))) (.lst (.cons (.lst (.cons (.cst (.str ⟨#[110, 111, 32, 103, 117, 101, 115, 116]⟩)) (.cons (.neg (.cst (.int 1))) (.cons (.cst (.bl true)) .nil)))) .nil))))
  (.cons (.ite (.not (.call 32 [false, false] (.cons (.var 1) (.cons (.var 2) .nil)))) (.cons (.ret (.cst (.bl false)))
  .nil) .nil)
  (.cons (.for (.nm 3) .pl (.cons (.tup (.cons (.cst (.int 0)) (.cons (.cst (.int 1)) (.cons (.cst (.int 2)) (.cons (.cst (.int 3)) (.cons (.cst (.int 4)) .nil)))))) .nil) (.cons (.set 7 false (.ite (.cmp .eq (.var 3) (.cst (.int 3))) (.cst (.int 0)) (.tup (.cons (.cst (.int 0)) .nil))))
  (.cons (.set 4 false (.comp (.tup (.cons (.var 8) (.cons (.var 6) (.cons (.cst (.int 0)) (.cons (.var 7) .nil))))) (.nm 8) [8] .pl (.cons (.tup (.cons (.cst .non) (.cons (.tup .nil) (.cons (.tup (.cons (.tup (.cons (.cst (.int 1)) .nil)) .nil)) (.cons (.tup (.cons (.tup (.cons (.cst (.int 0)) .nil)) (.cons (.tup .nil) .nil))) .nil))))) .nil) (.cst (.bl true))))
  (.cons (.set 4 false (.bin .add (.var 4) (.comp (.tup (.cons (.var 5) (.cons (.var 8) (.cons (.cst (.int 0)) (.cons (.var 7) .nil))))) (.nm 8) [8] .pl (.cons (.tup (.cons (.cst .non) (.cons (.tup .nil) (.cons (.sl (.var 6) (.cst (.int 1)) (.cst .non)) (.cons (.bin .add (.var 6) (.tup (.cons (.cst (.int 6)) .nil))) (.cons (.tup (.cons (.cst (.int 0)) (.cons (.cst (.int 0)) (.cons (.cst (.int 2)) (.cons (.cst (.int 3)) (.cons (.cst (.int 4)) (.cons (.cst (.int 5)) .nil))))))) (.cons (.tup (.cons (.cst (.bl false)) (.cons (.cst (.int 1)) (.cons (.cst (.int 2)) (.cons (.cst (.int 3)) (.cons (.cst (.int 4)) (.cons (.cst (.int 5)) .nil))))))) .nil))))))) .nil) (.cst (.bl true)))))
  (.cons (.set 4 false (.bin .add (.var 4) (.comp (.tup (.cons (.var 5) (.cons (.var 6) (.cons (.var 8) (.cons (.var 7) .nil))))) (.nm 8) [8] .pl (.cons (.tup (.cons (.cst .non) (.cons (.cst (.bl true)) (.cons (.cst (.str ⟨#[49]⟩)) .nil)))) .nil) (.cst (.bl true)))))
  (.cons (.ite (.cmp .gt (.var 3) (.cst (.int 2))) (.cons (.set 4 false (.bin .add (.var 4) (.comp (.tup (.cons (.var 5) (.cons (.var 6) (.cons (.cst (.int 9)) (.cons (.var 8) .nil))))) (.nm 8) [8] .pl (.cons (.ite (.cmp .eq (.var 3) (.cst (.int 3))) (.tup (.cons (.cst .non) (.cons (.cst (.bl true)) (.cons (.cst (.str ⟨#[49]⟩)) .nil)))) (.tup (.cons (.cst .non) (.cons (.tup .nil) (.cons (.tup (.cons (.cst (.int 3)) .nil)) (.cons (.tup (.cons (.cst (.int 0)) (.cons (.cst (.int 0)) .nil))) (.cons (.cst (.int 0)) (.cons (.tup (.cons (.cst (.bl true)) .nil)) .nil)))))))) .nil) (.cst (.bl true)))))
  .nil) .nil)
  (.cons (.ite (.cmp .ne (.comp (.cst (.int 1)) (.nm 8) [8] .pl (.cons (.var 4) .nil) (.not (.call 32 [false, false] (.cons (.call 36 [false, false] (.cons (.var 3) (.cons (.var 8) .nil))) (.cons (.lst (.cons (.cst (.str ⟨#[117, 110, 102, 105, 116]⟩)) (.cons (.cst (.bl true)) .nil))) .nil))))) (.lst .nil)) (.cons (.ret (.cst (.bl false)))
  .nil) .nil)
  .nil)))))))
  (.cons (.set 4 false (.lst (.cons (.tup (.cons (.cst .non) (.cons (.cst (.int 0)) (.cons (.cst (.int 0)) (.cons (.cst (.int 0)) .nil))))) (.cons (.tup (.cons (.var 5) (.cons (.cst .non) (.cons (.cst (.int 0)) (.cons (.cst (.int 0)) .nil))))) (.cons (.tup (.cons (.var 5) (.cons (.cst (.bl true)) (.cons (.cst (.int 0)) (.cons (.cst (.int 0)) .nil))))) (.cons (.tup (.cons (.var 5) (.cons (.cst (.int 9)) (.cons (.cst (.str ⟨#[48]⟩)) (.cons (.cst (.int 0)) .nil))))) (.cons (.tup (.cons (.var 5) (.cons (.cst (.int 9)) (.cons (.cst (.int 0)) (.cons (.cst (.bl true)) .nil))))) (.cons (.tup (.cons (.var 5) (.cons (.cst (.int 9)) (.cons (.tup .nil) (.cons (.cst .non) .nil))))) .nil))))))))
  (.cons (.ret (.cmp .eq (.comp (.cst (.int 1)) (.nm 8) [8] .pl (.cons (.var 4) .nil) (.not (.call 32 [false, false] (.cons (.call 36 [false, false] (.cons (.cst (.int 5)) (.cons (.var 8) .nil))) (.cons (.lst (.cons (.cst (.str ⟨#[117, 110, 102, 105, 116]⟩)) (.cons (.cst (.bl true)) .nil))) .nil))))) (.lst .nil)))
  .nil)))))))))))))))))))⟩
def d38 : Df := ⟨2, [false, false], 2, (.cons (.ret (.ite (.cmp .isn (.var 1) (.cst .non)) (.blt .len (.cons (.var 0) .nil)) (.idx (.var 0) (.var 1))))
  .nil)⟩
def d39 : Df := ⟨3, [false, false, false], 16, (.cons (.par [(7, false), (8, false)] (.cons (.call 31 [false] (.cons (.var 0) .nil)) (.cons (.blt .tuple (.cons (.comp (.var 14) (.nm 14) [14] .pl (.cons (.var 1) .nil) (.cmp .ne (.var 14) (.var 2))) .nil)) .nil)))
  (.cons (.par [(9, false), (10, false)] (.cons (.call 33 [false, false] (.cons (.var 0) (.cons (.var 1) .nil))) (.cons (.call 33 [false, false] (.cons (.var 0) (.cons (.var 8) .nil))) .nil)))
  (.cons (.set 3 false (.comp (.var 14) (.nm 14) [14] .pl (.cons (.var 8) .nil) (.cmp .ne (.ix (.var 9) (.var 14)) (.ix (.var 10) (.var 14)))))
  (.cons (.ite (.cmp .ne (.comp (.cst (.int 1)) (.nm 14) [14] .pl (.cons (.var 3) .nil) (.cmp .ge (.call 38 [false, false] (.cons (.ix (.ix (.var 0) (.cst (.int 1))) (.var 14)) (.cons (.ix (.var 10) (.var 14)) .nil))) (.call 38 [false, false] (.cons (.ix (.ix (.var 0) (.cst (.int 1))) (.var 14)) (.cons (.ix (.var 9) (.var 14)) .nil))))) (.lst .nil)) (.cons (.ret (.cst (.bl false)))
  .nil) .nil)
  (.cons (.set 4 false (.ite (.cmp .notn (.ix (.var 9) (.var 2)) (.cst .non)) (.comp (.ix (.var 9) (.var 14)) (.nm 14) [14] .pl (.cons (.bin .add (.lst (.cons (.var 2) .nil)) (.var 3)) .nil) (.cmp .notn (.ix (.var 9) (.var 14)) (.cst .non))) (.lst .nil)))
  (.cons (.set 5 false (.lst (.cons (.call 20 [false, false, false] (.cons (.var 7) (.cons (.blt .list (.cons (.var 1) .nil)) (.cons (.var 2) .nil)))) (.cons (.call 21 [false, false, false] (.cons (.var 0) (.cons (.blt .list (.cons (.var 1) .nil)) (.cons (.var 2) .nil)))) .nil))))
  (.cons (.ite (.not (.call 32 [false, false] (.cons (.var 5) (.cons (.lst (.cons (.blt .tuple (.cons (.comp (.tup (.cons (.var 14) (.cons (.ix (.var 10) (.var 14)) .nil))) (.nm 14) [14] .pl (.cons (.var 3) .nil) (.cst (.bl true))) .nil)) (.cons (.blt .tuple (.cons (.var 4) .nil)) .nil))) .nil)))) (.cons (.ret (.cst (.bl false)))
  .nil) .nil)
  (.cons (.for (.nm 6) .rg1 (.cons (.bin .add (.blt .len (.cons (.var 1) .nil)) (.cst (.int 1))) .nil) (.cons (.set 11 false (.call 33 [false, false] (.cons (.var 0) (.cons (.sl (.var 1) (.cst .non) (.var 6)) .nil))))
  (.cons (.set 12 false (.call 33 [false, false] (.cons (.var 0) (.cons (.comp (.var 14) (.nm 14) [14] .pl (.cons (.sl (.var 1) (.cst .non) (.var 6)) .nil) (.cmp .ne (.var 14) (.var 2))) .nil))))
  (.cons (.set 13 false (.comp (.bin .sub (.blt .len (.cons (.comp (.cst (.int 1)) (.nm 14) [14] .pl (.cons (.var 11) .nil) (.cmp .eq (.var 14) (.var 15))) .nil)) (.blt .len (.cons (.comp (.cst (.int 1)) (.nm 14) [14] .pl (.cons (.var 12) .nil) (.cmp .eq (.var 14) (.var 15))) .nil))) (.nm 15) [15] .rg1 (.cons (.blt .len (.cons (.ix (.var 0) (.cst (.int 0))) .nil)) .nil) (.cst (.bl true))))
  (.cons (.ite (.or (.cmp .lt (.blt .min1 (.cons (.var 13) .nil)) (.cst (.int 0))) (.cmp .gt (.blt .sum (.cons (.var 13) .nil)) (.cst (.int 1)))) (.cons (.ret (.cst (.bl false)))
  .nil) .nil)
  .nil)))))
  (.cons (.ret (.cst (.bl true)))
  .nil)))))))))⟩
def d40 : Df := ⟨1, [false], 20, (.cons (.ite (.not (.call 37 [] .nil)) (.cons (.ret (.cst (.bl false)))
  .nil) .nil)
  (.cons (.set 1 true (.call 26 [false, false] (.cons (.call 28 [false, false] (.cons (.var 0) (.cons (.cst (.int 1)) .nil))) (.cons (.cst (.int 0)) .nil))))
  (.cons (.for (.nm 2) .rg1 (.cons (.cst (.int 3)) .nil) (.cons (.set 3 false (.call 35 [true, false] (.cons (.var 1) (.cons (.cst (.int 8)) .nil))))
  (.cons (.par [(6, false), (7, false)] (.cons (.call 31 [false] (.cons (.var 3) .nil)) (.cons (.blt .len (.cons (.ix (.var 3) (.cst (.int 1))) .nil)) .nil)))
  (.cons (.set 4 false (.blt .tuple (.cons (.call 30 [true, false, false] (.cons (.var 1) (.cons (.blt .rlist1 (.cons (.var 7) .nil)) (.cons (.var 7) .nil)))) .nil)))
  (.cons (.for (.nm 5) .rg1 (.cons (.var 7) .nil) (.cons (.par [(13, false), (14, false)] (.cons (.blt .tuple (.cons (.comp (.var 15) (.nm 15) [15] .pl (.cons (.var 4) .nil) (.cmp .ne (.var 15) (.var 5))) .nil)) (.cons (.ix (.ix (.var 3) (.cst (.int 1))) (.var 5)) .nil)))
  (.cons (.set 8 false (.comp (.ix (.call 33 [false, false] (.cons (.var 3) (.cons (.bin .add (.bin .add (.sl (.var 13) (.cst .non) (.var 17)) (.tup (.cons (.var 5) .nil))) (.sl (.var 13) (.var 17) (.cst .non))) .nil))) (.var 5)) (.nm 17) [17] .rg1 (.cons (.var 7) .nil) (.cst (.bl true))))
  (.cons (.set 9 false (.comp (.call 38 [false, false] (.cons (.var 14) (.cons (.var 15) .nil))) (.nm 15) [15] .pl (.cons (.var 8) .nil) (.cst (.bl true))))
  (.cons (.set 10 false (.blt .tuple (.cons (.call 30 [true, false, false] (.cons (.var 1) (.cons (.blt .rlist1 (.cons (.blt .len (.cons (.ix (.var 3) (.cst (.int 0))) .nil)) .nil)) (.cons (.bin .add (.cst (.int 1)) (.call 27 [true, false] (.cons (.var 1) (.cons (.blt .len (.cons (.ix (.var 3) (.cst (.int 0))) .nil)) .nil)))) .nil)))) .nil)))
  (.cons (.set 11 false (.tup (.cons (.ix (.var 3) (.cst (.int 0))) (.cons (.bin .add (.bin .add (.sl (.ix (.var 3) (.cst (.int 1))) (.cst .non) (.var 5)) (.tup (.cons (.var 10) .nil))) (.sl (.ix (.var 3) (.cst (.int 1))) (.bin .add (.var 5) (.cst (.int 1))) (.cst .non))) .nil))))
  (.cons (.par [(15, false), (16, false), (17, false)] (.cons (.ix (.call 33 [false, false] (.cons (.var 3) (.cons (.var 4) .nil))) (.var 5)) (.cons (.ix (.call 33 [false, false] (.cons (.var 11) (.cons (.var 4) .nil))) (.var 5)) (.cons (.call 27 [true, false] (.cons (.var 1) (.cons (.var 7) .nil))) .nil))))
  (.cons (.ite (.or (.cmp .ne (.var 9) (.blt .sorted (.cons (.var 9) .nil))) (.and (.cmp .isin (.var 16) (.var 14)) (.cmp .lt (.call 38 [false, false] (.cons (.var 14) (.cons (.var 16) .nil))) (.call 38 [false, false] (.cons (.var 14) (.cons (.var 15) .nil)))))) (.cons (.ret (.cst (.bl false)))
  .nil) .nil)
  (.cons (.par [(18, false), (19, false)] (.cons (.call 29 [true, false] (.cons (.var 1) (.cons (.bin .add (.blt .list (.cons (.var 14) .nil)) (.lst (.cons (.cst .non) .nil))) .nil))) (.cons (.call 29 [true, false] (.cons (.var 1) (.cons (.bin .add (.blt .list (.cons (.var 14) .nil)) (.lst (.cons (.cst .non) .nil))) .nil))) .nil)))
  (.cons (.set 12 false (.lst (.cons (.call 23 [false, false, false] (.cons (.var 6) (.cons (.blt .list (.cons (.var 4) .nil)) (.cons (.var 5) .nil)))) (.cons (.call 22 [false, false, false, false] (.cons (.var 3) (.cons (.blt .list (.cons (.var 4) .nil)) (.cons (.var 5) (.cons (.var 17) .nil))))) .nil))))
  (.cons (.set 12 false (.bin .add (.var 12) (.lst (.cons (.call 24 [false, false, false, false] (.cons (.var 6) (.cons (.var 4) (.cons (.var 5) (.cons (.blt .list (.cons (.var 10) .nil)) .nil))))) (.cons (.call 25 [false, false, false, false] (.cons (.var 6) (.cons (.var 5) (.cons (.var 18) (.cons (.var 19) .nil))))) .nil)))))
  (.cons (.ite (.not (.call 32 [false, false] (.cons (.var 12) (.cons (.lst (.cons (.blt .tuple (.cons (.var 8) .nil)) (.cons (.ix (.var 8) (.var 17)) (.cons (.var 16) (.cons (.cmp .lt (.call 38 [false, false] (.cons (.var 14) (.cons (.var 18) .nil))) (.call 38 [false, false] (.cons (.var 14) (.cons (.var 19) .nil)))) .nil))))) .nil)))) (.cons (.ret (.cst (.bl false)))
  .nil) .nil)
  (.cons (.ite (.not (.call 39 [false, false, false] (.cons (.var 3) (.cons (.var 4) (.cons (.var 5) .nil))))) (.cons (.ret (.cst (.bl false)))
  .nil) .nil)
  .nil)))))))))))))
  .nil)))))
  (.cons (.ret (.cst (.bl true)))
  .nil))))⟩
def tl0 : List Df := [d0, d1, d2, d3, d4, d5, d6, d7, d8, d9, d10, d11, d12, d13, d14, d15, d16, d17, d18, d19, d20, d21, d22, d23, d24, d25, d26, d27, d28, d29]
def tl1 : List Df := [d30, d31, d32, d33, d34, d35, d36, d37, d38, d39, d40]
def tabL : List Df := tl0 ++ tl1
end Hd
end
section
set_option maxRecDepth 100000
set_option maxHeartbeats 4000000
namespace Hd
open PySem Lt
theorem tab_eq : tab = tabL := by kernel_rfl
end Hd
end
section
set_option maxRecDepth 100000
set_option maxHeartbeats 4000000
namespace Hd
open PySem PySem.Spec PyProof.Rows L2 Lt
def dd (x : Str) (i : Nat) : He.DefD := { at_ := (x, none), name := x, qual := x, params := defArgs (tp i), body := defBody (tp i), scope := defScope (tp i) }
def tb0 : List (Str × Nat) := [("is_number", 5), ("is_from", 6), ("is_within", 7), ("is_long", 8), ("tupled", 9), ("are_numbers", 10), ("is_list_of", 12), ("are_seats", 13), ("is_hall_in", 14), ("sure_hall", 15), ("is_order_of_hall", 16), ("sure_hall_order", 17), ("sure_hall_guest", 18), ("first_left", 19), ("dealt_in", 20), ("less_row", 22), ("put_in", 23), ("moved_in_hall", 24), ("rank_in_list", 25), ("sure_come", 26), ("stays_way", 27), ("seats_on_way", 28), ("got_at", 29), ("got_all", 30), ("got_with", 31)]
def tb1 : List (Str × Nat) := [("is_better", 32), ("_law_box", 34), ("_law_take", 35), ("_law_cells", 36), ("_law_of", 37), ("_law_pick", 38), ("_law_lists", 39), ("_law_same", 40), ("_law_run", 41), ("_law_unmarked", 42), ("_law_hall", 43), ("_law_heard", 44), ("_law_by_hand_right", 45), ("_law_rank", 46), ("_law_stay_right", 47), ("law", 48)]
def tb : List (Str × Nat) := tb0 ++ tb1
def fns : List He.DefD := tb.map fun p => dd p.1 p.2
def frees : List Str := ["len", "all", "any", "tuple", "list", "sorted", "set", "range", "isinstance", "int", "bool", "str", "enumerate", "zip", "abs", "min", "max", "sum", "dict", "super", "ValueError", "LookupError", "Exception", "reversed", "type"]
def fcs : List He.Fa := (tb.map fun p => He.Fa.glo p.1) ++ (cls.map fun c => He.Fa.glo c.name) ++ frees.map fun x => He.Fa.free x
abbrev rw0 : PySem.W.OpenRow := PySem.W.OpenLaw.row PySem.Challenge.rw_leftwithout_k71_whole_one_stays_away
def exK : PySem.W.Frag → Bool := exB PySem.Challenge.pw_leftwithout_k71_whole_one_stays_away cls
abbrev hook : PySem.W.Hook := hookY 4 fcs fns exK
def eye (s : PySem.W.SharedT) : He.AlD × Bool := obsY 4 fcs fns exK (HandSHeadRun.getT s)
theorem eye_eq (s : PySem.W.SharedT) : eye s = hook.obs s.abs := obsY_eq (HandSHeadRun.getT_eq s)
def lso0 : List (PySem.Str) := ["__name__", "NoGuest", "NoPlace", "Unfit", "is_number", "is_from", "is_within", "is_long", "tupled", "are_numbers", "is_list_of", "are_seats", "is_hall_in", "sure_hall", "is_order_of_hall", "sure_hall_order", "sure_hall_guest", "first_left", "dealt_in", "less_row", "put_in", "moved_in_hall", "rank_in_list", "sure_come", "stays_way"]
def lso1 : List (PySem.Str) := ["seats_on_way", "got_at", "got_all", "got_with", "is_better", "_law_box", "_law_take", "_law_cells", "_law_of", "_law_pick", "_law_lists", "_law_same", "_law_run", "_law_unmarked", "_law_hall", "_law_heard", "_law_by_hand_right", "_law_rank", "_law_stay_right"]
def lso : List (PySem.Str) := lso0 ++ lso1
theorem topRuns (w : World) : HandSHeadRun.RunEq rw0 (PySem.W.view rw0.prog [48]) hook eye 20000 lso w := by
  intro os
  kernel_rfl
theorem rows_glo : ∀ r ∈ rws, He.Fa.glo r.g.name ∈ fcs := by
  have e : (rws.map fun r => r.g.name) = tb.map (·.1) := by decide +kernel
  intro r hr
  have h : r.g.name ∈ tb.map (·.1) := by rw [← e]; exact List.mem_map_of_mem hr
  obtain ⟨p, hp, q⟩ := List.mem_map.mp h
  rw [← q]
  exact List.mem_append.mpr (.inl (List.mem_append.mpr (.inl (List.mem_map_of_mem (f := fun p : Str × Nat => He.Fa.glo p.1) hp))))
theorem cls_glo : ∀ x ∈ cls, He.Fa.glo x.name ∈ fcs := fun x hx => List.mem_append.mpr (.inl (List.mem_append.mpr (.inr (List.mem_map_of_mem (f := fun c : Cl => He.Fa.glo c.name) hx))))
theorem rows_def : ∀ r ∈ rws, ddOf tp r ∈ fns := by
  have e : (rws.map fun r => (r.g.name, r.i)) = tb := by decide +kernel
  intro r hr
  have h : (r.g.name, r.i) ∈ tb := by rw [← e]; exact List.mem_map_of_mem (f := fun r : Rw => (r.g.name, r.i)) hr
  exact List.mem_map_of_mem (f := fun p : Str × Nat => dd p.1 p.2) h
theorem rows_free : ∀ x ∈ bltNames, ((fnsOf rws).find? fun f => f.name == x) = none → He.Fa.free x ∈ fcs := by
  intro x hx _
  exact List.mem_append.mpr (.inr (List.mem_map_of_mem ((by decide +kernel : ∀ x ∈ bltNames, x ∈ frees) x hx)))
theorem err_free : ∀ x ∈ (["ValueError", "LookupError", "super", "isinstance"] : List Str), He.Fa.free x ∈ fcs := by
  intro x hx
  exact List.mem_append.mpr (.inr (List.mem_map_of_mem ((by decide +kernel : ∀ x ∈ (["ValueError", "LookupError", "super", "isinstance"] : List Str), x ∈ frees) x hx)))
end Hd
end
section
set_option maxRecDepth 100000
set_option maxHeartbeats 4000000
namespace Hd
open PySem Lt Lt.Hx
def x71 : Ix := { is_number := 0, is_from := 1, is_within := 2, is_long := 3, tupled := 4, are_numbers := 5, is_list_of := 6, are_seats := 7, is_hall_in := 8, sure_hall := 9, is_order_of_hall := 10, sure_hall_order := 11, sure_hall_guest := 12, first_left := 13, dealt_in := 14, less_row := 15, put_in := 16, moved_in_hall := 17, rank_in_list := 18, sure_come := 19, stays_way := 20, seats_on_way := 21, got_at := 22, got_all := 23, got_with := 24, is_better := 25, _law_box := 26, _law_take := 27, _law_cells := 28, _law_of := 29, _law_pick := 30, _law_lists := 31, _law_same := 32, _law_run := 33, _law_hall := 35, _law_by_hand_right := 37, _law_rank := 38, _law_stay_right := 39, law := 40, cUnfit := 2, cNoGuest := 0, cNoPlace := 1 }
theorem has71 : Has tabL x71 := by
  constructor <;> rfl
def isT : CR → Bool
  | .rt false (.bl true) [] => true
  | _ => false
theorem isT_eq : ∀ {c : CR}, isT c = true → c = .rt false (.bl true) []
  | .rt false (.bl true) [], _ => rfl
  | .rt true _ _, h => by cases h
  | .rt false (.bl true) (_ :: _), h => by cases h
  | .rt false (.bl false) _, h => by cases h
  | .rt false .non _, h => by cases h
  | .rt false (.int _) _, h => by cases h
  | .rt false (.str _) _, h => by cases h
  | .rt false (.tup _) _, h => by cases h
  | .rt false (.lst _) _, h => by cases h
  | .rt false (.dic _) _, h => by cases h
  | .rt false (.fn _) _, h => by cases h
  | .rt false (.exc _ _) _, h => by cases h
  | .ex _, h => by cases h
  | .st, h => by cases h
theorem hand71 : run tabL 39 37 [] = .rt false (.bl true) [] := isT_eq (by decide +kernel)
theorem law_runs (ns : List Int) (hl : ns.length ≤ 63) : ∃ fr outs, run tab 40 40 [.lst (ns.map .int)] = .rt fr (.bl true) outs := by
  rw [tab_eq]
  exact ⟨false, [], law_r (x := x71) has71 (n := 40) (by decide) hand71 hl⟩
end Hd
end
section
set_option maxRecDepth 100000
set_option maxHeartbeats 8000000
open PySem PySem.W PySem.Calls PyProof.Rows in
theorem PySem.Challenge.cw_leftwithout_k71_whole_one_stays_away_holds : PySem.Challenge.rw_leftwithout_k71_whole_one_stays_away.Holds := by
  w_on; o_law
  refine HandSHeadRun.head_any (r := OpenLaw.row PySem.Challenge.rw_leftwithout_k71_whole_one_stays_away) (q := view (OpenLaw.row PySem.Challenge.rw_leftwithout_k71_whole_one_stays_away).prog [48]) (H := Hd.hook) (ob := Hd.eye) (M := 20000) (loose := Hd.lso) (d := HandSHeadRun.topDef (OpenLaw.row PySem.Challenge.rw_leftwithout_k71_whole_one_stays_away).prog 48) (kwd := []) Hd.eye_eq
    (by kernel_rfl) (fun s => by kernel_rfl) Hd.topRuns (by kernel_rfl) (by kernel_rfl) (by kernel_rfl) (by rfl) (by first | assumption | decide +kernel) (by decide +kernel) ⟨rfl, rfl, rfl, rfl, rfl, by decide +kernel⟩ ?hw ?hc
  case hw => w_witness2
  case hc =>
    refine Lt.walk_ofW (l := PySem.Challenge.rw_leftwithout_k71_whole_one_stays_away) (n := 63) (k := 40) (x := "script") rfl (by decide) (by kernel_rfl) ⟨rfl, by decide, by decide⟩ ?F
    intro w mg fa h Y G hmg0
    obtain ⟨K, KX, c, ex⟩ := Y
    have hmg : mg ("law" : PySem.Str) = some (.ref fa) := by
      have e : (HandSHeadRun.topDef (OpenLaw.row PySem.Challenge.rw_leftwithout_k71_whole_one_stays_away).prog 48).name = ("law" : PySem.Str) := by kernel_rfl
      rw [← e]
      exact hmg0
    obtain ⟨ex1, ex2⟩ := Lt.exB_ok ex
    have gl := Lt.glob_ok KX G c Hd.cls_glo ex2 ex1 Hd.err_free
    obtain ⟨f, fd, g1, g2, g3⟩ := Lt.law_fn (cls := Hd.cls) (P := (PySem.Challenge.rw_leftwithout_k71_whole_one_stays_away).prog) (w := w) (k := 39) (fu := 60) (r := Hd.r40) (rs := Hd.rws) (List.mem_of_getElem? (i := 40) rfl) Hd.rows_ok KX G c Hd.rows_glo Hd.rows_def Hd.rows_free gl
    cases g1.symm.trans hmg
    refine ⟨Lt.thin K, fd, _, Lt.thin_in KX, fun s v => g2 s [v] rfl, fun H a ns hl _ hS => ?_, fun base _ _ => g3 base⟩
    obtain ⟨fr, outs, e⟩ := Hd.law_runs ns hl
    exact Lt.law_prom hS e
end
