import PyProof.Rows.All
import HandS.ForMost
import HandS.ForExc
import HandS.IsInst
import HandS.TupAny
import HandS.Style
import HandS.ExcField
import HandS.DictComp
import HandS.RaiseMore
import HandS.Records
import HandS.Iter
import KE.GoesEnum
import KE.KExcSuper
import HandS.ExcInit
import PySem.Challenge.RW_effecthouse_k49_whole_secrets_put_togeth
set_option Elab.async false
set_option linter.all false
set_option maxRecDepth 100000
namespace Z
open PySem L2

/-- plain data; .ref n is the n-th object of the store -/
inductive PV where
  | non | bl (b : Bool) | int (i : Int) | str (s : Str) | tup (l : List PV) | ref (n : Nat)
/-- an object of the store -/
inductive SO where
  | lst (l : List PV) | rol (l : List PV) | dct (l : List (Key × PV)) | ins (c : Nat) (l : List (Str × PV))
abbrev Store := List SO
abbrev Sl := List (Option PV)
/-- what an expression comes to -/
inductive RE (α : Type) where
  | ok (a : α) (s : Store) | exc (c : Nat) (fs : List (Str × PV)) (s : Store) | bad
abbrev M (α : Type) := Store → RE α
def ret {α : Type} (a : α) : M α := fun s => .ok a s
def stop {α : Type} : M α := fun _ => .bad
def bnd {α β : Type} (m : M α) (f : α → M β) : M β := fun s =>
  match m s with
  | .ok a s' => f a s'
  | .exc c fs s' => .exc c fs s'
  | .bad => .bad
inductive Fl where
  | next | ret (v : PV) | brk | cont
/-- what a statement comes to -/
inductive RS where
  | ok (f : Fl) (ρ : Sl) (s : Store) | exc (c : Nat) (fs : List (Str × PV)) (ρ : Sl) (s : Store) | bad
abbrev SM := Sl → Store → RS
/-- a statement's part that is an expression -/
def bndS {α : Type} (m : M α) (ρ : Sl) (f : α → Store → RS) : Store → RS := fun s =>
  match m s with
  | .ok a s' => f a s'
  | .exc c fs s' => .exc c fs ρ s'
  | .bad => .bad

structure FnI where
  N : List Str
  ps : List Str
  body : List Stmt
  sc : Scope
structure ClI where
  name : Str
  init : Option Nat
  meths : List (Str × Nat)
  fields : List Str
  /-- an exception: the fields that its __init__ stores, or none: it has no __init__ -/
  exc : Option (Option (List Str))
inductive GE where
  | fn (i : Nat) | cls (c : Nat) | cst (v : PV)
structure Tab where
  fns : List FnI
  cls : List ClI
  glob : List (Str × GE)
  /-- exceptions: the first is caught by an except of the second -/
  sub : Nat → Nat → Bool

def slotOf : List Str → Str → Option Nat
  | [], _ => none
  | y :: r, x => if y = x then some 0 else (slotOf r x).map (· + 1)
theorem slotOf_get : ∀ {N : List Str} {x : Str} {i : Nat}, slotOf N x = some i → N[i]? = some x
  | [], _, _, h => by simp [slotOf] at h
  | y :: r, x, i, h => by
    unfold slotOf at h
    split at h
    · rename_i e
      cases h
      simp [e]
    · cases q : slotOf r x with
      | none => rw [q] at h; simp at h
      | some j =>
        rw [q] at h
        simp at h
        subst h
        simpa using slotOf_get q
def visB (sc : Scope) (x : Str) : Bool :=
  match sc.names.lookup x with
  | some .local => true
  | some .cell => true
  | some .free => true
  | _ => false
def locB (sc : Scope) (x : Str) : Bool :=
  match sc.names.lookup x with
  | some .local => true
  | some .cell => true
  | _ => false
def globB (sc : Scope) (x : Str) : Bool :=
  match sc.names.lookup x with
  | some .globalImplicit => x != "__debug__"
  | _ => false

def mulB (i j : Int) : Bool := (decide (-(2 ^ 64) < i) && decide (i < 2 ^ 64)) || (decide (-(2 ^ 64) < j) && decide (j < 2 ^ 64))
def binP : Operator → PV → PV → M PV
  | .Add, .int i, .int j => ret (.int (i + j))
  | .Sub, .int i, .int j => ret (.int (i - j))
  | .Mult, .int i, .int j => if mulB i j = true then ret (.int (i * j)) else stop
  | .FloorDiv, .int i, .int j => if 0 < j ∧ j < 1073741824 then ret (.int (i / j)) else stop
  | .Mod, .int i, .int j => if 0 < j then ret (.int (i % j)) else stop
  | .Add, .tup l, .tup r => if l.length + r.length ≤ sizeLine then ret (.tup (l ++ r)) else stop
  | .Add, .str x, .str y => if x.length + y.length ≤ sizeLine then ret (.str (x ++ y)) else stop
  | .Add, .ref m, .ref n => fun s =>
    match s[m]?, s[n]? with
    | some (.lst l), some (.lst r) => if l.length + r.length ≤ sizeLine then .ok (.ref s.length) (s ++ [.lst (l ++ r)]) else .bad
    | _, _ => .bad
  | _, _, _ => stop

mutual
/-- data without objects -/
def dat : PV → Option PyData
  | .non => some .none
  | .bl b => some (.bool b)
  | .int i => some (.int i)
  | .str x => some (.str x)
  | .tup l => (datL l).map .tuple
  | .ref _ => none
def datL : List PV → Option (List PyData)
  | [] => some []
  | v :: r => match dat v, datL r with
    | some d, some ds => some (d :: ds)
    | _, _ => none
end
/-- what == looks at: data, or a list of data -/
def datS (s : Store) : PV → Option PyData
  | .ref n => match s[n]? with
    | some (.lst l) => (datL l).map .list
    | some (.rol l) => (datL l).map .list
    | _ => none
  | v => dat v
def flatP : PV → Bool
  | .non => true | .bl _ => true | .int _ => true | .str _ => true | _ => false
def pv : PV → V
  | .non => .non | .bl b => .bl b | .int i => .int i | .str x => .str x | _ => .non
def keyOf : PV → Option Key
  | .int i => some (.inl i)
  | .str x => some (.inr x)
  | _ => none
def dget (l : List (Key × PV)) (k : Key) : Option PV := (l.find? fun p => decide (p.1 = k)).map (·.2)
def dput (l : List (Key × PV)) (k : Key) (v : PV) : List (Key × PV) :=
  if (l.any fun p => decide (p.1 = k)) = true then l.map (fun p => if p.1 = k then (p.1, v) else p) else l ++ [(k, v)]
/-- dicts whose values are flat -/
def dictEq (l r : List (Key × PV)) : Option Bool :=
  if (l.all fun p => flatP p.2) && (r.all fun p => flatP p.2) then
    some (l.length == r.length && l.all fun p => match dget r p.1 with
      | some w => eqV (pv p.2) (pv w)
      | none => false)
  else none
def eqP (x y : PV) : M Bool :=
  match x, y with
  | .str a, .str b => ret (decide (a = b))
  | .int a, .int b => ret (decide (a = b))
  | .bl a, .bl b => ret (decide (a = b))
  | .ref m, .ref n => fun s =>
    match s[m]?, s[n]? with
    | some (.dct l), some (.dct r) => match dictEq l r with
      | some b => .ok b s
      | none => .bad
    | _, _ => match datS s (.ref m), datS s (.ref n) with
      | some d, some e => if SeqAt.shaped d && SeqAt.shaped e then .ok (PyData.eqv d e) s else .bad
      | _, _ => .bad
  | x, y => fun s => match datS s x, datS s y with
    | some d, some e => if SeqAt.shaped d && SeqAt.shaped e then .ok (PyData.eqv d e) s else .bad
    | _, _ => .bad
def inP (x y : PV) : M Bool :=
  match y with
  | .tup l => if flatP x && l.all flatP then ret (inV (pv x) (l.map pv)) else stop
  | .ref n => fun s => match s[n]?, keyOf x with
    | some (.dct l), some k => .ok (dget l k).isSome s
    | _, _ => .bad
  | _ => stop
def cmpP : CmpOp → PV → PV → M Bool
  | .Eq, x, y => eqP x y
  | .NotEq, x, y => bnd (eqP x y) fun b => ret (!b)
  | .Lt, .int i, .int j => ret (decide (i < j))
  | .LtE, .int i, .int j => ret (decide (i ≤ j))
  | .Gt, .int i, .int j => ret (decide (j < i))
  | .GtE, .int i, .int j => ret (decide (j ≤ i))
  | .Is, .non, .non => ret true
  | .Is, .bl _, .non => ret false
  | .Is, .int _, .non => ret false
  | .Is, .str _, .non => ret false
  | .Is, .tup _, .non => ret false
  | .Is, .ref _, .non => ret false
  | .IsNot, x, .non => match x with
    | .non => ret false
    | _ => ret true
  | .In, x, y => inP x y
  | .NotIn, x, y => bnd (inP x y) fun b => ret (!b)
  | _, _, _ => stop
def atP (l : List PV) (i : Int) : M PV :=
  match atI l i with
  | some v => ret v
  | none => stop
def ixP (x i : PV) : M PV :=
  match x, i with
  | .tup l, .int k => atP l k
  | .ref n, i => fun s => match s[n]? with
    | some (.lst l) => match i with
      | .int k => atP l k s
      | _ => .bad
    | some (.rol l) => match i with
      | .int k => atP l k s
      | _ => .bad
    | some (.dct l) => match keyOf i with
      | some k => match dget l k with
        | some v => .ok v s
        | none => .bad
      | none => .bad
    | _ => .bad
  | _, _ => stop
def cutP (l : List PV) (lo hi : Option Int) : List PV := (l.drop (HT.sIx l.length 0 lo)).take (HT.sIx l.length l.length hi - HT.sIx l.length 0 lo)
def slP (x : PV) (lo hi : Option Int) : M PV :=
  match x with
  | .tup l => ret (.tup (cutP l lo hi))
  | .ref n => fun s => match s[n]? with
    | some (.lst l) => .ok (.ref s.length) (s ++ [.lst (cutP l lo hi)])
    | some (.rol l) => .ok (.ref s.length) (s ++ [.lst (cutP l lo hi)])
    | _ => .bad
  | _ => stop
def truP (x : PV) : M Bool :=
  match x with
  | .bl b => ret b
  | .non => ret false
  | .int i => ret (i != 0)
  | .str x => if x.length ≤ sizeLine then ret (x.length != 0) else stop
  | .tup l => ret (!l.isEmpty)
  | .ref n => fun s => match s[n]? with
    | some (.lst l) => .ok (!l.isEmpty) s
    | some (.rol l) => .ok (!l.isEmpty) s
    | some (.dct l) => .ok (!l.isEmpty) s
    | _ => .bad
def tyP (s : Store) : PV → Option String
  | .non => some "NoneType"
  | .bl _ => some "bool"
  | .int _ => some "int"
  | .str _ => some "str"
  | .tup _ => some "tuple"
  | .ref n => match s[n]? with
    | some (.lst _) => some "list"
    | some (.dct _) => some "dict"
    | _ => none
def isiP (x : PV) (t : String) : M PV := fun s =>
  match tyP s x with
  | some u => match kitB u t with
    | some b => .ok (.bl b) s
    | none => .bad
  | none => .bad
def intsOf : List PV → Option (List Int)
  | [] => some []
  | .int i :: r => (intsOf r).map (i :: ·)
  | _ => none
def boolsOf : List PV → Option (List Bool)
  | [] => some []
  | .bl i :: r => (boolsOf r).map (i :: ·)
  | _ => none
/-- the pairs of a list of pairs -/
def pairsOf : List PV → Option (List (Key × PV))
  | [] => some []
  | .tup [k, v] :: r => match keyOf k, pairsOf r with
    | some k, some l => some ((k, v) :: l)
    | _, _ => none
  | _ => none
def mergeP (acc more : List (Key × PV)) : List (Key × PV) := more.foldl (fun acc p => dput acc p.1 p.2) acc
def lstOf (s : Store) (n : Nat) : Option (List PV) :=
  match s[n]? with
  | some (.lst l) => some l
  | some (.rol l) => some l
  | _ => none
def minL : List Int → Option Int
  | [] => none
  | [x] => some x
  | x :: r => (minL r).map fun m => if m < x then m else x
inductive Bl where
  | abs | int | max | min | len | any | all | tuple | list | dict
def absP : List PV → M PV
  | [.int i] => ret (.int (if i < 0 then -i else i))
  | _ => stop
def intP : List PV → M PV
  | [.int i] => ret (.int i)
  | [.bl b] => ret (.int (if b then 1 else 0))
  | _ => stop
def maxP : List PV → M PV
  | [.int i, .int j] => ret (.int (if j > i then j else i))
  | _ => stop
def minP : List PV → M PV
  | [.int i, .int j] => ret (.int (if j < i then j else i))
  | [.ref n] => fun s => match (lstOf s n).bind intsOf with
    | some l => match minL l with
      | some m => .ok (.int m) s
      | none => .bad
    | none => .bad
  | _ => stop
def lenP : List PV → M PV
  | [.tup l] => ret (.int (l.length : Nat))
  | [.str x] => if x.length ≤ sizeLine then ret (.int (x.length : Nat)) else stop
  | [.ref n] => fun s => match s[n]? with
    | some (.lst l) => .ok (.int (l.length : Nat)) s
    | some (.rol l) => .ok (.int (l.length : Nat)) s
    | some (.dct l) => .ok (.int (l.length : Nat)) s
    | _ => .bad
  | _ => stop
def anyP : List PV → M PV
  | [.ref n] => fun s => match (lstOf s n).bind boolsOf with
    | some l => .ok (.bl (l.any id)) s
    | none => .bad
  | _ => stop
def allP : List PV → M PV
  | [.ref n] => fun s => match (lstOf s n).bind boolsOf with
    | some l => .ok (.bl (l.all id)) s
    | none => .bad
  | _ => stop
def tupleP : List PV → M PV
  | [.ref n] => fun s => match lstOf s n with
    | some l => .ok (.tup l) s
    | none => .bad
  | [.tup l] => ret (.tup l)
  | _ => stop
def listP : List PV → M PV
  | [.ref n] => fun s => match lstOf s n with
    | some l => .ok (.ref s.length) (s ++ [.lst l])
    | none => .bad
  | [.tup l] => fun s => .ok (.ref s.length) (s ++ [.lst l])
  | _ => stop
def dictP : List PV → M PV
  | [.ref n] => fun s => match s[n]? with
    | some (.dct l) => .ok (.ref s.length) (s ++ [.dct l])
    | some (.lst l) => match pairsOf l with
      | some kvs => .ok (.ref s.length) (s ++ [.dct (mergeP [] kvs)])
      | none => .bad
    | _ => .bad
  | _ => stop
def bltP : Bl → List PV → M PV
  | .abs => absP
  | .int => intP
  | .max => maxP
  | .min => minP
  | .len => lenP
  | .any => anyP
  | .all => allP
  | .tuple => tupleP
  | .list => listP
  | .dict => dictP
/-- a method of a built-in type -/
inductive Mt where
  | append | get
def appendP (x : PV) : List PV → M PV
  | [v] => fun s => match x with
    | .ref n => match s[n]? with
      | some (.lst l) => if l.length < sizeLine then .ok .non (s.set n (.lst (l ++ [v]))) else .bad
      | _ => .bad
    | _ => .bad
  | _ => stop
def getP (x : PV) : List PV → M PV
  | [k, v] => fun s => match x with
    | .ref n => match s[n]?, keyOf k with
      | some (.dct l), some k => .ok ((dget l k).getD v) s
      | _, _ => .bad
    | _ => .bad
  | _ => stop
def mtP : Mt → PV → List PV → M PV
  | .append => appendP
  | .get => getP

abbrev EM := Expr → Sl → M PV
def noStar : Expr → Bool
  | .Starred _ _ => false
  | _ => true
def noSet : Expr → Bool
  | .Set _ _ _ => false
  | _ => true
/-- no call without arguments of a name: it is not super() -/
def baseOk : Expr → Bool
  | .Call (.Name _ _) [] [] _ => false
  | _ => true
def evEs (E : EM) : List Expr → Sl → M (List PV)
  | [], _ => ret []
  | e :: r, ρ => bnd (E e ρ) fun v => bnd (evEs E r ρ) fun vs => ret (v :: vs)
def argsP (E : EM) (es : List Expr) (ρ : Sl) : M (List PV) := if es.all noStar = true then evEs E es ρ else stop
def args1 (E : EM) (es : List Expr) (ρ : Sl) : M (List PV) :=
  match es with
  | [] => stop
  | e :: r => argsP E (e :: r) ρ
/-- a test -/
def tst (E : EM) : Nat → Expr → Sl → M Bool
  | 0, _ => fun _ => stop
  | n + 1, e =>
    match e with
    | .UnaryOp .Not x _ => fun ρ => bnd (tst E n x ρ) fun b => ret (!b)
    | .BoolOp .And [x, y] _ => fun ρ => bnd (tst E n x ρ) fun b => if b = true then tst E n y ρ else ret false
    | .BoolOp .Or [x, y] _ => fun ρ => bnd (tst E n x ρ) fun b => if b = true then ret true else tst E n y ρ
    | .BoolOp .And [x, y, z] _ => fun ρ => bnd (tst E n x ρ) fun b => if b = true then bnd (tst E n y ρ) fun b => if b = true then tst E n z ρ else ret false else ret false
    | .BoolOp .Or [x, y, z] _ => fun ρ => bnd (tst E n x ρ) fun b => if b = true then ret true else bnd (tst E n y ρ) fun b => if b = true then ret true else tst E n z ρ
    | .Compare a [op] [b] _ => fun ρ => if noSet b = true then bnd (E a ρ) fun x => bnd (E b ρ) fun y => cmpP op x y else stop
    | .Name x p => fun ρ => bnd (E (.Name x p) ρ) truP
    | .Call f as ks p => fun ρ => bnd (E (.Call f as ks p) ρ) truP
    | .Subscript a b p => fun ρ => bnd (E (.Subscript a b p) ρ) truP
    | .Attribute a b p => fun ρ => bnd (E (.Attribute a b p) ρ) truP
    | _ => fun _ => stop
/-- a target of a for, of an assignment: names, and tuples of these -/
inductive Tgt where
  | nm (i : Nat) | tup (l : List Tgt)
mutual
def Tgt.run : Tgt → PV → Sl → Option Sl
  | .nm i, v, ρ => some (ρ.set i (some v))
  | .tup l, .tup vs, ρ => Tgt.runL l vs ρ
  | .tup _, _, _ => none
def Tgt.runL : List Tgt → List PV → Sl → Option Sl
  | [], [], ρ => some ρ
  | t :: r, v :: vs, ρ => match t.run v ρ with
    | some ρ' => Tgt.runL r vs ρ'
    | none => none
  | _, _, _ => none
end
def tgL (f : Expr → Option Tgt) : List Expr → Option (List Tgt)
  | [] => some []
  | e :: r => match f e, tgL f r with
    | some t, some l => some (t :: l)
    | _, _ => none
def tgO (N : List Str) (sc : Scope) : Nat → Expr → Option Tgt
  | 0, _ => none
  | n + 1, e => match e with
    | .Name x _ => if locB sc x then match slotOf N x with
      | some i => some (.nm i)
      | none => none
      else none
    | .Tuple es _ _ => match tgL (tgO N sc n) es with
      | some l => some (.tup l)
      | none => none
    | _ => none
def asgP (N : List Str) (sc : Scope) (tg : Expr) : PV → Sl → Option Sl :=
  match tgO N sc 4 tg with
  | some t => t.run
  | none => fun _ _ => none
theorem asgP_two {N : List Str} {sc : Scope} {x y : Str} {px py q : Pos} {k : Nat} {i j : Nat} {v w : PV} {ρ : Sl} (hb : (locB sc x && locB sc y) = true) (hi : slotOf N x = some i) (hj : slotOf N y = some j) :
    asgP N sc (.Tuple [.Name x px, .Name y py] k q) (.tup [v, w]) ρ = some ((ρ.set i (some v)).set j (some w)) := by
  have h := Bool.and_eq_true_iff.mp hb
  simp only [asgP, tgO, tgL, h.1, h.2, hi, hj, if_true, Tgt.run, Tgt.runL]
theorem asgP_three {N : List Str} {sc : Scope} {x y z : Str} {px py pz q : Pos} {k : Nat} {i j m : Nat} {v w u : PV} {ρ : Sl} (hb : (locB sc x && locB sc y && locB sc z) = true) (hi : slotOf N x = some i) (hj : slotOf N y = some j) (hm : slotOf N z = some m) :
    asgP N sc (.Tuple [.Name x px, .Name y py, .Name z pz] k q) (.tup [v, w, u]) ρ = some (((ρ.set i (some v)).set j (some w)).set m (some u)) := by
  have h := Bool.and_eq_true_iff.mp hb
  have h' := Bool.and_eq_true_iff.mp h.1
  simp only [asgP, tgO, tgL, h'.1, h'.2, h.2, hi, hj, hm, if_true, Tgt.run, Tgt.runL]
theorem runL_len : ∀ {l : List Tgt} {vs : List PV} {ρ : Sl}, vs.length ≠ l.length → Tgt.runL l vs ρ = none
  | [], [], ρ, h => absurd rfl h
  | [], _ :: _, ρ, h => by simp only [Tgt.runL]
  | _ :: _, [], ρ, h => by simp only [Tgt.runL]
  | t :: r, v :: vs, ρ, h => by
    simp only [Tgt.runL]
    cases t.run v ρ with
    | none => rfl
    | some ρ' => exact runL_len fun e => h (by rw [List.length_cons, List.length_cons, e])
theorem tgL_len {f : Expr → Option Tgt} : ∀ {es : List Expr} {l : List Tgt}, tgL f es = some l → l.length = es.length
  | [], l, h => by cases h; rfl
  | e :: r, l, h => by
    unfold tgL at h
    split at h
    · rename_i t lr h1 h2
      cases h
      rw [List.length_cons, List.length_cons, tgL_len h2]
    · cases h
theorem asgP_len {N : List Str} {sc : Scope} {ts : List Expr} {k : Nat} {q : Pos} {vs : List PV} {ρ : Sl} (h : vs.length ≠ ts.length) : asgP N sc (.Tuple ts k q) (.tup vs) ρ = none := by
  unfold asgP tgO
  dsimp only
  cases hg : tgL (tgO N sc 3) ts with
  | none => rfl
  | some l => exact runL_len (by rw [tgL_len hg]; exact h)
/-- what is walked: written items, an object's items as they stand at each turn, those with their places -/
inductive Sc where
  | items (l : List PV) | live (n : Nat) | liveE (n : Nat)
/-- the i-th item: none: it can't be told; some none: there is none -/
def getI (s : Store) : Sc → Nat → Option (Option PV)
  | .items l, i => some l[i]?
  | .live n, i => (lstOf s n).map (·[i]?)
  | .liveE n, i => (lstOf s n).map fun l => (l[i]?).map fun v => .tup [.int (i : Int), v]
def lenI (s : Store) : Sc → Nat
  | .items l => l.length
  | .live n => ((lstOf s n).getD []).length
  | .liveE n => ((lstOf s n).getD []).length
def enumL : Nat → List PV → List PV
  | _, [] => []
  | i, v :: r => .tup [.int (i : Int), v] :: enumL (i + 1) r
def rangeL : Nat → Int → List PV
  | 0, _ => []
  | n + 1, lo => .int lo :: rangeL n (lo + 1)
def inRange (i : Int) : Bool := decide (-(2 ^ 62) ≤ i) && decide (i < 2 ^ 62)
/-- a value that is walked -/
def walkP (v : PV) : M Sc :=
  match v with
  | .tup l => ret (.items l)
  | .ref n => fun s => match lstOf s n with
    | some _ => .ok (.live n) s
    | none => .bad
  | _ => stop
def enumP (v : PV) : M Sc :=
  match v with
  | .tup l => ret (.items (enumL 0 l))
  | .ref n => fun s => match lstOf s n with
    | some _ => .ok (.liveE n) s
    | none => .bad
  | _ => stop
def isTupE : Expr → Bool
  | .Tuple _ _ _ => true
  | _ => false
/-- the blocks' own names, with their slots -/
def ownOf (N : List Str) : List (Str × NameKind) → List (Str × Nat)
  | [] => []
  | (x, .local) :: r => match slotOf N x with
    | some i => (x, i) :: ownOf N r
    | none => ownOf N r
  | (x, .cell) :: r => match slotOf N x with
    | some i => (x, i) :: ownOf N r
    | none => ownOf N r
  | _ :: r => ownOf N r
def wipeP (ρ : Sl) : List Nat → Sl
  | [] => ρ
  | i :: r => (wipeP ρ r).set i none
/-- one written test of a comprehension, or none -/
def tstsP (E : EM) : List Expr → Sl → M Bool
  | [] => fun _ => ret true
  | [c] => tst E 20 c
  | _ => fun _ => stop
/-- the turns of a comprehension -/
def lcC (elt : Sl → M PV) (asg : PV → Sl → Option Sl) (ts : Sl → M Bool) (src : Sc) (D : Nat) (ρ : Sl) : Nat → Nat → M PV
  | 0, _ => stop
  | k + 1, i => fun s =>
    match getI s src i with
    | none => .bad
    | some none => .ok (.ref D) s
    | some (some v) => match asg v ρ with
      | none => .bad
      | some ρ' => match ts ρ' s with
        | .ok true s => match elt ρ' s with
          | .ok y s' => match s'[D]? with
            | some (.lst acc) => if acc.length < sizeLine then lcC elt asg ts src D ρ k (i + 1) (s'.set D (.lst (acc ++ [y]))) else .bad
            | _ => .bad
          | _ => .bad
        | .ok false s' => lcC elt asg ts src D ρ k (i + 1) s'
        | _ => .bad
def lcP (E : EM) (N : List Str) (sc : Scope) (tg elt : Expr) (ifs : List Expr) (src : Sc) (D : Nat) (ρ : Sl) : Nat → Nat → M PV :=
  lcC (E elt) (asgP N sc tg) (tstsP E ifs) src D ρ
def bltName (x : Str) : Option Bl :=
  if x = "abs" then some .abs else if x = "int" then some .int else if x = "max" then some .max else if x = "min" then some .min else if x = "len" then some .len
  else if x = "any" then some .any else if x = "all" then some .all else if x = "tuple" then some .tuple else if x = "list" then some .list else if x = "dict" then some .dict else none
def tyName (x : Str) : Option String :=
  if x = "tuple" then some "tuple" else if x = "int" then some "int" else if x = "bool" then some "bool" else if x = "str" then some "str" else if x = "list" then some "list" else if x = "dict" then some "dict" else none
/-- the written keys of a dict's display -/
def keysOf : List (Option Expr) → Option (List Key)
  | [] => some []
  | some (.Constant (.str x) _ _) :: r => (keysOf r).map (Sum.inr x :: ·)
  | some (.Constant (.int i) _ _) :: r => (keysOf r).map (Sum.inl i :: ·)
  | _ => none
structure Lk where
  T : Tab
  call : Nat → List PV → M PV
  /-- a call one deeper: an instance's __init__ -/
  ini : Nat → List PV → M PV
  N : List Str
/-- an instance of class c: its object, then its __init__ -/
def makeP (L : Lk) (c : Nat) (vs : List PV) : M PV := fun s =>
  match (L.T.cls[c]?).bind (·.init) with
  | none => .bad
  | some f => match L.ini f (.ref s.length :: vs) (s ++ [.ins c []]) with
    | .ok .non s' => .ok (.ref s.length) s'
    | _ => .bad
def fldP (L : Lk) (x : PV) (f : Str) : M PV := fun s =>
  match x with
  | .ref n => match s[n]? with
    | some (.ins c l) => match L.T.cls[c]? with
      | some C => if C.fields.contains f then match l.lookup f with
        | some v => .ok v s
        | none => .bad
        else .bad
      | none => .bad
    | _ => .bad
  | _ => .bad
def putFP (f : Str) (v : PV) : List (Str × PV) → List (Str × PV)
  | [] => [(f, v)]
  | (g, w) :: r => if g = f then (g, v) :: r else (g, w) :: putFP f v r
def fldSet (L : Lk) (x : PV) (f : Str) (v : PV) : M PV := fun s =>
  match x with
  | .ref n => match s[n]? with
    | some (.ins c l) => match L.T.cls[c]? with
      | some C => if C.fields.contains f && decide (l.length < 1000) then .ok .non (s.set n (.ins c (putFP f v l))) else .bad
      | none => .bad
    | _ => .bad
  | _ => .bad
def ixSet (x i v : PV) : M PV := fun s =>
  match x with
  | .ref n => match s[n]?, keyOf i with
    | some (.dct l), some k => if l.length < sizeLine then .ok .non (s.set n (.dct (dput l k v))) else .bad
    | _, _ => .bad
  | _ => .bad
/-- the class of an instance -/
def clsP (s : Store) (x : PV) : Option Nat :=
  match x with
  | .ref n => match s[n]? with
    | some (.ins c _) => some c
    | _ => none
  | _ => none
/-- a method of a class of the text -/
def methP (L : Lk) (x : PV) (m : Str) (args : M (List PV)) : M PV := fun s =>
  match x with
  | .ref n => match s[n]? with
    | some (.ins c l) => match L.T.cls[c]?, l.lookup m with
      | some C, none => match C.meths.lookup m with
        | some f => bnd args (fun vs => L.call f (x :: vs)) s
        | none => .bad
      | _, _ => .bad
    | _ => .bad
  | _ => .bad
/-- the only class that has a method m -/
def methOf (T : Tab) (m : Str) : Option (Nat × Nat) :=
  (List.range T.cls.length).findSome? fun c => ((T.cls[c]?).bind fun C => C.meths.lookup m).map fun f => (c, f)
def constP : Const → M PV
  | .none => ret .non
  | .bool b => ret (.bl b)
  | .int i => ret (.int i)
  | .str x => ret (.str x)
  | _ => stop
def partP (E : EM) (i : Option Expr) (ρ : Sl) : M (Option Int) :=
  match i with
  | none => ret none
  | some e => bnd (E e ρ) fun v => match v with
    | .int i => ret (some i)
    | _ => stop
/-- an iterable written as a part of a for or a comprehension -/
def srcP (E : EM) (sc : Scope) (tg : Expr) (iter : Expr) : Sl → M Sc :=
  match iter with
  | .Call (.Name f p) [a] [] pos => fun ρ =>
    if f = "range" ∧ globB sc f = true then bnd (argsP E [a] ρ) fun vs => match vs with
      | [.int n] => if inRange n = true then ret (.items (rangeL n.toNat 0)) else stop
      | _ => stop
    else if f = "enumerate" ∧ globB sc f = true then
      if isTupE tg = true then bnd (argsP E [a] ρ) fun vs => match vs with
        | [v] => enumP v
        | _ => stop
      else stop
    else bnd (E (.Call (.Name f p) [a] [] pos) ρ) walkP
  | .Call (.Name f p) [a, b] [] pos => fun ρ =>
    if f = "range" ∧ globB sc f = true then bnd (argsP E [a, b] ρ) fun vs => match vs with
      | [.int i, .int j] => if (inRange i && inRange j) = true then ret (.items (rangeL (j - i).toNat i)) else stop
      | _ => stop
    else bnd (E (.Call (.Name f p) [a, b] [] pos) ρ) walkP
  | .Name x p => fun ρ => bnd (E (.Name x p) ρ) walkP
  | .Subscript a b p => fun ρ => bnd (E (.Subscript a b p) ρ) walkP
  | .IfExp a b c p => fun ρ => bnd (E (.IfExp a b c p) ρ) walkP
  | .Attribute a b p => fun ρ => bnd (E (.Attribute a b p) ρ) walkP
  | .Tuple a b p => fun ρ => bnd (E (.Tuple a b p) ρ) walkP
  | _ => fun _ => stop
/-- o.m(..) on one line, with arguments -/
def mOk (o : Expr) (as : List Expr) (ap p : Pos) : Bool := baseOk o && (as.all noStar && (decide (0 < as.length) && (decide (as.length < 20) && (ap.endLine == p.line))))
/-- a name -/
def nameP (L : Lk) (sc : Scope) (x : Str) (ρ : Sl) : M PV :=
  if visB sc x = true then match slotOf L.N x with
    | some i => match ρ[i]? with
      | some (some v) => ret v
      | _ => stop
    | none => stop
  else if globB sc x = true then match L.T.glob.lookup x with
    | some (.cst v) => ret v
    | _ => stop
  else stop
/-- f(..) -/
def callP (L : Lk) (E : EM) (sc : Scope) (f : Str) (as : List Expr) (ρ : Sl) : M PV :=
  if globB sc f = true then
    match L.T.glob.lookup f with
    | some (.fn i) => bnd (args1 E as ρ) fun vs => L.call i vs
    | some (.cls c) => if ((L.T.cls[c]?).bind (·.init)).isSome = true then bnd (args1 E as ρ) fun vs => makeP L c vs else stop
    | some (.cst _) => stop
    | none =>
      if f = "isinstance" then
        match as with
        | [a, .Name t _] => match tyName t with
          | some u => if noStar a = true ∧ globB sc t = true then bnd (E a ρ) fun x => isiP x u else stop
          | none => stop
        | _ => stop
      else match bltName f with
        | some b => bnd (args1 E as ρ) fun vs => bltP b vs
        | none => stop
  else stop
def evE (L : Lk) : Nat → Scope → EM
  | 0, _, _ => fun _ => stop
  | n + 1, sc, e =>
    match e with
    | .Constant c _ _ => fun _ => constP c
    | .Name x _ => fun ρ => nameP L sc x ρ
    | .Tuple es _ _ => fun ρ => bnd (argsP (evE L n sc) es ρ) fun vs => if vs.length ≤ sizeLine then ret (.tup vs) else stop
    | .List es _ => fun ρ => bnd (argsP (evE L n sc) es ρ) fun vs => if vs.length ≤ sizeLine then fun s => .ok (.ref s.length) (s ++ [.lst vs]) else stop
    | .Dict ks es _ => fun ρ => match keysOf ks with
      | none => stop
      | some kl => if kl.length = es.length ∧ kl.length ≤ 15 ∧ kl ≠ [] then fun s =>
          match evEs (evE L n sc) es ρ (s ++ [.dct []]) with
          | .ok vs s' => match s'[s.length]? with
            | some (.dct []) => .ok (.ref s.length) (s'.set s.length (.dct (mergeP [] (kl.zip vs))))
            | _ => .bad
          | .exc c fs s' => .exc c fs s'
          | .bad => .bad
        else stop
    | .BinOp a op b _ => fun ρ => bnd (evE L n sc a ρ) fun x => bnd (evE L n sc b ρ) fun y => binP op x y
    | .UnaryOp .USub a _ => fun ρ => bnd (evE L n sc a ρ) fun x => match x with
      | .int i => ret (.int (-i))
      | _ => stop
    | .UnaryOp .Not a _ => fun ρ => bnd (evE L n sc a ρ) fun x => match x with
      | .bl b => ret (.bl (!b))
      | _ => stop
    | .Compare a [op] [b] _ => fun ρ => if noSet b = true then bnd (evE L n sc a ρ) fun x => bnd (evE L n sc b ρ) fun y => bnd (cmpP op x y) fun b => ret (.bl b) else stop
    | .BoolOp .And [a, b] _ => fun ρ => bnd (evE L n sc a ρ) fun x => match x with
      | .bl true => evE L n sc b ρ
      | .bl false => ret (.bl false)
      | _ => stop
    | .BoolOp .Or [a, b] _ => fun ρ => bnd (evE L n sc a ρ) fun x => match x with
      | .bl true => ret (.bl true)
      | .bl false => evE L n sc b ρ
      | _ => stop
    | .IfExp c a b _ => fun ρ => bnd (tst (evE L n sc) 20 c ρ) fun t => if t = true then evE L n sc a ρ else evE L n sc b ρ
    | .Subscript a (.Slice lo hi none _) _ => fun ρ => bnd (evE L n sc a ρ) fun x => bnd (partP (evE L n sc) lo ρ) fun lo => bnd (partP (evE L n sc) hi ρ) fun hi => slP x lo hi
    | .Subscript a b _ => fun ρ => bnd (evE L n sc a ρ) fun x => bnd (evE L n sc b ρ) fun i => ixP x i
    | .Attribute a f _ => fun ρ => if baseOk a = true then bnd (evE L n sc a ρ) fun x => fldP L x f else stop
    | .Call (.Name f _) as [] _ => fun ρ => callP L (evE L n sc) sc f as ρ
    | .Call (.Attribute o m ap) as [] p => fun ρ => if mOk o as ap p = true then bnd (evE L n sc o ρ) fun x => methP L x m (evEs (evE L n sc) as ρ) else stop
    | .ListComp elt [⟨tg, iter, ifs, 0⟩] scope _ => fun ρ =>
      if blkC L.N sc scope (ownOf L.N scope.names) = true then
        bnd (srcP (evE L n sc) sc tg iter ρ) fun src s => lcP (evE L n scope) L.N scope tg elt ifs src s.length (wipeP ρ ((ownOf L.N scope.names).map (·.2))) (lenI s src + 1) 0 (s ++ [.lst []])
      else stop
    | _ => fun _ => stop

def blk (S : Stmt → SM) : List Stmt → SM
  | [], ρ, s => .ok .next ρ s
  | st :: r, ρ, s => match S st ρ s with
    | .ok .next ρ' s' => blk S r ρ' s'
    | o => o
def whl (B : SM) (C : Sl → M Bool) : Nat → SM
  | 0, _, _ => .bad
  | k + 1, ρ, s => match C ρ s with
    | .ok true s1 => match B ρ s1 with
      | .ok .next ρ' s' => whl B C k ρ' s'
      | .ok .cont ρ' s' => whl B C k ρ' s'
      | .ok .brk ρ' s' => .ok .next ρ' s'
      | o => o
    | .ok false s1 => .ok .next ρ s1
    | .exc c fs s1 => .exc c fs ρ s1
    | .bad => .bad
def forP (B : SM) (A : PV → Sl → Option Sl) (src : Sc) : Nat → Nat → SM
  | 0, _, _, _ => .bad
  | k + 1, i, ρ, s => match getI s src i with
    | none => .bad
    | some none => .ok .next ρ s
    | some (some v) => match A v ρ with
      | none => .bad
      | some ρ1 => match B ρ1 s with
        | .ok .next ρ' s' => forP B A src k (i + 1) ρ' s'
        | .ok .cont ρ' s' => forP B A src k (i + 1) ρ' s'
        | .ok .brk ρ' s' => .ok .next ρ' s'
        | o => o
/-- what an except's suite may be; fl: the fields of the exception's class -/
def suiP (nm : Option Str) (fl : List Str) (fs : List (Str × PV)) : List Stmt → Option Fl
  | [.Return (some (.Constant .none _ _)) _] => some (.ret .non)
  | [.Return (some (.Constant (.bool b) _ _)) _] => some (.ret (.bl b))
  | [.Return (some (.Attribute (.Name x _) f _)) _] => if nm = some x ∧ fl.contains f = true then (fs.lookup f).map .ret else none
  | [.Pass _] => some .next
  | _ => none
/-- the fields of an exception's class -/
def excF (T : Tab) (c : Nat) : Option (List Str) :=
  match (T.cls[c]?).bind (·.exc) with
  | some none => some []
  | some (some fl) => some fl
  | none => none
/-- a made exception -/
def excP (L : Lk) (E : EM) (sc : Scope) : Expr → SM
  | .Call (.Name x _) as [] _ => fun ρ s =>
    if globB sc x = true then match L.T.glob.lookup x with
      | some (.cls c) => match (L.T.cls[c]?).bind (·.exc) with
        | some none => match as with
          | [.Constant (.str _) _ _] => .exc c [] ρ s
          | _ => .bad
        | some (some fl) => bndS (args1 E as ρ) ρ (fun vs s => if vs.length = fl.length ∧ fl.length ≤ 5 then .exc c (fl.zip vs) ρ s else .bad) s
        | none => .bad
      | _ => .bad
    else .bad
  | _ => fun _ _ => .bad
/-- an except's name: a plain local, or none -/
def nmOk (N : List Str) (sc : Scope) : Option Str → Bool
  | none => true
  | some y => sc.names.lookup y == some .local && (slotOf N y).isSome
/-- the except's name goes -/
def goneP (N : List Str) (nm : Option Str) (r : Fl) (ρ : Sl) (s : Store) : RS :=
  match nm with
  | none => .ok r ρ s
  | some y => match slotOf N y with
    | some i => if i < ρ.length then .ok r (ρ.set i none) s else .bad
    | none => .bad
def lcB : Expr → Bool
  | .ListComp _ _ _ _ => true
  | .SetComp _ _ _ _ => true
  | .DictComp _ _ _ _ _ => true
  | _ => false
def tupB : Expr → Bool
  | .Tuple _ _ _ => true
  | .List _ _ => true
  | _ => false
def parF (sc : Scope) (l : Nat) : Expr → Option Str
  | .Name x p => if sc.names.lookup x == some .local && p.line == l then some x else none
  | _ => none
/-- the names of plain locals that stand on the first one's line -/
def parN (sc : Scope) (ts : List Expr) : List Str := ts.filterMap (parF sc ((ts.head?.map (·.pos.line)).getD 0))
/-- names with slots -/
def tgOk (N : List Str) (sc : Scope) (ts : List Expr) : Bool := ts.all fun t => match t with
  | .Name x _ => locB sc x && (slotOf N x).isSome
  | _ => false
def parLoc (sc : Scope) (ts es : List Expr) : Bool :=
  decide ((parN sc ts).length = ts.length) && ((parN sc ts).eraseDups.length == ts.length && (!(es.all (foldedForSure 8)) && !(es.all (constantsAlone 8))))
def parOk (sc : Scope) (ts es : List Expr) : Bool := es.all noStar && (parLoc sc ts es || !decide ((parN sc ts).length = ts.length))
/-- a, b = x, y: the written values -/
def parOf : List Expr → Expr → Option (List Expr)
  | [.Name _ _, .Name _ _], .Tuple [a, b] _ _ => some [a, b]
  | [.Name _ _, .Name _ _, .Name _ _], .Tuple [a, b, c] _ _ => some [a, b, c]
  | _, _ => none
def evS (L : Lk) (sc : Scope) : Nat → Stmt → SM
  | 0, _ => fun _ _ => .bad
  | n + 1, st =>
    match st with
    | .Pass _ => fun ρ s => .ok .next ρ s
    | .Break _ => fun ρ s => .ok .brk ρ s
    | .Continue _ => fun ρ s => .ok .cont ρ s
    | .Expr (.Call f as ks p) _ => fun ρ s => bndS (evE L 40 sc (.Call f as ks p) ρ) ρ (fun _ s => .ok .next ρ s) s
    | .Return none _ => fun ρ s => .ok (.ret .non) ρ s
    | .Return (some e) _ => fun ρ s => bndS (evE L 40 sc e ρ) ρ (fun v s => .ok (.ret v) ρ s) s
    | .Assign [.Name x _] e _ => fun ρ s => if locB sc x = true then match slotOf L.N x with
        | some i => bndS (evE L 40 sc e ρ) ρ (fun v s => .ok .next (ρ.set i (some v)) s) s
        | none => .bad
      else .bad
    | .Assign [.Subscript o i _] e _ => fun ρ s => bndS (evE L 40 sc e ρ) ρ (fun v s => bndS (evE L 40 sc o ρ) ρ (fun x s => bndS (evE L 40 sc i ρ) ρ (fun j s => bndS (ixSet x j v) ρ (fun _ s => .ok .next ρ s) s) s) s) s
    | .Assign [.Attribute o f _] e _ => fun ρ s => bndS (evE L 40 sc e ρ) ρ (fun v s => bndS (evE L 40 sc o ρ) ρ (fun x s => bndS (fldSet L x f v) ρ (fun _ s => .ok .next ρ s) s) s) s
    | .Assign [.Tuple ts k p] e _ => fun ρ s => match parOf ts e with
      | some es => if (parOk sc ts es && tgOk L.N sc ts) = true then bndS (evEs (evE L 40 sc) es ρ) ρ (fun vs s => match asgP L.N sc (.Tuple ts k p) (.tup vs) ρ with
          | some ρ' => .ok .next ρ' s
          | none => .bad) s
        else .bad
      | none => if tupB e = true then .bad else bndS (evE L 40 sc e ρ) ρ (fun v s => match asgP L.N sc (.Tuple ts k p) v ρ with
        | some ρ' => .ok .next ρ' s
        | none => .bad) s
    | .AugAssign (.Attribute o f _) .Add e _ => fun ρ s => bndS (evE L 40 sc o ρ) ρ (fun x s => bndS (fldP L x f) ρ (fun v s => bndS (evE L 40 sc e ρ) ρ (fun w s' => if clsP s x = clsP s' x then bndS (match v, w with
      | .int i, .int j => fldSet L x f (.int (i + j))
      | _, _ => stop) ρ (fun _ s => .ok .next ρ s) s' else .bad) s) s) s
    | .AugAssign (.Attribute o f _) .Sub e _ => fun ρ s => bndS (evE L 40 sc o ρ) ρ (fun x s => bndS (fldP L x f) ρ (fun v s => bndS (evE L 40 sc e ρ) ρ (fun w s' => if clsP s x = clsP s' x then bndS (match v, w with
      | .int i, .int j => fldSet L x f (.int (i - j))
      | _, _ => stop) ρ (fun _ s => .ok .next ρ s) s' else .bad) s) s) s
    | .If c a b _ => fun ρ s => bndS (tst (evE L 40 sc) 20 c ρ) ρ (fun t s => if t = true then blk (evS L sc n) a ρ s else blk (evS L sc n) b ρ s) s
    | .While c b [] _ => fun ρ s => whl (blk (evS L sc n) b) (tst (evE L 40 sc) 20 c) 100000 ρ s
    | .For tg iter b [] _ => fun ρ s => bndS (srcP (evE L 40 sc) sc tg iter ρ) ρ (fun src s => forP (blk (evS L sc n) b) (asgP L.N sc tg) src (lenI s src + 1) 0 ρ s) s
    | .Raise (some e) none _ => excP L (evE L 40 sc) sc e
    | .Try b [.ExceptHandler (some (.Name x _)) nm (s0 :: suite) _] [] [] _ => fun ρ s =>
      if (globB sc x && nmOk L.N sc nm) = true then match L.T.glob.lookup x with
        | some (.cls c') => match blk (evS L sc n) b ρ s with
          | .exc c fs ρ' s' => match excF L.T c, excF L.T c' with
            | some fl, some _ => if L.T.sub c c' = true then match suiP nm fl fs (s0 :: suite) with
                | some r => goneP L.N nm r ρ' s'
                | none => .bad
              else .exc c fs ρ' s'
            | _, _ => .bad
          | o => o
        | _ => .bad
      else .bad
    | _ => fun _ _ => .bad
def start (N : List Str) (vs : List PV) : Sl := vs.map some ++ List.replicate (N.length - vs.length) none
/-- the i-th def, calls at most d deep -/
def callB (T : Tab) (call mk : Nat → List PV → M PV) (i : Nat) (vs : List PV) : M PV := fun s =>
  match T.fns[i]? with
  | none => .bad
  | some F => if vs.length = F.ps.length then
      match blk (evS ⟨T, call, mk, F.N⟩ F.sc 20) F.body (start F.N vs) s with
      | .ok .next _ s' => .ok .non s'
      | .ok (.ret v) _ s' => .ok v s'
      | .exc c fs _ s' => .exc c fs s'
      | _ => .bad
    else .bad
def call2 (T : Tab) : Nat → (Nat → List PV → M PV) × (Nat → List PV → M PV)
  | 0 => (fun _ _ => stop, fun _ _ => stop)
  | d + 1 => (callB T (call2 T d).1 (call2 T d).2, (call2 T d).1)
def callN (T : Tab) (d : Nat) : Nat → List PV → M PV := (call2 T d).1
end Z

namespace Z
open PySem L2

section
variable (K : PySem.W.Frag)
mutual
inductive Rv (φ : List Addr) (H : Hp) : PV → V → Prop
  | non : Rv φ H .non .non
  | bl (b : Bool) : Rv φ H (.bl b) (.bl b)
  | int (i : Int) : Rv φ H (.int i) (.int i)
  | str (x : Str) : Rv φ H (.str x) (.str x)
  | tup {a : Addr} {l : List PV} {xs : List V} : SqT K H a xs → RvL φ H l xs → Rv φ H (.tup l) (.ref a)
  | ref {n : Nat} {a : Addr} : φ[n]? = some a → Rv φ H (.ref n) (.ref a)
inductive RvL (φ : List Addr) (H : Hp) : List PV → List V → Prop
  | nil : RvL φ H [] []
  | cons {v : PV} {x : V} {l : List PV} {xs : List V} : Rv φ H v x → RvL φ H l xs → RvL φ H (v :: l) (x :: xs)
end
inductive Rk {κ : Type} (φ : List Addr) (H : Hp) : List (κ × PV) → List (κ × V) → Prop
  | nil : Rk φ H [] []
  | cons {k : κ} {v : PV} {x : V} {l : List (κ × PV)} {xs : List (κ × V)} : Rv K φ H v x → Rk φ H l xs → Rk φ H ((k, v) :: l) ((k, x) :: xs)
end
section
variable {K : PySem.W.Frag} {φ φ' φ'' : List Addr} {H H' H'' : Hp}
/-- what stays from H to H' -/
structure Ext (φ : List Addr) (H : Hp) (φ' : List Addr) (H' : Hp) : Prop where
  pre : ∃ r, φ' = φ ++ r
  tup : ∀ a xs, H a = some (.tup xs) → H' a = some (.tup xs)
  frz : ∀ a o u, H a = some (.frz o u) → H' a = some (.frz o u)
theorem Ext.refl : Ext φ H φ H := ⟨⟨[], by simp⟩, fun _ _ h => h, fun _ _ _ h => h⟩
theorem Ext.trans (a : Ext φ H φ' H') (b : Ext φ' H' φ'' H'') : Ext φ H φ'' H'' := by
  obtain ⟨r, e⟩ := a.pre
  obtain ⟨r', e'⟩ := b.pre
  exact ⟨⟨r ++ r', by rw [e', e, List.append_assoc]⟩, fun p xs h => b.tup _ _ (a.tup _ _ h), fun p o u h => b.frz _ _ _ (a.frz _ _ _ h)⟩
theorem Ext.get (e : Ext φ H φ' H') {n : Nat} {a : Addr} (h : φ[n]? = some a) : φ'[n]? = some a := by
  obtain ⟨r, rfl⟩ := e.pre
  have hn : n < φ.length := (List.getElem?_eq_some_iff.mp h).1
  rw [List.getElem?_append_left hn]
  exact h
theorem SqT.ext {a : Addr} {xs : List V} (e : Ext φ H φ' H') (h : SqT K H a xs) : SqT K H' a xs := by
  rcases h with (h | ⟨o, h⟩) | h
  · exact .inl (.inl (e.tup _ _ h))
  · exact .inl (.inr ⟨o, e.frz _ _ _ h⟩)
  · exact .inr h
mutual
theorem Rv.ext (e : Ext φ H φ' H') : ∀ {v : PV} {x : V}, Rv K φ H v x → Rv K φ' H' v x
  | _, _, .non => .non
  | _, _, .bl b => .bl b
  | _, _, .int i => .int i
  | _, _, .str x => .str x
  | _, _, .tup h r => .tup (SqT.ext e h) (RvL.ext e r)
  | _, _, .ref h => .ref (e.get h)
theorem RvL.ext (e : Ext φ H φ' H') : ∀ {l : List PV} {xs : List V}, RvL K φ H l xs → RvL K φ' H' l xs
  | _, _, .nil => .nil
  | _, _, .cons r t => .cons (Rv.ext e r) (RvL.ext e t)
end
theorem Rk.ext {κ : Type} (e : Ext φ H φ' H') {l : List (κ × PV)} {xs : List (κ × V)} (h : Rk K φ H l xs) : Rk K φ' H' l xs := by
  induction h with
  | nil => exact .nil
  | cons r _ ih => exact .cons (r.ext e) ih

theorem RvL.len : ∀ {l : List PV} {xs : List V}, RvL K φ H l xs → l.length = xs.length
  | _, _, .nil => rfl
  | _, _, .cons _ t => congrArg (· + 1) t.len
theorem RvL.get : ∀ {l : List PV} {xs : List V} {i : Nat} {v : PV}, RvL K φ H l xs → l[i]? = some v → ∃ x, xs[i]? = some x ∧ Rv K φ H v x
  | _, _, _, _, .nil, e => by simp at e
  | _, _, 0, _, .cons r _, e => by simp at e; subst e; exact ⟨_, rfl, r⟩
  | _, _, i + 1, v, .cons _ t, e => by
    obtain ⟨x, h1, h2⟩ := RvL.get (i := i) (v := v) t (by simpa using e)
    exact ⟨x, by simpa using h1, h2⟩
theorem RvL.get_none {l : List PV} {xs : List V} {i : Nat} (r : RvL K φ H l xs) (e : l[i]? = none) : xs.length ≤ i := by
  rw [← r.len]
  exact List.getElem?_eq_none_iff.mp e
theorem RvL.app : ∀ {l l' : List PV} {xs xs' : List V}, RvL K φ H l xs → RvL K φ H l' xs' → RvL K φ H (l ++ l') (xs ++ xs')
  | _, _, _, _, .nil, s => s
  | _, _, _, _, .cons r t, s => .cons r (t.app s)
theorem RvL.one {v : PV} {x : V} (r : Rv K φ H v x) : RvL K φ H [v] [x] := .cons r .nil
theorem RvL.drop : ∀ {l : List PV} {xs : List V} (n : Nat), RvL K φ H l xs → RvL K φ H (l.drop n) (xs.drop n)
  | _, _, 0, r => r
  | _, _, _ + 1, .nil => .nil
  | _, _, n + 1, .cons _ t => RvL.drop n t
theorem RvL.take : ∀ {l : List PV} {xs : List V} (n : Nat), RvL K φ H l xs → RvL K φ H (l.take n) (xs.take n)
  | _, _, 0, _ => .nil
  | _, _, _ + 1, .nil => .nil
  | _, _, n + 1, .cons r t => .cons r (RvL.take n t)
theorem RvL.cut {l : List PV} {xs : List V} (lo hi : Option Int) (r : RvL K φ H l xs) : RvL K φ H (cutP l lo hi) (cutV xs lo hi) := by
  unfold cutP cutV
  rw [r.len]
  exact (r.drop _).take _
theorem Rv.flat {v : PV} {x : V} (r : Rv K φ H v x) (h : flatP v = true) : x = pv v := by
  cases r <;> first | rfl | cases h
theorem flat_pv {v : PV} (h : flatP v = true) : flatV (pv v) = true := by
  cases v <;> first | rfl | cases h
theorem RvL.flat : ∀ {l : List PV} {xs : List V}, RvL K φ H l xs → l.all flatP = true → xs = l.map pv ∧ xs.all flatV = true
  | _, _, .nil, _ => ⟨rfl, rfl⟩
  | _, _, .cons r t, h => by
    simp only [List.all_cons, Bool.and_eq_true] at h
    obtain ⟨e1, e2⟩ := t.flat h.2
    have e := r.flat h.1
    subst e
    rw [List.map_cons, ← e1, List.all_cons, e2, flat_pv h.1]
    exact ⟨rfl, rfl⟩
theorem RvL.ints : ∀ {l : List PV} {xs : List V} {ns : List Int}, RvL K φ H l xs → intsOf l = some ns → xs = ns.map V.int
  | _, _, _, .nil, h => by cases h; rfl
  | _, _, _, .cons r t, h => by
    cases r with
    | int i =>
      unfold intsOf at h
      simp only [Option.map_eq_some_iff] at h
      obtain ⟨ms, e, rfl⟩ := h
      rw [t.ints e, List.map_cons]
    | _ => cases h
theorem RvL.bools : ∀ {l : List PV} {xs : List V} {ns : List Bool}, RvL K φ H l xs → boolsOf l = some ns → xs = ns.map V.bl
  | _, _, _, .nil, h => by cases h; rfl
  | _, _, _, .cons r t, h => by
    cases r with
    | bl i =>
      unfold boolsOf at h
      simp only [Option.map_eq_some_iff] at h
      obtain ⟨ms, e, rfl⟩ := h
      rw [t.bools e, List.map_cons]
    | _ => cases h
theorem Rv.key {v : PV} {x : V} {k : Key} (r : Rv K φ H v x) (h : keyOf v = some k) : x = kV k := by
  cases r <;> first | (cases h; rfl) | cases h
theorem key_rv {k : Key} {v : PV} (h : keyOf v = some k) : Rv K φ H v (kV k) := by
  cases v <;> first | (cases h; constructor) | cases h

section
variable {κ : Type} [DecidableEq κ] {l : List (κ × PV)} {ks : List (κ × V)}
theorem Rk.len (r : Rk K φ H l ks) : l.length = ks.length := by
  induction r with
  | nil => rfl
  | cons _ _ ih => exact congrArg (· + 1) ih
theorem Rk.keys (r : Rk K φ H l ks) : l.map (·.1) = ks.map (·.1) := by
  induction r with
  | nil => rfl
  | cons _ _ ih => simp [ih]
theorem Rk.find (r : Rk K φ H l ks) (p : κ → Bool) : (∃ q z, (l.find? fun q => p q.1) = some q ∧ (ks.find? fun q => p q.1) = some z ∧ q.1 = z.1 ∧ Rv K φ H q.2 z.2) ∨ ((l.find? fun q => p q.1) = none ∧ (ks.find? fun q => p q.1) = none) := by
  induction r with
  | nil => exact .inr ⟨rfl, rfl⟩
  | @cons k v x l xs h _ ih =>
    cases hp : p k with
    | true => exact .inl ⟨(k, v), (k, x), by simp [List.find?_cons, hp], by simp [List.find?_cons, hp], rfl, h⟩
    | false =>
      simp only [List.find?_cons, hp]
      exact ih
theorem Rk.app {l' : List (κ × PV)} {ks' : List (κ × V)} (r : Rk K φ H l ks) (r' : Rk K φ H l' ks') : Rk K φ H (l ++ l') (ks ++ ks') := by
  induction r with
  | nil => exact r'
  | cons h _ ih => exact .cons h ih
theorem Rk.any (r : Rk K φ H l ks) (p : κ → Bool) : (l.any fun q => p q.1) = (ks.any fun q => p q.1) := by
  induction r with
  | nil => rfl
  | cons _ _ ih => simp only [List.any_cons, ih]
theorem Rk.put (r : Rk K φ H l ks) (k : κ) {v : PV} {x : V} (h : Rv K φ H v x) : Rk K φ H (if (l.any fun p => decide (p.1 = k)) = true then l.map (fun p => if p.1 = k then (p.1, v) else p) else l ++ [(k, v)]) (putK ks k x) := by
  unfold putK
  have e := r.any fun q => decide (q = k)
  rw [e]
  split
  · clear e
    rename_i z
    clear z
    induction r with
    | nil => exact .nil
    | @cons k' v' x' l xs h' _ ih =>
      simp only [List.map_cons]
      by_cases hk : k' = k
      · rw [if_pos hk, if_pos hk]
        exact .cons h ih
      · rw [if_neg hk, if_neg hk]
        exact .cons h' ih
  · exact r.app (.cons h .nil)
end
theorem Rk.dget {l : List (Key × PV)} {ks : List (Key × V)} (r : Rk K φ H l ks) (k : Key) : (∃ v x, dget l k = some v ∧ valV ks k = some x ∧ Rv K φ H v x) ∨ (dget l k = none ∧ valV ks k = none) := by
  unfold Z.dget valV
  rcases r.find fun q => decide (q = k) with ⟨q, z, h1, h2, _, h4⟩ | ⟨h1, h2⟩
  · exact .inl ⟨q.2, z.2, by rw [h1]; rfl, by rw [h2]; rfl, h4⟩
  · exact .inr ⟨by rw [h1]; rfl, by rw [h2]; rfl⟩
theorem Rk.dput {l : List (Key × PV)} {ks : List (Key × V)} (r : Rk K φ H l ks) (k : Key) {v : PV} {x : V} (h : Rv K φ H v x) : Rk K φ H (dput l k v) (putK ks k x) := r.put k h
theorem Rk.merge : ∀ {more : List (Key × PV)} {ms : List (Key × V)} {l : List (Key × PV)} {ks : List (Key × V)}, Rk K φ H more ms → Rk K φ H l ks → Rk K φ H (mergeP l more) (mergeK ks ms)
  | _, _, _, _, .nil, r => r
  | _, _, _, _, .cons h t, r => by
    unfold mergeP mergeK
    rw [List.foldl_cons, List.foldl_cons]
    exact Rk.merge t (r.dput _ h)
theorem Rk.lookup {l : List (Str × PV)} {fs : List (Str × V)} (r : Rk K φ H l fs) (f : Str) : (∃ v x, l.lookup f = some v ∧ fs.lookup f = some x ∧ Rv K φ H v x) ∨ (l.lookup f = none ∧ fs.lookup f = none) := by
  induction r with
  | nil => exact .inr ⟨rfl, rfl⟩
  | @cons k v x l xs h _ ih =>
    simp only [List.lookup_cons]
    cases hb : f == k with
    | true => exact .inl ⟨v, x, rfl, rfl, h⟩
    | false => exact ih
theorem Rk.putF {l : List (Str × PV)} {fs : List (Str × V)} (r : Rk K φ H l fs) (f : Str) {v : PV} {x : V} (h : Rv K φ H v x) : Rk K φ H (putFP f v l) (putF f x fs) := by
  induction r with
  | nil => exact .cons h .nil
  | @cons k v' x' l xs h' t ih =>
    unfold putFP L2.putF
    by_cases e : k = f
    · rw [if_pos e, if_pos e]
      exact .cons h t
    · rw [if_neg e, if_neg e]
      exact .cons h' ih
end

def wrt : SO → Bool
  | .rol _ => false
  | _ => true
section
variable (K : PySem.W.Frag) (ca : Nat → Addr)
/-- a list that is only read -/
def Fz (H : Hp) (a : Addr) (xs : List V) : Prop := (∃ o, H a = some (.frz o (.lst xs))) ∨
  ∃ (o : Obj) (its : Array Value) (n : Nat), K.lookup a = some o ∧ o.cls = .type "list" ∧ o.dict = none ∧ o.data = .seq its n ∧ its.size ≤ sizeLine ∧ Vals xs its.toList
def RO (φ : List Addr) (H : Hp) (a : Addr) : SO → Prop
  | .lst l => ∃ xs, H a = some (.lst xs) ∧ RvL K φ H l xs
  | .rol l => ∃ xs, Fz K H a xs ∧ RvL K φ H l xs
  | .dct l => ∃ ks, H a = some (.dK ks) ∧ Rk K φ H l ks
  | .ins c l => ∃ dx fs, H a = some (.ins (ca c) dx fs) ∧ Rk K φ H l fs
structure SR (φ : List Addr) (st : Store) (H : Hp) : Prop where
  len : φ.length = st.length
  obj : ∀ (n : Nat) a o, φ[n]? = some a → st[n]? = some o → RO K ca φ H a o
  apart : ∀ (n m : Nat) a o u, φ[n]? = some a → φ[m]? = some a → st[n]? = some o → st[m]? = some u → wrt o = true → wrt u = true → n = m
end
section
variable {K : PySem.W.Frag} {ca : Nat → Addr} {φ φ' : List Addr} {H H' : Hp} {st st' : Store}
theorem Fz.sq {a : Addr} {xs : List V} (h : Fz K H a xs) : SqL K H a xs := by
  rcases h with ⟨o, h⟩ | h
  · exact .inl (.inr ⟨o, h⟩)
  · exact .inr h
theorem Fz.ext {a : Addr} {xs : List V} (e : Ext φ H φ' H') (h : Fz K H a xs) : Fz K H' a xs := by
  rcases h with ⟨o, h⟩ | h
  · exact .inl ⟨o, e.frz _ _ _ h⟩
  · exact .inr h
theorem RO.mut {a : Addr} {o : SO} (h : RO K ca φ H a o) (w : wrt o = true) : Mut (H a) := by
  cases o with
  | lst l => obtain ⟨xs, e, _⟩ := h; rw [e]; trivial
  | rol l => cases w
  | dct l => obtain ⟨xs, e, _⟩ := h; rw [e]; trivial
  | ins c l => obtain ⟨dx, xs, e, _⟩ := h; rw [e]; trivial
theorem RO.ext {a : Addr} {o : SO} (e : Ext φ H φ' H') (k : wrt o = true → H' a = H a) (h : RO K ca φ H a o) : RO K ca φ' H' a o := by
  cases o with
  | lst l => obtain ⟨xs, q, r⟩ := h; exact ⟨xs, by rw [k rfl]; exact q, r.ext e⟩
  | rol l => obtain ⟨xs, q, r⟩ := h; exact ⟨xs, q.ext e, r.ext e⟩
  | dct l => obtain ⟨xs, q, r⟩ := h; exact ⟨xs, by rw [k rfl]; exact q, r.ext e⟩
  | ins c l => obtain ⟨dx, xs, q, r⟩ := h; exact ⟨dx, xs, by rw [k rfl]; exact q, r.ext e⟩
theorem SR.at (r : SR K ca φ st H) {n : Nat} {a : Addr} {o : SO} (h : φ[n]? = some a) (e : st[n]? = some o) : RO K ca φ H a o := r.obj n a o h e
theorem SR.lt (r : SR K ca φ st H) {n : Nat} {a : Addr} (h : φ[n]? = some a) : n < st.length := by
  rw [← r.len]
  exact (List.getElem?_eq_some_iff.mp h).1
/-- a new thing that is no object of the store -/
theorem ext_new {p : Addr} {o : HO} (hp : H p = none) : Ext φ H φ (upd H p o) :=
  ⟨⟨[], by simp⟩, fun a xs h => by rw [upd_ne (ne_of_none h hp)]; exact h, fun a o u h => by rw [upd_ne (ne_of_none h hp)]; exact h⟩
theorem SR.new (r : SR K ca φ st H) {p : Addr} {o : HO} (hp : H p = none) : SR K ca φ st (upd H p o) :=
  ⟨r.len, fun n a u h e => (r.at h e).ext (ext_new hp) fun w => by
    have m := (r.at h e).mut w
    refine upd_ne ?_
    rintro rfl
    rw [hp] at m
    exact m, r.apart⟩
/-- a new object of the store -/
theorem ext_push {p : Addr} {o : HO} (hp : H p = none) : Ext φ H (φ ++ [p]) (upd H p o) :=
  ⟨⟨[p], rfl⟩, (ext_new (φ := φ) hp).tup, (ext_new (φ := φ) hp).frz⟩
theorem SR.push (r : SR K ca φ st H) {p : Addr} {o : HO} {u : SO} (hp : H p = none) (h : RO K ca (φ ++ [p]) (upd H p o) p u) : SR K ca (φ ++ [p]) (st ++ [u]) (upd H p o) := by
  have old : ∀ n a v, (φ ++ [p])[n]? = some a → (st ++ [u])[n]? = some v → (φ[n]? = some a ∧ st[n]? = some v) ∨ (n = st.length ∧ a = p ∧ v = u) := fun n a v h1 h2 => by
    have hl := r.len
    by_cases hn : n < st.length
    · rw [List.getElem?_append_left (by omega)] at h1
      rw [List.getElem?_append_left hn] at h2
      exact .inl ⟨h1, h2⟩
    · have hlt := (List.getElem?_eq_some_iff.mp h2).1
      simp only [List.length_append, List.length_cons, List.length_nil] at hlt
      have en : n = st.length := by omega
      subst en
      rw [List.getElem?_append_right (by omega)] at h1 h2
      simp only [hl, Nat.sub_self] at h1 h2
      exact .inr ⟨rfl, by simpa using h1.symm, by simpa using h2.symm⟩
  have ne : ∀ n a v, φ[n]? = some a → st[n]? = some v → wrt v = true → a ≠ p := fun n a v h1 h2 w z => by
    have m := (r.at h1 h2).mut w
    rw [z, hp] at m
    exact m
  refine ⟨by simp [r.len], fun n a v h1 h2 => ?_, fun n m a v w h1 h2 h3 h4 h5 h6 => ?_⟩
  · rcases old n a v h1 h2 with ⟨q1, q2⟩ | ⟨_, rfl, rfl⟩
    · exact (r.at q1 q2).ext (ext_push hp) fun w => upd_ne (ne n a v q1 q2 w)
    · exact h
  · rcases old n a v h1 h3 with ⟨q1, q2⟩ | ⟨e1, rfl, rfl⟩
    · rcases old m a w h2 h4 with ⟨q3, q4⟩ | ⟨e2, rfl, rfl⟩
      · exact r.apart n m a v w q1 q3 q2 q4 h5 h6
      · exact absurd rfl (ne n _ v q1 q2 h5)
    · rcases old m _ w h2 h4 with ⟨q3, q4⟩ | ⟨e2, _, rfl⟩
      · exact absurd rfl (ne m _ w q3 q4 h6)
      · exact e1.trans e2.symm
/-- an object of the store is written -/
theorem ext_set {a : Addr} {o : HO} (m : Mut (H a)) : Ext φ H φ (upd H a o) :=
  ⟨⟨[], by simp⟩, fun b xs h => by
    rw [upd_ne]
    · exact h
    · rintro rfl
      rw [h] at m
      exact m, fun b o u h => by
    rw [upd_ne]
    · exact h
    · rintro rfl
      rw [h] at m
      exact m⟩
theorem SR.set (r : SR K ca φ st H) {n : Nat} {a : Addr} {o u : SO} {w : HO} (h : φ[n]? = some a) (e : st[n]? = some o) (hw : wrt o = true) (hu : wrt u = true) (q : RO K ca φ (upd H a w) a u) : SR K ca φ (st.set n u) (upd H a w) := by
  have mu := (r.at h e).mut hw
  have hn := r.lt h
  have old : ∀ m v, (st.set n u)[m]? = some v → (m = n ∧ v = u) ∨ (m ≠ n ∧ st[m]? = some v) := fun m v hv => by
    by_cases c : m = n
    · subst c
      rw [List.getElem?_set_self hn] at hv
      exact .inl ⟨rfl, by simpa using hv.symm⟩
    · rw [List.getElem?_set_ne (Ne.symm c)] at hv
      exact .inr ⟨c, hv⟩
  refine ⟨by simp [r.len], fun m b v h1 h2 => ?_, fun m k b v v' h1 h2 h3 h4 h5 h6 => ?_⟩
  · rcases old m v h2 with ⟨rfl, rfl⟩ | ⟨c, h2⟩
    · rw [h] at h1
      cases h1
      exact q
    · refine (r.at h1 h2).ext (ext_set mu) fun wv => upd_ne ?_
      rintro rfl
      exact c (r.apart m n b v o h1 h h2 e wv hw)
  · rcases old m v h3 with ⟨e1, e2⟩ | ⟨c, g3⟩
    · rcases old k v' h4 with ⟨e3, e4⟩ | ⟨c', g4⟩
      · exact e1.trans e3.symm
      · subst e1
        rw [h] at h1
        cases h1
        exact r.apart m k _ o v' h h2 e g4 hw h6
    · rcases old k v' h4 with ⟨e3, e4⟩ | ⟨c', g4⟩
      · subst e3
        rw [h] at h2
        cases h2
        exact r.apart m k _ v o h1 h g3 e h5 hw
      · exact r.apart m k b v v' h1 h2 g3 g4 h5 h6
/-- a list, as it may be read -/
theorem SR.list (r : SR K ca φ st H) {n : Nat} {a : Addr} {l : List PV} (h : φ[n]? = some a) (e : lstOf st n = some l) : ∃ xs, SqL K H a xs ∧ RvL K φ H l xs := by
  unfold lstOf at e
  cases q : st[n]? with
  | none => rw [q] at e; cases e
  | some o =>
    rw [q] at e
    cases o with
    | lst l' => cases e; obtain ⟨xs, z, t⟩ := r.at h q; exact ⟨xs, SqL.of z, t⟩
    | rol l' => cases e; obtain ⟨xs, z, t⟩ := r.at h q; exact ⟨xs, z.sq, t⟩
    | _ => cases e

def RL (K : PySem.W.Frag) (φ : List Addr) (H : Hp) (ρ : Sl) (σ : St) : Prop := ρ.length = σ.length ∧ ∀ (i : Nat) (v : PV), ρ[i]? = some (some v) → ∃ x, σ[i]? = some (some x) ∧ Rv K φ H v x
theorem RL.ext {ρ : Sl} {σ : St} (e : Ext φ H φ' H') (h : RL K φ H ρ σ) : RL K φ' H' ρ σ := ⟨h.1, fun i v q => let ⟨x, a, b⟩ := h.2 i v q; ⟨x, a, b.ext e⟩⟩
theorem RL.set {ρ : Sl} {σ : St} (h : RL K φ H ρ σ) (i : Nat) {v : PV} {x : V} (r : Rv K φ H v x) : RL K φ H (ρ.set i (some v)) (σ.set i (some x)) := by
  refine ⟨by simp [h.1], fun j w q => ?_⟩
  by_cases c : j = i
  · subst c
    have hj : j < ρ.length := by
      have := (List.getElem?_eq_some_iff.mp q).1
      simpa using this
    rw [List.getElem?_set_self hj] at q
    cases q
    exact ⟨x, List.getElem?_set_self (by rw [← h.1]; exact hj), r⟩
  · rw [List.getElem?_set_ne (Ne.symm c)] at q
    obtain ⟨y, a, b⟩ := h.2 j w q
    exact ⟨y, by rw [List.getElem?_set_ne (Ne.symm c)]; exact a, b⟩
theorem RL.del {ρ : Sl} {σ : St} (h : RL K φ H ρ σ) (i : Nat) {y : Option V} : RL K φ H (ρ.set i none) (σ.set i y) := by
  refine ⟨by simp [h.1], fun j w q => ?_⟩
  by_cases c : j = i
  · subst c
    have hj : j < ρ.length := by
      have := (List.getElem?_eq_some_iff.mp q).1
      simpa using this
    rw [List.getElem?_set_self hj] at q
    cases q
  · rw [List.getElem?_set_ne (Ne.symm c)] at q
    obtain ⟨y, a, b⟩ := h.2 j w q
    exact ⟨y, by rw [List.getElem?_set_ne (Ne.symm c)]; exact a, b⟩
theorem RL.wipe {ρ : Sl} {σ : St} (h : RL K φ H ρ σ) : ∀ vs : List Nat, RL K φ H (wipeP ρ vs) (L2.wipe σ vs)
  | [] => h
  | _ :: r => (RL.wipe h r).del _
end

section
variable (K : PySem.W.Frag) (ca : Nat → Addr)
/-- the fields of an exception, in its own dict -/
def Rx (φ : List Addr) (H : Hp) (fs : List (Str × PV)) (d : Option Addr) : Prop :=
  ∀ f v, fs.lookup f = some v → ∃ dd us x, d = some dd ∧ H dd = some (.xd us) ∧ us.lookup f = some x ∧ Rv K φ H v x
def Out {α β : Type} (R : List Addr → Hp → α → β → Prop) (Ex : XK) (φ : List Addr) (H : Hp) (Q : β → Hp → Prop) : RE α → Prop
  | .ok v st => ∀ φ' H' u, Ext φ H φ' H' → SR K ca φ' st H' → R φ' H' v u → Q u H'
  | .exc c fs st => ∀ φ' H' d, Ext φ H φ' H' → SR K ca φ' st H' → Rx K φ' H' fs d → Ex (.ref (ca c)) d H'
  | .bad => False
end
section
variable {K : PySem.W.Frag} {ca : Nat → Addr} {φ φ' : List Addr} {H H' : Hp} {st : Store} {α β γ δ : Type} {R : List Addr → Hp → α → β → Prop} {R' : List Addr → Hp → γ → δ → Prop} {Ex : XK} {Q Q' : β → Hp → Prop} {r : RE α}
theorem Out.base (e : Ext φ H φ' H') (o : Out K ca R Ex φ H Q r) : Out K ca R Ex φ' H' Q r := by
  cases r with
  | ok v s => exact fun φ2 H2 u e2 rs rv => o φ2 H2 u (e.trans e2) rs rv
  | exc c fs s => exact fun φ2 H2 d e2 rs rv => o φ2 H2 d (e.trans e2) rs rv
  | bad => exact o
theorem Out.imp (o : Out K ca R Ex φ H Q r) (h : ∀ u H', Q u H' → Q' u H') : Out K ca R Ex φ H Q' r := by
  cases r with
  | ok v s => exact fun φ2 H2 u e2 rs rv => h _ _ (o φ2 H2 u e2 rs rv)
  | exc c fs s => exact o
  | bad => exact o
/-- one part, then the rest -/
theorem Out.bnd {m : M α} {f : α → M γ} {P : δ → Hp → Prop} (o : Out K ca R' Ex φ H P (bnd m f st)) :
    Out K ca R Ex φ H (fun u H1 => ∃ φ1 st1 v, Ext φ H φ1 H1 ∧ SR K ca φ1 st1 H1 ∧ R φ1 H1 v u ∧ Out K ca R' Ex φ1 H1 P (f v st1)) (m st) := by
  unfold Z.bnd at o
  cases q : m st with
  | ok v s => rw [q] at o; exact fun φ2 H2 u e2 rs rv => ⟨φ2, s, v, e2, rs, rv, o.base e2⟩
  | exc c fs s => rw [q] at o; exact o
  | bad => rw [q] at o; exact o
theorem Out.ok {v : α} {u : β} (o : Out K ca R Ex φ H Q (.ok v st)) (rs : SR K ca φ st H) (rv : R φ H v u) : Q u H := o φ H u .refl rs rv
theorem Out.ret {v : α} {u : β} (o : Out K ca R Ex φ H Q (ret v st)) (rs : SR K ca φ st H) (rv : R φ H v u) : Q u H := o φ H u .refl rs rv
end
end Z

namespace Z
open PySem L2

abbrev Rb : List Addr → Hp → Bool → V → Prop := fun _ _ b u => u = .bl b
abbrev Rt : List Addr → Hp → Bool → Bool → Prop := fun _ _ b u => u = b
section
variable {X : Cx} {ca : Nat → Addr}
def rBin (X : Cx) (ca : Nat → Addr) (f : PV → PV → M PV) : R2 := fun x y H Q => ∃ φ st v w Ex, SR X.K ca φ st H ∧ Rv X.K φ H v x ∧ Rv X.K φ H w y ∧ Out X.K ca (Rv X.K) Ex φ H Q (f v w st)
def rCmp (X : Cx) (ca : Nat → Addr) (f : PV → PV → M Bool) : R2 := fun x y H Q => ∃ φ st v w Ex, SR X.K ca φ st H ∧ Rv X.K φ H v x ∧ Rv X.K φ H w y ∧ Out X.K ca Rb Ex φ H Q (f v w st)

theorem op_bin (op : Operator) : OpR X (binaryOp op) (rBin X ca (binP op)) := by
  intro pins s σ H x y v u Q I rx ry h
  obtain ⟨φ, st, a, b, Ex, rs, ra, rb, o⟩ := h
  unfold binP at o
  split at o
  · cases ra; cases rb
    exact op_add pins s σ H _ _ v u Q I rx ry ⟨_, _, rfl, rfl, o.ret rs (.int _)⟩
  · cases ra; cases rb
    exact op_sub pins s σ H _ _ v u Q I rx ry ⟨_, _, rfl, rfl, o.ret rs (.int _)⟩
  · cases ra; cases rb
    split at o
    · rename_i c
      refine op_mul pins s σ H _ _ v u Q I rx ry ⟨_, _, rfl, rfl, ?_, o.ret rs (.int _)⟩
      unfold mulB at c
      simp only [Bool.or_eq_true, Bool.and_eq_true, decide_eq_true_eq] at c
      exact c
    · exact o.elim
  · cases ra; cases rb
    split at o
    · rename_i c
      exact op_fdiv pins s σ H _ _ v u Q I rx ry ⟨_, _, rfl, rfl, c, o.ret rs (.int _)⟩
    · exact o.elim
  · cases ra; cases rb
    split at o
    · rename_i c
      exact op_mod pins s σ H _ _ v u Q I rx ry ⟨_, _, rfl, rfl, c, o.ret rs (.int _)⟩
    · exact o.elim
  · cases ra with
    | tup ha la =>
      cases rb with
      | tup hb lb =>
        split at o
        · rename_i c
          refine op_catA pins s σ H _ _ v u Q I rx ry ⟨_, _, _, _, rfl, rfl, ha, hb, by rw [← la.len, ← lb.len]; exact c, fun e => ?_, fun _ e => ?_, fun _ _ p hp => ?_⟩
          · subst e
            cases la
            exact o.ret rs (.tup hb lb)
          · subst e
            cases lb
            refine o.ret rs ?_
            rw [List.append_nil]
            exact .tup ha la
          · exact o φ _ _ (ext_new hp) (rs.new hp) (.tup (.inl (.inl upd_same)) ((la.app lb).ext (ext_new hp)))
        · exact o.elim
  · cases ra; cases rb
    split at o
    · rename_i c
      exact op_add_str pins s σ H _ _ v u Q I rx ry ⟨_, _, rfl, rfl, c, o.ret rs (.str _)⟩
    · exact o.elim
  · cases ra with
    | ref ha =>
      cases rb with
      | ref hb =>
        split at o
        · rename_i m n l r e1 e2
          obtain ⟨xs, q1, t1⟩ := rs.at ha e1
          obtain ⟨ys, q2, t2⟩ := rs.at hb e2
          split at o
          · rename_i c
            refine op_cat pins s σ H _ _ v u Q I rx ry ⟨_, _, xs, ys, rfl, rfl, q1, q2, by rw [← t1.len, ← t2.len]; exact c, fun p hp => ?_⟩
            refine o (φ ++ [p]) _ _ (ext_push hp) (rs.push hp ⟨_, upd_same, (t1.app t2).ext (ext_push hp)⟩) (.ref ?_)
            rw [← rs.len]
            simp
          · exact o.elim
        · exact o.elim
  · exact o.elim

mutual
theorem Rv.dat {φ : List Addr} {H : Hp} : ∀ {v : PV} {x : V} {d : PyData}, Rv X.K φ H v x → dat v = some d → Dp X.K H x d
  | _, _, _, .non, h => by unfold Z.dat at h; cases h; exact .non
  | _, _, _, .bl b, h => by unfold Z.dat at h; cases h; exact .bl b
  | _, _, _, .int i, h => by unfold Z.dat at h; cases h; exact .int i
  | _, _, _, .str i, h => by unfold Z.dat at h; cases h; exact .str i
  | _, _, _, .tup q r, h => by
    unfold Z.dat at h
    simp only [Option.map_eq_some_iff] at h
    obtain ⟨ds, e, rfl⟩ := h
    exact .tup q (RvL.dat r e)
  | _, _, _, .ref _, h => by unfold Z.dat at h; cases h
theorem RvL.dat {φ : List Addr} {H : Hp} : ∀ {l : List PV} {xs : List V} {ds : List PyData}, RvL X.K φ H l xs → datL l = some ds → DpAll X.K H xs ds
  | _, _, _, .nil, h => by unfold datL at h; cases h; exact .nil
  | _, _, _, .cons r t, h => by
    unfold datL at h
    split at h
    · rename_i d ds e1 e2
      cases h
      exact .cons (Rv.dat r e1) (RvL.dat t e2)
    · cases h
end
theorem Rv.datS {φ : List Addr} {st : Store} {H : Hp} (rs : SR X.K ca φ st H) {v : PV} {x : V} {d : PyData} (r : Rv X.K φ H v x) (h : datS st v = some d) : Dp X.K H x d := by
  unfold Z.datS at h
  split at h
  · rename_i n
    cases r with
    | ref ha =>
      split at h
      · rename_i l e
        simp only [Option.map_eq_some_iff] at h
        obtain ⟨ds, e2, rfl⟩ := h
        obtain ⟨xs, q, t⟩ := rs.at ha e
        exact .lst (SqL.of q) (t.dat e2)
      · rename_i l e
        simp only [Option.map_eq_some_iff] at h
        obtain ⟨ds, e2, rfl⟩ := h
        obtain ⟨xs, q, t⟩ := rs.at ha e
        exact .lst q.sq (t.dat e2)
      · cases h
  · exact Rv.dat r h
/-- a dict's pairs, as the comparison meets them -/
theorem hits_of {A : Around} {s : Shared} {φ : List Addr} {H : Hp} {r : List (Key × PV)} {ls : List (Key × V)} {vb : List (Key × Value)} (rb : Rk X.K φ H r ls) (kb : KV ls vb) (fb : r.all (fun p => flatP p.2) = true)
    {l : List (Key × PV)} {ks : List (Key × V)} (ra : Rk X.K φ H l ks) : ∀ {va : List (Key × Value)}, KV ks va → l.all (fun p => flatP p.2) = true →
      PySem.W.KeqHits A s vb va (l.all fun p => match dget r p.1 with
        | some z => eqV (pv p.2) (pv z)
        | none => false) := by
  induction ra with
  | nil => intro va ka _; cases ka; exact .nil
  | @cons k v x l ks h t ih =>
    intro va ka f
    simp only [List.all_cons, Bool.and_eq_true] at f
    cases ka with
    | @cons _ z _ zs hz ht =>
      obtain ⟨k', u⟩ := z
      obtain ⟨e1, e2⟩ := hz
      have e1 : k = k' := e1
      subst e1
      have i2 := ih ht f.2
      have ex := h.flat f.1
      subst ex
      have rr := kb.val k
      rcases rb.dget k with ⟨v', x', q1, q2, q3⟩ | ⟨q1, q2⟩
      · have hm : flatP v' = true := by
          unfold Z.dget at q1
          simp only [Option.map_eq_some_iff] at q1
          obtain ⟨p, e, rfl⟩ := q1
          exact List.all_eq_true.mp fb p (List.mem_of_find?_eq_some e)
        have ex' := q3.flat hm
        subst ex'
        rw [q2] at rr
        obtain ⟨u', hu, ru⟩ := rr.some_of
        simp only [List.all_cons, q1]
        exact .hit hu (eqAt_V e2 ru (flat_pv f.1) (flat_pv hm)) i2
      · have hv : valueAt vb k = none := by
          rw [q2] at rr
          cases hv : valueAt vb k with
          | none => rfl
          | some u' => rw [hv] at rr; exact rr.elim
        simp only [List.all_cons, q1, Bool.false_and]
        exact .miss hv
theorem eq_all {op : CmpOp} {φ : List Addr} {st : Store} {H : Hp} {a b : PV} {x y : V} {Ex : XK} {Q : VK} {Qk : Bool → Hp → Prop} (neg : Bool) (hq : ∀ k H, Qk k H → Q (.bl (if neg = true then !k else k)) H) {pins : List (Addr × Obj)} {s : Shared} {σ : St} {v u : Value}
    (hop : op = if neg then .NotEq else .Eq) (hu : X.A.units + 64 < cLine) (I : Inv X pins σ H s) (rx : RelV x v) (ry : RelV y u) (rs : SR X.K ca φ st H) (ra : Rv X.K φ H a x) (rb : Rv X.K φ H b y)
    (o : Out X.K ca Rb Ex φ H (fun z H => ∃ k, z = .bl k ∧ Qk k H) (eqP a b st)) : wpAny (model X.prog X.w) X.A (compareOp op v u) (EP X pins σ Q) X.xe s := by
  have viaD : ∀ {d e : PyData}, Dp X.K H x d → Dp X.K H y e → SeqAt.shaped d = true → SeqAt.shaped e = true → Qk (PyData.eqv d e) H → wpAny (model X.prog X.w) X.A (compareOp op v u) (EP X pins σ Q) X.xe s := fun {d e} h1 h2 h3 h4 q0 => by
    have q := hq _ _ q0
    cases neg with
    | true => subst hop; exact op_neD hu pins s σ H x y v u Q I rx ry ⟨d, e, h1, h2, h3, h4, q⟩
    | false => subst hop; exact op_eqD hu pins s σ H x y v u Q I rx ry ⟨d, e, h1, h2, h3, h4, q⟩
  have scal : scal x y = true → Qk (decide (x = y)) H → wpAny (model X.prog X.w) X.A (compareOp op v u) (EP X pins σ Q) X.xe s := fun h1 q0 => by
    have q := hq _ _ q0
    cases neg with
    | true => subst hop; exact op_ne pins s σ H x y v u Q I rx ry ⟨h1, q⟩
    | false => subst hop; exact op_eq pins s σ H x y v u Q I rx ry ⟨h1, q⟩
  have dd : ∀ {d e : PyData}, datS st a = some d → datS st b = some e → Out X.K ca Rb Ex φ H (fun z H => ∃ k, z = .bl k ∧ Qk k H) (if (SeqAt.shaped d && SeqAt.shaped e) = true then RE.ok (PyData.eqv d e) st else .bad) →
      wpAny (model X.prog X.w) X.A (compareOp op v u) (EP X pins σ Q) X.xe s := fun {d e} h1 h2 o => by
    split at o
    · rename_i c
      simp only [Bool.and_eq_true] at c
      obtain ⟨k, e1, q⟩ := o.ok rs (u := .bl (PyData.eqv d e)) rfl
      cases e1
      exact viaD (ra.datS rs h1) (rb.datS rs h2) c.1 c.2 q
    · exact o.elim
  unfold eqP at o
  split at o
  · cases ra; cases rb
    rename_i a b
    obtain ⟨k, e1, q⟩ := o.ret rs (u := .bl (decide (a = b))) rfl
    cases e1
    refine scal rfl ?_
    have e2 : decide (V.str a = V.str b) = decide (a = b) := by simp
    rw [e2]
    exact q
  · cases ra; cases rb
    rename_i a b
    obtain ⟨k, e1, q⟩ := o.ret rs (u := .bl (decide (a = b))) rfl
    cases e1
    refine scal rfl ?_
    have e2 : decide (V.int a = V.int b) = decide (a = b) := by simp
    rw [e2]
    exact q
  · cases ra; cases rb
    rename_i a b
    obtain ⟨k, e1, q⟩ := o.ret rs (u := .bl (decide (a = b))) rfl
    cases e1
    refine scal rfl ?_
    have e2 : decide (V.bl a = V.bl b) = decide (a = b) := by simp
    rw [e2]
    exact q
  · rename_i m n
    split at o
    · rename_i l r e1 e2
      split at o
      · rename_i k e3
        unfold dictEq at e3
        split at e3
        · rename_i c
          simp only [Bool.and_eq_true] at c
          cases e3
          cases ra with
          | @ref _ pa ha =>
            cases rb with
            | @ref _ pb hb =>
              obtain ⟨ks, q1, t1⟩ := rs.at ha e1
              obtain ⟨ls, q2, t2⟩ := rs.at hb e2
              obtain ⟨k, e4, q⟩ := o.ok rs (u := .bl _) rfl
              cases e4
              replace q := hq _ _ q
              obtain rfl : v = Value.ref pa := rx
              obtain rfl : u = Value.ref pb := ry
              obtain ⟨_, ya, va, r1, da⟩ := (show ObjOk X.prog X.w H s.heap pa (.dK ks) from I.hok pa _ q1)
              obtain ⟨_, yb, vb, r2, db⟩ := (show ObjOk X.prog X.w H s.heap pb (.dK ls) from I.hok pb _ q2)
              have el : (va.length == vb.length) = (l.length == r.length) := by rw [← r1.length, ← r2.length, ← t1.len, ← t2.len]
              have hu' : X.A.units < cLine := by omega
              cases neg with
              | true =>
                subst hop
                refine PySem.W.keq_ne (knd := mixKind X.prog X.w) ya yb da db hu' (fun _ => hits_of t2 r2 c.2 t1 r1 c.1) (fin_bl I q ?_)
                rw [el]
                all_goals rfl
              | false =>
                subst hop
                refine PySem.W.keq_eq (knd := mixKind X.prog X.w) ya yb da db hu' (fun _ => hits_of t2 r2 c.2 t1 r1 c.1) (fin_bl I q ?_)
                rw [el]
                all_goals rfl
        · cases e3
      · exact o.elim
    · split at o
      · rename_i d e e1 e2
        exact dd e1 e2 o
      · exact o.elim
  · dsimp only at o
    split at o
    · rename_i d e e1 e2
      exact dd e1 e2 o
    · exact o.elim
end
end Z

namespace Z
open PySem L2
section
variable {X : Cx} {ca : Nat → Addr}

theorem inV_eq {φ : List Addr} {H : Hp} {v : PV} {x : V} {l : List PV} {xs : List V} (r : Rv X.K φ H v x) (rl : RvL X.K φ H l xs) (h1 : flatP v = true) (h2 : l.all flatP = true) :
    flatV x = true ∧ xs.all flatV = true ∧ inV x xs = inV (pv v) (l.map pv) := by
  obtain ⟨e, f⟩ := rl.flat h2
  have e' := r.flat h1
  subst e'
  exact ⟨flat_pv h1, f, by rw [e]⟩
theorem op_in (neg : Bool) {op : CmpOp} (hop : op = if neg = true then .NotIn else .In) (hu : X.A.units + 64 < cLine) {φ : List Addr} {st : Store} {H : Hp} {a b : PV} {x y : V} {Ex : XK} {Q : VK} {Qk : Bool → Hp → Prop} (hq : ∀ k H, Qk k H → Q (.bl (if neg = true then !k else k)) H)
    {pins : List (Addr × Obj)} {s : Shared} {σ : St} {v u : Value} (I : Inv X pins σ H s) (rx : RelV x v) (ry : RelV y u) (rs : SR X.K ca φ st H) (ra : Rv X.K φ H a x) (rb : Rv X.K φ H b y)
    (o : Out X.K ca Rb Ex φ H (fun z H => ∃ k, z = .bl k ∧ Qk k H) (inP a b st)) : wpAny (model X.prog X.w) X.A (compareOp op v u) (EP X pins σ Q) X.xe s := by
  have hu1 : X.A.units + 1 < cLine := by omega
  unfold inP at o
  split at o
  · rename_i l
    cases rb with
    | tup q rl =>
      split at o
      · rename_i c
        simp only [Bool.and_eq_true] at c
        obtain ⟨f1, f2, e⟩ := inV_eq ra rl c.1 c.2
        obtain ⟨k, ek, z⟩ := o.ret rs (u := .bl _) rfl
        cases ek
        replace z := hq _ _ z
        rw [← e] at z
        cases neg with
        | true => subst hop; exact op_notIn_seq pins s σ H x _ v u Q I rx ry ⟨_, _, rfl, .inr q, f1, f2, z⟩
        | false => subst hop; exact op_in_seq pins s σ H x _ v u Q I rx ry ⟨_, _, rfl, .inr q, f1, f2, z⟩
      · exact o.elim
  · rename_i n
    try dsimp only at o
    split at o
    · rename_i l k e1 e2
      cases rb with
      | @ref _ p ha =>
        obtain ⟨ks, q, t⟩ := rs.at ha e1
        obtain ⟨z, ez, w⟩ := o.ok rs (u := .bl _) rfl
        cases ez
        replace w := hq _ _ w
        have ex := ra.key e2
        subst ex
        obtain rfl : u = Value.ref p := ry
        have g : DGet H p (kV k) (valV ks k) := .inl ⟨ks, k, .inl q, rfl, rfl⟩
        have es : (valV ks k).isSome = (dget l k).isSome := by
          rcases t.dget k with ⟨_, _, h1, h2, _⟩ | ⟨h1, h2⟩ <;> rw [h1, h2] <;> rfl
        rw [← es] at w
        cases neg with
        | true => subst hop; exact d_notIn hu1 I g rx fun s3 I3 => ⟨.bl _, H, I3, rfl, w⟩
        | false => subst hop; exact d_in hu1 I g rx fun s3 I3 => ⟨.bl _, H, I3, rfl, w⟩
    · exact o.elim
  · exact o.elim
theorem Out.neg {φ : List Addr} {st : Store} {H : Hp} {Ex : XK} {Q : VK} {m : M Bool} (o : Out X.K ca Rb Ex φ H Q (Z.bnd m (fun b => Z.ret (!b)) st)) :
    Out X.K ca Rb Ex φ H (fun z H => ∃ k, z = .bl k ∧ Q (.bl (!k)) H) (m st) := by
  refine (o.bnd (R := Rb)).imp fun u H1 h => ?_
  obtain ⟨φ1, st1, v, _, rs, e, o⟩ := h
  cases e
  exact ⟨v, rfl, o.ret rs rfl⟩
theorem Out.pos {φ : List Addr} {H : Hp} {Ex : XK} {Q : VK} {r : RE Bool} (o : Out X.K ca Rb Ex φ H Q r) : Out X.K ca Rb Ex φ H (fun z H => ∃ k, z = .bl k ∧ Q (.bl k) H) r := by
  cases r with
  | ok v s => exact fun φ2 H2 u e2 rs rv => ⟨v, rv, by have := o φ2 H2 u e2 rs rv; rw [← show u = V.bl v from rv]; exact this⟩
  | exc c fs s => exact o
  | bad => exact o
theorem op_cmp (hu : X.A.units + 64 < cLine) (op : CmpOp) : OpR X (compareOp op) (rCmp X ca (cmpP op)) := by
  intro pins s σ H x y v u Q I rx ry h
  obtain ⟨φ, st, a, b, Ex, rs, ra, rb, o⟩ := h
  unfold cmpP at o
  split at o
  · exact eq_all (Qk := fun k H => Q (.bl k) H) false (fun k H q => q) rfl hu I rx ry rs ra rb o.pos
  · exact eq_all (Qk := fun k H => Q (.bl (!k)) H) true (fun k H q => q) rfl hu I rx ry rs ra rb o.neg
  · cases ra; cases rb; exact op_lt pins s σ H _ _ v u Q I rx ry ⟨_, _, rfl, rfl, o.ret rs rfl⟩
  · cases ra; cases rb; exact op_le pins s σ H _ _ v u Q I rx ry ⟨_, _, rfl, rfl, o.ret rs rfl⟩
  · cases ra; cases rb; exact op_gt pins s σ H _ _ v u Q I rx ry ⟨_, _, rfl, rfl, o.ret rs rfl⟩
  · cases ra; cases rb; exact op_ge pins s σ H _ _ v u Q I rx ry ⟨_, _, rfl, rfl, o.ret rs rfl⟩
  · cases ra; cases rb; exact op_isN pins s σ H _ _ v u Q I rx ry ⟨rfl, o.ret rs (by rfl)⟩
  · cases ra; cases rb; exact op_isN pins s σ H _ _ v u Q I rx ry ⟨rfl, o.ret rs (by rfl)⟩
  · cases ra; cases rb; exact op_isN pins s σ H _ _ v u Q I rx ry ⟨rfl, o.ret rs (by rfl)⟩
  · cases ra; cases rb; exact op_isN pins s σ H _ _ v u Q I rx ry ⟨rfl, o.ret rs (by rfl)⟩
  · cases ra; cases rb; exact op_isN pins s σ H _ _ v u Q I rx ry ⟨rfl, o.ret rs (by rfl)⟩
  · cases ra; cases rb; exact op_isN pins s σ H _ _ v u Q I rx ry ⟨rfl, o.ret rs (by rfl)⟩
  · cases rb
    split at o
    · cases ra; exact op_notN pins s σ H _ _ v u Q I rx ry ⟨rfl, o.ret rs (by rfl)⟩
    · rename_i hne
      refine op_notN pins s σ H _ _ v u Q I rx ry ⟨rfl, o.ret rs ?_⟩
      cases ra <;> first | rfl | exact absurd rfl hne
  · exact op_in (Qk := fun k H => Q (.bl k) H) false rfl hu (fun k H q => q) I rx ry rs ra rb o.pos
  · exact op_in (Qk := fun k H => Q (.bl (!k)) H) true rfl hu (fun k H q => q) I rx ry rs ra rb o.neg
  · exact o.elim

theorem atI_rel {φ : List Addr} {H : Hp} {l : List PV} {xs : List V} {i : Int} {v : PV} (r : RvL X.K φ H l xs) (h : atI l i = some v) : ∃ x, atI xs i = some x ∧ Rv X.K φ H v x := by
  unfold atI at h ⊢
  rw [← r.len]
  cases q : ixN l.length i with
  | none => rw [q] at h; cases h
  | some j => rw [q] at h; exact r.get h
def rIxP (X : Cx) (ca : Nat → Addr) : R2 := fun x y H Q => ∃ φ st v w Ex, SR X.K ca φ st H ∧ Rv X.K φ H v x ∧ Rv X.K φ H w y ∧ Out X.K ca (Rv X.K) Ex φ H Q (ixP v w st)
theorem ix_P (hu : X.A.units + 64 < cLine) : IxR X (rIxP X ca) := by
  intro value slice pins s σ H x y v u Q I rx ry h hs
  obtain ⟨φ, st, a, b, Ex, rs, ra, rb, o⟩ := h
  have hu1 : X.A.units + 1 < cLine := by omega
  unfold ixP at o
  split at o
  · rename_i l k
    cases ra with
    | tup q rl =>
      cases rb
      unfold atP at o
      cases e : atI l k with
      | some z =>
        rw [e] at o
        obtain ⟨zx, e2, rz⟩ := atI_rel rl e
        exact ix_tup value slice pins s σ H _ _ v u Q I rx ry ⟨_, _, _, _, rfl, rfl, q, e2, Out.ret o rs rz⟩ hs
      | none => rw [e] at o; exact False.elim o
  · rename_i n
    cases ra with
    | @ref _ p ha =>
      try dsimp only at o
      split at o
      · rename_i l e1
        split at o
        · rename_i k
          cases rb
          obtain ⟨xs, q, rl⟩ := rs.at ha e1
          unfold atP at o
          cases e : atI l k with
          | some z =>
            rw [e] at o
            obtain ⟨zx, e2, rz⟩ := atI_rel rl e
            exact ix_list value slice pins s σ H _ _ v u Q I rx ry ⟨_, _, _, _, rfl, rfl, SqL.of q, e2, Out.ret o rs rz⟩ hs
          | none => rw [e] at o; exact False.elim o
        · exact o.elim
      · rename_i l e1
        split at o
        · rename_i k
          cases rb
          obtain ⟨xs, q, rl⟩ := rs.at ha e1
          unfold atP at o
          cases e : atI l k with
          | some z =>
            rw [e] at o
            obtain ⟨zx, e2, rz⟩ := atI_rel rl e
            exact ix_list value slice pins s σ H _ _ v u Q I rx ry ⟨_, _, _, _, rfl, rfl, q.sq, e2, Out.ret o rs rz⟩ hs
          | none => rw [e] at o; exact False.elim o
        · exact o.elim
      · rename_i l e1
        split at o
        · rename_i k e2
          split at o
          · rename_i z e3
            obtain ⟨ks, q, t⟩ := rs.at ha e1
            have ex := rb.key e2
            subst ex
            rcases t.dget k with ⟨z', zx, h1, h2, h3⟩ | ⟨h1, _⟩
            · rw [h1] at e3
              cases e3
              obtain rfl : v = Value.ref p := rx
              have g : DGet H p (kV k) (some zx) := .inl ⟨ks, k, .inl q, rfl, h2.symm⟩
              exact PyProof.Rows.tail_any (dict_typeIs I g) PySem.F.slot_dict_getitem.lookup (d_getItem hu1 I g ry fun w' s3 I3 rw' => ⟨zx, H, I3, rw', o.ok rs h3⟩) hs
            · rw [h1] at e3; cases e3
          · exact o.elim
        · exact o.elim
      · exact o.elim
  · exact o.elim
def rSlP (X : Cx) (ca : Nat → Addr) : V → Option Int → Option Int → Hp → VK → Prop := fun x lo hi H Q => ∃ φ st v Ex, SR X.K ca φ st H ∧ Rv X.K φ H v x ∧ Out X.K ca (Rv X.K) Ex φ H Q (slP v lo hi st)
theorem cut_whole {α : Type} {xs : List α} {lo hi : Option Int} (h1 : HT.sIx xs.length 0 lo = 0) (h2 : HT.sIx xs.length xs.length hi = xs.length) : (xs.drop (HT.sIx xs.length 0 lo)).take (HT.sIx xs.length xs.length hi - HT.sIx xs.length 0 lo) = xs := by
  rw [h1, h2]
  simp
theorem sl_P : SlR X (rSlP X ca) := by
  intro pins s σ H x v vl vu lo hi sl Q I rx hsl pl pu h
  obtain ⟨φ, st, a, Ex, rs, ra, o⟩ := h
  unfold slP at o
  split at o
  · rename_i l
    cases ra with
    | @tup p _ xs q rl =>
      refine sl_tupA pins s σ H _ v vl vu lo hi sl Q I rx hsl pl pu ⟨p, xs, rfl, q, fun c => ?_, fun _ p' hp => ?_⟩
      · refine o.ret rs ?_
        have rc := rl.cut lo hi
        have ec : cutV xs lo hi = xs := cut_whole c.1 c.2
        rw [ec] at rc
        exact .tup q rc
      · exact o φ _ _ (ext_new hp) (rs.new hp) (.tup (.inl (.inl upd_same)) ((rl.cut lo hi).ext (ext_new hp)))
  · rename_i n
    cases ra with
    | @ref _ p ha =>
      try dsimp only at o
      split at o
      · rename_i l e1
        obtain ⟨xs, q, rl⟩ := rs.at ha e1
        refine sl_list pins s σ H _ v vl vu lo hi sl Q I rx hsl pl pu ⟨p, xs, rfl, SqL.of q, fun p' hp => ?_⟩
        exact o (φ ++ [p']) _ _ (ext_push hp) (rs.push hp ⟨_, upd_same, (rl.cut lo hi).ext (ext_push hp)⟩) (.ref (by rw [← rs.len]; simp))
      · rename_i l e1
        obtain ⟨xs, q, rl⟩ := rs.at ha e1
        refine sl_list pins s σ H _ v vl vu lo hi sl Q I rx hsl pl pu ⟨p, xs, rfl, q.sq, fun p' hp => ?_⟩
        exact o (φ ++ [p']) _ _ (ext_push hp) (rs.push hp ⟨_, upd_same, (rl.cut lo hi).ext (ext_push hp)⟩) (.ref (by rw [← rs.len]; simp))
      · exact o.elim
  · exact o.elim
def rTru (X : Cx) (ca : Nat → Addr) : V → Hp → (Bool → Hp → Prop) → Prop := fun x H Q => ∃ φ st v Ex, SR X.K ca φ st H ∧ Rv X.K φ H v x ∧ Out X.K ca Rt Ex φ H Q (truP v st)
theorem emp_rel {φ : List Addr} {H : Hp} {l : List PV} {xs : List V} (r : RvL X.K φ H l xs) : xs.isEmpty = l.isEmpty := by cases r <;> rfl
theorem tru_P : TruR X (rTru X ca) := by
  intro pins s σ H x v Q I rx h
  obtain ⟨φ, st, a, Ex, rs, ra, o⟩ := h
  refine tru_ok pins s σ H x v Q I rx ?_
  unfold truP at o
  split at o
  · cases ra; exact ⟨_, rfl, o.ret rs rfl⟩
  · cases ra; exact ⟨_, rfl, o.ret rs rfl⟩
  · cases ra; exact ⟨_, rfl, o.ret rs rfl⟩
  · cases ra
    split at o
    · rename_i x c
      refine ⟨_, ⟨c, rfl⟩, o.ret rs ?_⟩
      show (((x.length : Nat) : Int) != 0) = (x.length != 0)
      rw [Bool.eq_iff_iff]
      simp
    · exact o.elim
  · cases ra with
    | tup q rl => exact ⟨_, .inr (.inl ⟨_, q, rfl⟩), o.ret rs (by rw [emp_rel rl])⟩
  · rename_i n
    cases ra with
    | @ref _ p ha =>
      try dsimp only at o
      split at o
      · rename_i l e1
        obtain ⟨xs, q, rl⟩ := rs.at ha e1
        exact ⟨_, .inl ⟨_, SqL.of q, rfl⟩, o.ok rs (by rw [emp_rel rl])⟩
      · rename_i l e1
        obtain ⟨xs, q, rl⟩ := rs.at ha e1
        exact ⟨_, .inl ⟨_, q.sq, rfl⟩, o.ok rs (by rw [emp_rel rl])⟩
      · rename_i l e1
        obtain ⟨ks, q, t⟩ := rs.at ha e1
        refine ⟨_, .inr (.inr ⟨_, q, rfl⟩), o.ok rs ?_⟩
        show (!ks.isEmpty) = (!l.isEmpty)
        cases t <;> rfl
      · exact o.elim
end
end Z

namespace Z
open PySem L2
section
variable {X : Cx} {ca : Nat → Addr}
def rBlt (X : Cx) (ca : Nat → Addr) (b : Bl) : List V → Hp → VK → Prop := fun xs H Q => ∃ φ st vs Ex, SR X.K ca φ st H ∧ RvL X.K φ H vs xs ∧ Out X.K ca (Rv X.K) Ex φ H Q (bltP b vs st)
theorem minL_ok : ∀ {l : List Int} {m : Int}, minL l = some m → m ∈ l ∧ ∀ y ∈ l, m ≤ y
  | [], _, h => by cases h
  | [x], m, h => by cases h; simp
  | x :: y :: r, m, h => by
    unfold minL at h
    simp only [Option.map_eq_some_iff] at h
    obtain ⟨k, e, rfl⟩ := h
    obtain ⟨h1, h2⟩ := minL_ok e
    split
    · rename_i c
      refine ⟨List.mem_cons_of_mem _ h1, fun z hz => ?_⟩
      rcases List.mem_cons.mp hz with rfl | hz
      · omega
      · exact h2 z hz
    · rename_i c
      refine ⟨List.mem_cons_self, fun z hz => ?_⟩
      rcases List.mem_cons.mp hz with rfl | hz
      · omega
      · have := h2 z hz
        omega
theorem RvL.one_inv {φ : List Addr} {H : Hp} {v : PV} {xs : List V} (r : RvL X.K φ H [v] xs) : ∃ x, xs = [x] ∧ Rv X.K φ H v x := by
  cases r with
  | cons h t => cases t; exact ⟨_, rfl, h⟩
theorem RvL.two_inv {φ : List Addr} {H : Hp} {v w : PV} {xs : List V} (r : RvL X.K φ H [v, w] xs) : ∃ x y, xs = [x, y] ∧ Rv X.K φ H v x ∧ Rv X.K φ H w y := by
  cases r with
  | cons h t => obtain ⟨y, rfl, h2⟩ := t.one_inv; exact ⟨_, y, rfl, h, h2⟩
theorem pairs_rel {φ : List Addr} {H : Hp} : ∀ {l : List PV} {xs : List V} {kvs : List (Key × PV)}, RvL X.K φ H l xs → pairsOf l = some kvs →
    ∃ (ps : List Addr) (ks : List (Key × V)), xs = ps.map V.ref ∧ Paired (fun p (kv : Key × V) => SqT X.K H p [kV kv.1, kv.2]) ps ks ∧ Rk X.K φ H kvs ks
  | _, _, _, .nil, h => by cases h; exact ⟨[], [], rfl, .nil, .nil⟩
  | v :: l, _, kvs, .cons r t, h => by
    unfold pairsOf at h
    split at h
    · rename_i e; cases e
    · rename_i k w l' e
      cases e
      split at h
      · rename_i k' l2 e1 e2
        cases h
        obtain ⟨ps, ks, rfl, hp, hk⟩ := pairs_rel t e2
        cases r with
        | tup q rl =>
          obtain ⟨x, y, rfl, h1, h2⟩ := rl.two_inv
          have ex := h1.key e1
          subst ex
          exact ⟨_ :: ps, (k', y) :: ks, rfl, .cons q hp, .cons h2 hk⟩
      · cases h
    · cases h
theorem blt_abs : CallR X (.builtin "abs") (rBlt X ca .abs) := by
  intro pins s σ H xs us Q I r h
  obtain ⟨φ, st, vs, Ex, rs, rl, o⟩ := h
  replace o : Out X.K ca (Rv X.K) Ex φ H Q (absP vs st) := o
  unfold absP at o
  split at o
  · obtain ⟨x, rfl, h1⟩ := rl.one_inv
    cases h1
    exact call_abs pins s σ H _ us Q I r ⟨_, rfl, o.ret rs (.int _)⟩
  · exact o.elim
theorem blt_int : CallR X (.type "int") (rBlt X ca .int) := by
  intro pins s σ H xs us Q I r h
  obtain ⟨φ, st, vs, Ex, rs, rl, o⟩ := h
  replace o : Out X.K ca (Rv X.K) Ex φ H Q (intP vs st) := o
  unfold intP at o
  split at o
  · obtain ⟨x, rfl, h1⟩ := rl.one_inv
    cases h1
    exact call_int1 pins s σ H _ us Q I r (.inl ⟨_, rfl, o.ret rs (.int _)⟩)
  · obtain ⟨x, rfl, h1⟩ := rl.one_inv
    cases h1
    exact call_int1 pins s σ H _ us Q I r (.inr ⟨_, rfl, o.ret rs (.int _)⟩)
  · exact o.elim
theorem blt_max (hc : X.calm = true) : CallR X (.builtin "max") (rBlt X ca .max) := by
  intro pins s σ H xs us Q I r h
  obtain ⟨φ, st, vs, Ex, rs, rl, o⟩ := h
  replace o : Out X.K ca (Rv X.K) Ex φ H Q (maxP vs st) := o
  unfold maxP at o
  split at o
  · obtain ⟨x, y, rfl, h1, h2⟩ := rl.two_inv
    cases h1; cases h2
    exact call_max2 hc pins s σ H _ us Q I r ⟨_, _, rfl, o.ret rs (.int _)⟩
  · exact o.elim
theorem blt_min (hc : X.calm = true) : CallR X (.builtin "min") (rBlt X ca .min) := by
  intro pins s σ H xs us Q I r h
  obtain ⟨φ, st, vs, Ex, rs, rl, o⟩ := h
  replace o : Out X.K ca (Rv X.K) Ex φ H Q (minP vs st) := o
  unfold minP at o
  split at o
  · obtain ⟨x, y, rfl, h1, h2⟩ := rl.two_inv
    cases h1; cases h2
    exact call_min2 hc pins s σ H _ us Q I r ⟨_, _, rfl, o.ret rs (.int _)⟩
  · obtain ⟨x, rfl, h1⟩ := rl.one_inv
    rename_i n
    cases h1 with
    | @ref _ p ha =>
      cases e1 : lstOf st n with
      | none => simp only [e1, Option.bind_none] at o; exact False.elim o
      | some l =>
        simp only [e1, Option.bind_some] at o
        cases e2 : intsOf l with
        | none => simp only [e2] at o; exact False.elim o
        | some ns =>
          simp only [e2] at o
          cases e3 : minL ns with
          | none => simp only [e3] at o; exact False.elim o
          | some m =>
            simp only [e3] at o
            obtain ⟨ys, q, ry⟩ := rs.list ha e1
            have ey := ry.ints e2
            subst ey
            obtain ⟨h1, h2⟩ := minL_ok e3
            refine cr_min hc pins s σ H _ us Q I r ⟨p, ns, rfl, q, ?_, fun m' hm hle => ?_⟩
            · cases ns with
              | nil => cases e3
              | cons _ _ => simp
            · have e : m' = m := Int.le_antisymm (hle m h1) (h2 m' hm)
              subst e
              exact Out.ok o rs (.int _)
  · exact o.elim
theorem blt_len : CallR X (.builtin "len") (rBlt X ca .len) := by
  intro pins s σ H xs us Q I r h
  obtain ⟨φ, st, vs, Ex, rs, rl, o⟩ := h
  replace o : Out X.K ca (Rv X.K) Ex φ H Q (lenP vs st) := o
  unfold lenP at o
  split at o
  · obtain ⟨x, rfl, h1⟩ := rl.one_inv
    cases h1 with
    | tup q ra => exact call_len pins s σ H _ us Q I r ⟨_, _, rfl, .inr ⟨_, q, rfl⟩, o.ret rs (by rw [ra.len]; exact .int _)⟩
  · obtain ⟨x, rfl, h1⟩ := rl.one_inv
    cases h1
    split at o
    · rename_i c
      exact call_len pins s σ H _ us Q I r ⟨_, _, rfl, ⟨c, rfl⟩, o.ret rs (.int _)⟩
    · exact o.elim
  · obtain ⟨x, rfl, h1⟩ := rl.one_inv
    cases h1 with
    | @ref _ p ha =>
      try dsimp only at o
      split at o
      · rename_i l e1
        obtain ⟨xs, q, ra⟩ := rs.at ha e1
        exact call_len pins s σ H _ us Q I r ⟨_, _, rfl, .inl ⟨_, SqL.of q, rfl⟩, o.ok rs (by rw [ra.len]; exact .int _)⟩
      · rename_i l e1
        obtain ⟨xs, q, ra⟩ := rs.at ha e1
        exact call_len pins s σ H _ us Q I r ⟨_, _, rfl, .inl ⟨_, q.sq, rfl⟩, o.ok rs (by rw [ra.len]; exact .int _)⟩
      · rename_i l e1
        obtain ⟨xs, q, ra⟩ := rs.at ha e1
        exact call_lenD pins s σ H _ us Q I r ⟨_, _, rfl, q, o.ok rs (by rw [ra.len]; exact .int _)⟩
      · exact o.elim
  · exact o.elim
theorem blt_any (hc : X.calm = true) : CallR X (.builtin "any") (rBlt X ca .any) := by
  intro pins s σ H xs us Q I r h
  obtain ⟨φ, st, vs, Ex, rs, rl, o⟩ := h
  replace o : Out X.K ca (Rv X.K) Ex φ H Q (anyP vs st) := o
  unfold anyP at o
  split at o
  · obtain ⟨x, rfl, h1⟩ := rl.one_inv
    rename_i n
    cases h1 with
    | @ref _ p ha =>
      cases e1 : lstOf st n with
      | none => simp only [e1, Option.bind_none] at o; exact False.elim o
      | some l =>
        simp only [e1, Option.bind_some] at o
        cases e2 : boolsOf l with
        | none => simp only [e2] at o; exact False.elim o
        | some ns =>
          simp only [e2] at o
          obtain ⟨ys, q, ry⟩ := rs.list ha e1
          have ey := ry.bools e2
          subst ey
          exact cr_any hc pins s σ H _ us Q I r ⟨p, ns, rfl, q, Out.ok o rs (.bl _)⟩
  · exact o.elim
theorem blt_all (hc : X.calm = true) : CallR X (.builtin "all") (rBlt X ca .all) := by
  intro pins s σ H xs us Q I r h
  obtain ⟨φ, st, vs, Ex, rs, rl, o⟩ := h
  replace o : Out X.K ca (Rv X.K) Ex φ H Q (allP vs st) := o
  unfold allP at o
  split at o
  · obtain ⟨x, rfl, h1⟩ := rl.one_inv
    rename_i n
    cases h1 with
    | @ref _ p ha =>
      cases e1 : lstOf st n with
      | none => simp only [e1, Option.bind_none] at o; exact False.elim o
      | some l =>
        simp only [e1, Option.bind_some] at o
        cases e2 : boolsOf l with
        | none => simp only [e2] at o; exact False.elim o
        | some ns =>
          simp only [e2] at o
          obtain ⟨ys, q, ry⟩ := rs.list ha e1
          have ey := ry.bools e2
          subst ey
          exact cr_all hc pins s σ H _ us Q I r ⟨p, ns, rfl, q, Out.ok o rs (.bl _)⟩
  · exact o.elim
theorem blt_tuple : CallR X (.type "tuple") (rBlt X ca .tuple) := by
  intro pins s σ H xs us Q I r h
  obtain ⟨φ, st, vs, Ex, rs, rl, o⟩ := h
  replace o : Out X.K ca (Rv X.K) Ex φ H Q (tupleP vs st) := o
  unfold tupleP at o
  split at o
  · obtain ⟨x, rfl, h1⟩ := rl.one_inv
    rename_i n
    cases h1 with
    | @ref _ p ha =>
      try dsimp only at o
      split at o
      · rename_i l e1
        obtain ⟨ys, q, ry⟩ := rs.list ha e1
        refine call_tuple_of pins s σ H _ us Q I r ⟨p, ys, rfl, .inl ⟨q, fun t ht => ?_⟩⟩
        exact o φ _ _ (ext_new ht) (rs.new ht) (.tup (.inl (.inl upd_same)) (ry.ext (ext_new ht)))
      · exact o.elim
  · obtain ⟨x, rfl, h1⟩ := rl.one_inv
    cases h1 with
    | @tup p _ ys q ra => exact call_tuple_of pins s σ H _ us Q I r ⟨p, ys, rfl, .inr ⟨q, o.ret rs (.tup q ra)⟩⟩
  · exact o.elim
theorem new_ref {φ : List Addr} {st : Store} {p : Addr} {H : Hp} (rs : SR X.K ca φ st H) : (φ ++ [p])[st.length]? = some p := by rw [← rs.len]; simp
theorem blt_list : CallR X (.type "list") (rBlt X ca .list) := by
  intro pins s σ H xs us Q I r h
  obtain ⟨φ, st, vs, Ex, rs, rl, o⟩ := h
  replace o : Out X.K ca (Rv X.K) Ex φ H Q (listP vs st) := o
  unfold listP at o
  split at o
  · obtain ⟨x, rfl, h1⟩ := rl.one_inv
    rename_i n
    cases h1 with
    | @ref _ p ha =>
      try dsimp only at o
      split at o
      · rename_i l e1
        obtain ⟨ys, q, ry⟩ := rs.list ha e1
        refine call_list_of pins s σ H _ us Q I r ⟨p, ys, rfl, .inl q, fun t ht => ?_⟩
        exact o (φ ++ [t]) _ _ (ext_push ht) (rs.push ht ⟨_, upd_same, ry.ext (ext_push ht)⟩) (.ref (new_ref rs))
      · exact o.elim
  · obtain ⟨x, rfl, h1⟩ := rl.one_inv
    cases h1 with
    | @tup p _ ys q ra =>
      refine call_list_of pins s σ H _ us Q I r ⟨p, ys, rfl, .inr q, fun t ht => ?_⟩
      exact o (φ ++ [t]) _ _ (ext_push ht) (rs.push ht ⟨_, upd_same, ra.ext (ext_push ht)⟩) (.ref (new_ref rs))
  · exact o.elim
theorem blt_dict (hc : X.calm = true) : CallR X (.type "dict") (rBlt X ca .dict) := by
  intro pins s σ H xs us Q I r h
  obtain ⟨φ, st, vs, Ex, rs, rl, o⟩ := h
  replace o : Out X.K ca (Rv X.K) Ex φ H Q (dictP vs st) := o
  unfold dictP at o
  split at o
  · obtain ⟨x, rfl, h1⟩ := rl.one_inv
    cases h1 with
    | @ref _ p ha =>
      try dsimp only at o
      split at o
      · rename_i l e1
        obtain ⟨ks, q, ra⟩ := rs.at ha e1
        refine call_dictD pins s σ H _ us Q I r ⟨p, ks, rfl, .inl q, fun t ht => ?_⟩
        exact o (φ ++ [t]) _ _ (ext_push ht) (rs.push ht ⟨_, upd_same, ra.ext (ext_push ht)⟩) (.ref (new_ref rs))
      · rename_i l e1
        split at o
        · rename_i kvs e2
          obtain ⟨ys, q, ra⟩ := rs.at ha e1
          obtain ⟨ps, ks, rfl, hp, hk⟩ := pairs_rel ra e2
          refine call_dictP hc pins s σ H _ us Q I r ⟨p, ps, ks, rfl, SqL.of q, hp, fun t ht => ?_⟩
          exact o (φ ++ [t]) _ _ (ext_push ht) (rs.push ht ⟨_, upd_same, Rk.ext (ext_push ht) (Rk.merge hk .nil)⟩) (.ref (new_ref rs))
        · exact o.elim
      · exact o.elim
  · exact o.elim

theorem ty_rel {φ : List Addr} {st : Store} {H : Hp} {v : PV} {x : V} {t : String} (rs : SR X.K ca φ st H) (r : Rv X.K φ H v x) (h : tyP st v = some t) : TyX X.K H x (.type t) := by
  unfold tyP at h
  cases r with
  | non => cases h; exact .base .non
  | bl b => cases h; exact .base (.bl b)
  | int i => cases h; exact .base (.int i)
  | str i => cases h; exact .base (.str i)
  | tup q _ =>
    cases h
    rcases q with (q | ⟨o, q⟩) | ⟨o, its, n, q, hc, _⟩
    · exact .base (.tup q)
    · exact .fTuple q
    · exact .kTuple q hc
  | ref ha =>
    dsimp only at h
    split at h
    · rename_i l e
      cases h
      obtain ⟨xs, q, _⟩ := rs.at ha e
      exact .base (.lst q)
    · rename_i l e
      cases h
      obtain ⟨xs, q, _⟩ := rs.at ha e
      exact .base (.dK q)
    · cases h
/-- isinstance(x, a built-in type) -/
theorem isi_rel {φ : List Addr} {st : Store} {H : Hp} {v : PV} {x : V} {t : String} {Ex : XK} {Q : VK} (rs : SR X.K ca φ st H) (r : Rv X.K φ H v x) (o : Out X.K ca (Rv X.K) Ex φ H Q (isiP v t st)) : rIsi X.K [x, .ty t] H Q := by
  unfold isiP at o
  split at o
  · rename_i u e1
    split at o
    · rename_i b e2
      exact ⟨x, .ty t, .type u, .type t, b, rfl, .ty t, ty_rel rs r e1, kit_ty e2, o.ok rs (.bl _)⟩
    · exact o.elim
  · exact o.elim

theorem mt_app {pins : List (Addr × Obj)} {s : Shared} {σ : St} {H : Hp} {φ : List Addr} {st : Store} {v : PV} {vs : List PV} {x : V} {xs : List V} {Ex : XK} {Q : VK} (rs : SR X.K ca φ st H) (r : Rv X.K φ H v x) (rl : RvL X.K φ H vs xs)
    (o : Out X.K ca (Rv X.K) Ex φ H Q (appendP v vs st)) : rAppend x xs H Q := by
  unfold appendP at o
  split at o
  · rename_i w
    obtain ⟨y, rfl, h1⟩ := rl.one_inv
    try dsimp only at o
    split at o
    · rename_i n
      cases r with
      | @ref _ p ha =>
        split at o
        · rename_i l e1
          obtain ⟨zs, q, ra⟩ := rs.at ha e1
          split at o
          · rename_i c
            refine ⟨p, zs, y, rfl, rfl, q, by rw [← ra.len]; exact c, ?_⟩
            have mu : Mut (H p) := by rw [q]; trivial
            exact o φ _ _ (ext_set mu) (rs.set ha e1 rfl rfl ⟨_, upd_same, (ra.app (.one h1)).ext (ext_set mu)⟩) .non
          · exact o.elim
        · exact o.elim
    · exact o.elim
  · exact o.elim
end
end Z

namespace Z
open PySem L2
/-- what is known of the module's names -/
def bltNames : List Str := ["range", "enumerate", "isinstance", "abs", "int", "max", "min", "len", "any", "all", "tuple", "list", "dict", "bool", "str"]
structure GlobOk (T : Tab) (K : PySem.W.Frag) (mg : Str → Option Value) (ca fa : Nat → Addr) (fd : Nat → FuncData) : Prop where
  fn : ∀ x i, T.glob.lookup x = some (.fn i) → mg x = some (.ref (fa i))
  fnK : ∀ i F, T.fns[i]? = some F → PySem.W.keepIn K (.ref (fa i)) = true ∧ Binds K (fd i) F.ps []
  cls : ∀ x c, T.glob.lookup x = some (.cls c) → mg x = some (.ref (ca c))
  cst : ∀ x v, T.glob.lookup x = some (.cst v) → ∃ u y, mg x = some u ∧ RelV y u ∧ ∀ φ H, Rv K φ H v y
  non : ∀ x, bltNames.contains x = true → mg x = none
  fnI : ∀ x i, T.glob.lookup x = some (.fn i) → ∃ F, T.fns[i]? = some F
  ini : ∀ c C f, T.cls[c]? = some C → C.init = some f → Mk K (ca c) (fa f) ∧ ∃ F, T.fns[f]? = some F
  me : ∀ c C m f, T.cls[c]? = some C → C.meths.lookup m = some f → Cls K (ca c) ∧ Meth K (ca c) m (fa f) ∧ ∃ F, T.fns[f]? = some F
  fl : ∀ c C f, T.cls[c]? = some C → C.fields.contains f = true → Cls K (ca c) ∧ NoAttr K (ca c) f
/-- a def's promise -/
def spC (K : PySem.W.Frag) (ca : Nat → Addr) (call : Nat → List PV → M PV) (i : Nat) : Sp := fun vs H Q E =>
  ∃ φ st pvs, SR K ca φ st H ∧ RvL K φ H pvs vs ∧ Out K ca (Rv K) E φ H Q (call i pvs st)
structure Ct (ca fa : Nat → Addr) (fd : Nat → FuncData) (L : Lk) (sc : Scope) (X : Cx) (W : WX) : Prop where
  N : X.N = L.N
  nd : L.N.Nodup
  nb : ∀ x ∈ L.N, (x == ("__debug__" : Str)) = false ∧ (x == ("__classdict__" : Str)) = false
  calm : X.calm = true
  takes : Takes X W
  room : ∃ kc ki, Room kc X.A ∧ Room (ki + 1) X.A ∧ (∀ i F, L.T.fns[i]? = some F → FnOk X.prog X.w X.K X.mg X.base (L2.CX X.prog X.w) kc (fa i) (fd i) F.ps (spC X.K ca L.call i)) ∧
    ∀ i F, L.T.fns[i]? = some F → FnOk X.prog X.w X.K X.mg X.base (L2.CX X.prog X.w) ki (fa i) (fd i) F.ps (spC X.K ca L.ini i)
  un : X.A.units + 64 < cLine
  vis : ∀ x, visB sc x = true → Vis X.env.scope x
  loc : ∀ x, locB sc x = true → Loc X.env.scope x ∧ (X.fn x = true ∨ X.env.scope.names.lookup x = some .local)
  gl : ∀ x, globB sc x = true → Gl X x ∧ (x == ("__debug__" : Str)) = false
  blkf : ∀ x, sc.names.lookup x = some .cell ∨ sc.names.lookup x = some .free → X.env.scope.names.lookup x = some .cell ∨ X.env.scope.names.lookup x = some .free
  glob : GlobOk L.T X.K X.mg ca fa fd

section
variable {X : Cx} {ca : Nat → Addr} {W : WX}
/-- a reading: the machine's run, its values carried over by R -/
def tR {α β : Type} (R : List Addr → Hp → α → β → Prop) (X : Cx) (ca : Nat → Addr) (W : WX) (m : Sl → M α) : St → Hp → (β → Hp → Prop) → Prop := fun σ H Q =>
  ∃ φ st ρ, SR X.K ca φ st H ∧ RL X.K φ H ρ σ ∧ Out X.K ca R (fun cls d H' => W cls d σ H') φ H Q (m ρ st)
abbrev tE (X : Cx) (ca : Nat → Addr) (W : WX) (m : Sl → M PV) : TE := tR (Rv X.K) X ca W m
abbrev tA (X : Cx) (ca : Nat → Addr) (W : WX) (m : Sl → M (List PV)) : TA := tR (RvL X.K) X ca W m
abbrev tT (X : Cx) (ca : Nat → Addr) (W : WX) (m : Sl → M Bool) : TT := tR Rt X ca W m
/-- one part, then the rest -/
theorem tR_seq {α β γ δ : Type} {R : List Addr → Hp → α → β → Prop} {R' : List Addr → Hp → γ → δ → Prop} {m : Sl → M α} {f : α → M γ} {φ : List Addr} {st : Store} {ρ : Sl} {σ : St} {H : Hp} {P : δ → Hp → Prop} {Q : β → Hp → Prop}
    (rs : SR X.K ca φ st H) (rl : RL X.K φ H ρ σ) (o : Out X.K ca R' (fun cls d H' => W cls d σ H') φ H P (bnd (m ρ) f st))
    (k : ∀ u H1 φ1 st1 v, Ext φ H φ1 H1 → SR X.K ca φ1 st1 H1 → RL X.K φ1 H1 ρ σ → R φ1 H1 v u → Out X.K ca R' (fun cls d H' => W cls d σ H') φ1 H1 P (f v st1) → Q u H1) : tR R X ca W m σ H Q :=
  ⟨φ, st, ρ, rs, rl, (o.bnd (R := R)).imp fun u H1 ⟨φ1, st1, v, e, rs1, rv, o1⟩ => k u H1 φ1 st1 v e rs1 (rl.ext e) rv o1⟩
theorem tR_as {α β : Type} {R : List Addr → Hp → α → β → Prop} {m : Sl → M α} {φ : List Addr} {st : Store} {ρ : Sl} {σ : St} {H : Hp} {Q : β → Hp → Prop}
    (rs : SR X.K ca φ st H) (rl : RL X.K φ H ρ σ) (o : Out X.K ca R (fun cls d H' => W cls d σ H') φ H Q (m ρ st)) : tR R X ca W m σ H Q := ⟨φ, st, ρ, rs, rl, o⟩

theorem peW {e : Expr} {t t' : TE} (h : PE X e t) (k : ∀ σ H Q, t' σ H Q → t σ H Q) : PE X e t' := ⟨fun pins s σ H Q I q => h.run pins s σ H Q I (k _ _ _ q)⟩
theorem ptW {e : Expr} {t t' : TT} (h : PT X e t) (k : ∀ σ H Q, t' σ H Q → t σ H Q) : PT X e t' := ⟨fun pins s σ H Q I q => h.run pins s σ H Q I (k _ _ _ q)⟩
theorem paW {es : List Expr} {t t' : TA} (h : PA X es t) (k : ∀ σ H Q, t' σ H Q → t σ H Q) : PA X es t' := ⟨fun pos pins s σ H Q I q => h.run pos pins s σ H Q I (k _ _ _ q)⟩
theorem pe_no {e : Expr} {t : TE} (k : ∀ σ H Q, ¬t σ H Q) : PE X e t := ⟨fun _ _ _ _ _ _ q => (k _ _ _ q).elim⟩
theorem pt_no {e : Expr} {t : TT} (k : ∀ σ H Q, ¬t σ H Q) : PT X e t := ⟨fun _ _ _ _ _ _ q => (k _ _ _ q).elim⟩
theorem pa_no {e : List Expr} {t : TA} (k : ∀ σ H Q, ¬t σ H Q) : PA X e t := ⟨fun _ _ _ _ _ _ _ q => (k _ _ _ q).elim⟩
theorem tR_no {α β : Type} {R : List Addr → Hp → α → β → Prop} {m : Sl → M α} (h : ∀ ρ, m ρ = stop) (σ : St) (H : Hp) (Q : β → Hp → Prop) : ¬tR R X ca W m σ H Q := fun ⟨φ, st, ρ, _, _, o⟩ => by
  rw [h ρ] at o
  exact o
theorem Out.no {α β : Type} {R : List Addr → Hp → α → β → Prop} {Ex : XK} {φ : List Addr} {H : Hp} {Q : β → Hp → Prop} {st : Store} (o : Out X.K ca R Ex φ H Q ((stop : M α) st)) : False := o

variable {fa : Nat → Addr} {fd : Nat → FuncData} {L : Lk} {sc : Scope}
theorem ok_const {c : Const} {j : Nat} {p : Pos} : PE X (.Constant c j p) (tE X ca W (fun _ => constP c)) := by
  cases c with
  | none => exact peW pe_non fun σ H Q ⟨φ, st, ρ, rs, _, o⟩ => o.ret rs .non
  | bool b => exact peW pe_bl fun σ H Q ⟨φ, st, ρ, rs, _, o⟩ => o.ret rs (.bl b)
  | int i => exact peW pe_int fun σ H Q ⟨φ, st, ρ, rs, _, o⟩ => o.ret rs (.int i)
  | str x => exact peW pe_str fun σ H Q ⟨φ, st, ρ, rs, _, o⟩ => o.ret rs (.str x)
  | _ => exact pe_no (tR_no fun _ => rfl)
theorem ok_name (c : Ct ca fa fd L sc X W) {x : Str} {p : Pos} : PE X (.Name x p) (tE X ca W (nameP L sc x)) := by
  by_cases h1 : visB sc x = true
  · cases h2 : slotOf L.N x with
    | none => exact pe_no (tR_no fun ρ => by unfold nameP; rw [if_pos h1, h2])
    | some i =>
      have hN := slotOf_get h2
      obtain ⟨n1, n2⟩ := c.nb x (List.mem_of_getElem? hN)
      refine peW (pe_var (i := i) (by rw [c.N]; exact hN) (c.vis x h1) n1 n2) fun σ H Q ⟨φ, st, ρ, rs, rl, o⟩ => ?_
      unfold nameP at o
      rw [if_pos h1, h2] at o
      try dsimp only at o
      cases e : ρ[i]? with
      | none => rw [e] at o; exact False.elim o
      | some w =>
        rw [e] at o
        cases w with
        | none => exact False.elim o
        | some v =>
          obtain ⟨x, e2, rv⟩ := rl.2 i v e
          exact ⟨x, e2, Out.ret o rs rv⟩
  · by_cases h2 : globB sc x = true
    · cases h3 : L.T.glob.lookup x with
      | none => exact pe_no (tR_no fun ρ => by unfold nameP; rw [if_neg h1, if_pos h2, h3])
      | some g =>
        cases g with
        | cst v =>
          obtain ⟨u, y, g1, g2, g3⟩ := c.glob.cst x v h3
          obtain ⟨gl, gd⟩ := c.gl x h2
          refine peW (pe_glob gl g1 g2 gd) fun σ H Q ⟨φ, st, ρ, rs, rl, o⟩ => ?_
          unfold nameP at o
          rw [if_neg h1, if_pos h2, h3] at o
          exact Out.ret o rs (g3 _ _)
        | fn i => exact pe_no (tR_no fun ρ => by unfold nameP; rw [if_neg h1, if_pos h2, h3])
        | cls i => exact pe_no (tR_no fun ρ => by unfold nameP; rw [if_neg h1, if_pos h2, h3])
    · exact pe_no (tR_no fun ρ => by unfold nameP; rw [if_neg h1, if_neg h2])

variable {E : EM}
theorem star_no {e : Expr} (es : List Expr) (env : Env) (h : noStar e = true) : starEach (e :: es) env = (false, eval e env) :: starEach es env := by
  cases e <;> first | rfl | cases h
theorem star_all {env : Env} {p : Pos} : ∀ {es : List Expr}, es.all noStar = true → (backTo p (starEach es env)).any (·.1) = false
  | [], _ => rfl
  | e :: r, h => by
    simp only [List.all_cons, Bool.and_eq_true] at h
    rw [star_no r env h.1]
    show (false || (backTo p (starEach r env)).any (·.1)) = false
    rw [star_all h.2] <;> rfl
theorem ok_evs (hE : ∀ e, PE X e (tE X ca W (E e))) : ∀ es : List Expr, es.all noStar = true → PA X es (tA X ca W (evEs E es))
  | [], _ => paW pa_nil fun σ H Q ⟨φ, st, ρ, rs, rl, o⟩ => Out.ret o rs .nil
  | e :: r, h => by
    simp only [List.all_cons, Bool.and_eq_true] at h
    refine paW (pa_cons (hE e) (ok_evs hE r h.2) (star_no r _ h.1)) fun σ H Q ⟨φ, st, ρ, rs, rl, o⟩ => ?_
    refine tR_seq rs rl o fun x H1 φ1 st1 v e1 rs1 rl1 rv o1 => ?_
    refine tR_seq rs1 rl1 o1 fun xs H2 φ2 st2 vs e2 rs2 rl2 rvs o2 => ?_
    exact Out.ret o2 rs2 (.cons (rv.ext e2) rvs)
theorem ok_args (hE : ∀ e, PE X e (tE X ca W (E e))) (es : List Expr) : PA X es (tA X ca W (argsP E es)) := by
  by_cases h : es.all noStar = true
  · refine paW (ok_evs hE es h) fun σ H Q ⟨φ, st, ρ, rs, rl, o⟩ => ?_
    unfold argsP at o
    rw [if_pos h] at o
    exact ⟨φ, st, ρ, rs, rl, o⟩
  · exact pa_no (tR_no fun ρ => by unfold argsP; rw [if_neg h])
theorem ok_tup (hE : ∀ e, PE X e (tE X ca W (E e))) {es : List Expr} {k : Nat} {p : Pos} : PE X (.Tuple es k p) (tE X ca W (fun ρ => bnd (argsP E es ρ) fun vs => if vs.length ≤ sizeLine then ret (.tup vs) else stop)) := by
  refine peW (pe_tup (ok_args hE es)) fun σ H Q ⟨φ, st, ρ, rs, rl, o⟩ => ?_
  refine tR_seq rs rl o fun xs H1 φ1 st1 vs e1 rs1 rl1 rv o1 => ?_
  split at o1
  · rename_i c
    refine ⟨by rw [← rv.len]; exact c, fun p hp => ?_⟩
    exact o1 φ1 _ _ (ext_new hp) (rs1.new hp) (.tup (SqT.of upd_same) (rv.ext (ext_new hp)))
  · exact o1.no.elim
theorem ok_lst (hE : ∀ e, PE X e (tE X ca W (E e))) {es : List Expr} {p : Pos} : PE X (.List es p) (tE X ca W (fun ρ => bnd (argsP E es ρ) fun vs => if vs.length ≤ sizeLine then fun s => .ok (.ref s.length) (s ++ [.lst vs]) else stop)) := by
  refine peW (pe_lst (ok_args hE es)) fun σ H Q ⟨φ, st, ρ, rs, rl, o⟩ => ?_
  refine tR_seq rs rl o fun xs H1 φ1 st1 vs e1 rs1 rl1 rv o1 => ?_
  split at o1
  · rename_i c
    refine ⟨by rw [← rv.len]; exact c, fun p hp => ?_⟩
    exact o1 _ _ _ (ext_push hp) (rs1.push hp ⟨xs, upd_same, rv.ext (ext_push hp)⟩) (.ref (new_ref rs1))
  · exact o1.no.elim
/-- a display of a dict: written keys -/
def trsOf (X : Cx) (ca : Nat → Addr) (W : WX) (E : EM) : List Key → List Expr → List (TE × TE)
  | k :: ks, e :: es => (tC (kV k), tE X ca W (E e)) :: trsOf X ca W E ks es
  | _, _ => []
theorem ok_pairs (hE : ∀ e, PE X e (tE X ca W (E e))) {p : Pos} : ∀ (ks : List (Option Expr)) (kl : List Key) (es : List Expr), keysOf ks = some kl → kl.length = es.length → PPs X p ks es (trsOf X ca W E kl es)
  | [], _, [], h, _ => by
    cases h
    exact pps_nil
  | [], _, _ :: _, h, hl => by
    cases h
    cases hl
  | k :: ks, kl, es, h, hl => by
    unfold keysOf at h
    split at h
    · rename_i e0; cases e0
    · rename_i e0
      cases e0
      cases e1 : keysOf ks with
      | none => rw [e1] at h; cases h
      | some l =>
        rw [e1] at h
        cases h
        cases es with
        | nil => cases hl
        | cons e r => exact pps_cons pe_str (hE e) (ok_pairs hE ks l r e1 (by simpa using hl))
    · rename_i e0
      cases e0
      cases e1 : keysOf ks with
      | none => rw [e1] at h; cases h
      | some l =>
        rw [e1] at h
        cases h
        cases es with
        | nil => cases hl
        | cons e r => exact pps_cons pe_int (hE e) (ok_pairs hE ks l r e1 (by simpa using hl))
    · cases h
theorem keys_all : ∀ {ks : List (Option Expr)} {kl : List Key}, keysOf ks = some kl → ks.all (·.isSome) = true ∧ ks.length = kl.length
  | [], _, h => by cases h; exact ⟨rfl, rfl⟩
  | k :: ks, kl, h => by
    unfold keysOf at h
    split at h
    · rename_i e0; cases e0
    · rename_i e0
      cases e0
      cases e1 : keysOf ks with
      | none => rw [e1] at h; cases h
      | some l =>
        rw [e1] at h
        cases h
        obtain ⟨h1, h2⟩ := keys_all e1
        exact ⟨by rw [List.all_cons, h1] <;> rfl, by simp [h2]⟩
    · rename_i e0
      cases e0
      cases e1 : keysOf ks with
      | none => rw [e1] at h; cases h
      | some l =>
        rw [e1] at h
        cases h
        obtain ⟨h1, h2⟩ := keys_all e1
        exact ⟨by rw [List.all_cons, h1] <;> rfl, by simp [h2]⟩
    · cases h
theorem run_pairs : ∀ (kl : List Key) (es : List Expr) {φ : List Addr} {st : Store} {ρ : Sl} {σ : St} {H : Hp} {Q : List (V × V) → Hp → Prop}, kl.length = es.length → SR X.K ca φ st H → RL X.K φ H ρ σ →
    Out X.K ca (fun φ H (vs : List PV) (ps : List (V × V)) => ∃ kvs : List (Key × V), ps = kvs.map (fun kv => (kV kv.1, kv.2)) ∧ Rk X.K φ H (kl.zip vs) kvs ∧ kvs.length = kl.length) (fun cls d H' => W cls d σ H') φ H Q (evEs E es ρ st) → tPairs (trsOf X ca W E kl es) σ H Q
  | [], [], φ, st, ρ, σ, H, Q, _, rs, rl, o => o φ H [] .refl rs ⟨[], rfl, .nil, rfl⟩
  | k :: kl, e :: es, φ, st, ρ, σ, H, Q, hl, rs, rl, o => by
    refine tR_seq rs rl o fun x H1 φ1 st1 v e1 rs1 rl1 rv o1 => ?_
    refine run_pairs kl es (by simpa using hl) rs1 rl1 ?_
    refine (o1.bnd).imp fun ps H2 ⟨φ2, st2, vs, e2, rs2, ⟨kvs, h1, h2, h3⟩, o2⟩ => ?_
    exact Out.ret o2 rs2 ⟨(k, x) :: kvs, by rw [h1] <;> rfl, .cons (rv.ext e2) h2, by simp [h3]⟩
  | [], _ :: _, _, _, _, _, _, _, hl, _, _, _ => by cases hl
  | _ :: _, [], _, _, _, _, _, _, hl, _, _, _ => by cases hl
end
end Z

namespace Z
open PySem L2
section
variable {X : Cx} {ca : Nat → Addr} {W : WX} {fa : Nat → Addr} {fd : Nat → FuncData} {L : Lk} {sc : Scope} {E : EM}
theorem ok_dict (hE : ∀ e, PE X e (tE X ca W (E e))) {ks : List (Option Expr)} {es : List Expr} {p : Pos} : PE X (.Dict ks es p) (tE X ca W (fun ρ => match keysOf ks with
      | none => stop
      | some kl => if kl.length = es.length ∧ kl.length ≤ 15 ∧ kl ≠ [] then fun s =>
          match evEs E es ρ (s ++ [.dct []]) with
          | .ok vs s' => match s'[s.length]? with
            | some (.dct []) => .ok (.ref s.length) (s'.set s.length (.dct (mergeP [] (kl.zip vs))))
            | _ => .bad
          | .exc c fs s' => .exc c fs s'
          | .bad => .bad
        else stop)) := by
  cases h1 : keysOf ks with
  | none => exact pe_no (tR_no fun _ => rfl)
  | some kl =>
    by_cases h2 : kl.length = es.length ∧ kl.length ≤ 15 ∧ kl ≠ []
    · obtain ⟨a1, a2⟩ := keys_all h1
      refine peW (pe_disp (ok_pairs hE ks kl es h1 h2.1) a1 (by rw [a2, h2.1]) (by rintro rfl; cases h1; exact h2.2.2 rfl) (by rw [a2]; exact h2.2.1)) fun σ H Q ⟨φ, st, ρ, rs, rl, o⟩ => ?_
      try dsimp only at o
      rw [if_pos h2] at o
      intro p hp
      have rs1 : SR X.K ca (φ ++ [p]) (st ++ [.dct []]) (upd H p (.dK [])) := rs.push hp ⟨[], upd_same, .nil⟩
      refine run_pairs kl es h2.1 rs1 (rl.ext (ext_push hp)) ?_
      generalize evEs E es ρ (st ++ [.dct []]) = z at o
      cases z with
      | bad => exact o
      | exc c fs s' => exact o.base (ext_push hp)
      | ok vs s' =>
        try dsimp only at o
        split at o
        · rename_i e
          intro φ2 H2 ps e2 rs2 hr
          obtain ⟨kvs, q1, q2, q3⟩ := hr
          have hp2 : φ2[st.length]? = some p := e2.get (new_ref rs)
          obtain ⟨ks2, d1, d2⟩ := rs2.at hp2 e
          cases d2
          refine ⟨d1, kvs, q1, by omega, ?_⟩
          have mu : Mut (H2 p) := by rw [d1]; trivial
          exact o φ2 _ _ ((ext_push hp).trans (e2.trans (ext_set mu))) (rs2.set hp2 e rfl rfl ⟨_, upd_same, (q2.merge .nil).ext (ext_set mu)⟩) (.ref hp2)
        · exact o.elim
    · exact pe_no (tR_no fun ρ => by simp only [if_neg h2])
theorem ok_bin (hE : ∀ e, PE X e (tE X ca W (E e))) {a b : Expr} {op : Operator} {p : Pos} : PE X (.BinOp a op b p) (tE X ca W (fun ρ => bnd (E a ρ) fun x => bnd (E b ρ) fun y => binP op x y)) := by
  refine peW (pe_op (op_bin (ca := ca) op) (hE a) (hE b)) fun σ H Q ⟨φ, st, ρ, rs, rl, o⟩ => ?_
  refine tR_seq rs rl o fun x H1 φ1 st1 v e1 rs1 rl1 rv o1 => ?_
  refine tR_seq rs1 rl1 o1 fun y H2 φ2 st2 w e2 rs2 rl2 rw2 o2 => ?_
  exact ⟨φ2, st2, v, w, _, rs2, rv.ext e2, rw2, o2⟩
theorem ok_neg (hE : ∀ e, PE X e (tE X ca W (E e))) {a : Expr} {p : Pos} : PE X (.UnaryOp .USub a p) (tE X ca W (fun ρ => bnd (E a ρ) fun x => match x with
      | .int i => ret (.int (-i))
      | _ => stop)) := by
  refine peW (pe_un un_neg (hE a)) fun σ H Q ⟨φ, st, ρ, rs, rl, o⟩ => ?_
  refine tR_seq rs rl o fun x H1 φ1 st1 v e1 rs1 rl1 rv o1 => ?_
  cases rv with
  | int i => exact ⟨i, rfl, Out.ret o1 rs1 (.int _)⟩
  | _ => exact False.elim o1
theorem ok_not (hE : ∀ e, PE X e (tE X ca W (E e))) {a : Expr} {p : Pos} : PE X (.UnaryOp .Not a p) (tE X ca W (fun ρ => bnd (E a ρ) fun x => match x with
      | .bl b => ret (.bl (!b))
      | _ => stop)) := by
  refine peW (pe_not (hE a)) fun σ H Q ⟨φ, st, ρ, rs, rl, o⟩ => ?_
  refine tR_seq rs rl o fun x H1 φ1 st1 v e1 rs1 rl1 rv o1 => ?_
  cases rv with
  | bl i => exact ⟨i, rfl, Out.ret o1 rs1 (.bl _)⟩
  | _ => exact False.elim o1
theorem marks_no {op : CmpOp} {b : Expr} (h : noSet b = true) : behindInMarks op b = false := by
  cases b <;> first | rfl | cases h
theorem ok_cmp (c : Ct ca fa fd L sc X W) (hE : ∀ e, PE X e (tE X ca W (E e))) {a b : Expr} {op : CmpOp} {p : Pos} : PE X (.Compare a [op] [b] p) (tE X ca W (fun ρ => if noSet b = true then bnd (E a ρ) fun x => bnd (E b ρ) fun y => bnd (cmpP op x y) fun b => ret (.bl b) else stop)) := by
  by_cases h : noSet b = true
  · refine peW (pe_cmpR (op_cmp (ca := ca) c.un op) (hE a) (hE b) (marks_no h)) fun σ H Q ⟨φ, st, ρ, rs, rl, o⟩ => ?_
    dsimp only at o
    rw [if_pos h] at o
    refine tR_seq rs rl o fun x H1 φ1 st1 v e1 rs1 rl1 rv o1 => ?_
    refine tR_seq rs1 rl1 o1 fun y H2 φ2 st2 w e2 rs2 rl2 rw2 o2 => ?_
    refine ⟨φ2, st2, v, w, _, rs2, rv.ext e2, rw2, (o2.bnd (R := Rb)).imp fun u H3 ⟨φ3, st3, k, e3, rs3, hk, o3⟩ => ?_⟩
    cases hk
    exact Out.ret o3 rs3 (.bl k)
  · exact pe_no (tR_no fun ρ => by rw [if_neg h])
theorem Out.rb {Ex : XK} {φ : List Addr} {H : Hp} {Q : Bool → Hp → Prop} {r : RE Bool} (o : Out X.K ca Rt Ex φ H Q r) : Out X.K ca Rb Ex φ H (fun z H => ∃ k, z = .bl k ∧ Q k H) r := by
  cases r with
  | ok v s => exact fun φ2 H2 u e2 rs rv => ⟨v, rv, o φ2 H2 v e2 rs rfl⟩
  | exc c fs s => exact o
  | bad => exact o
theorem ok_tru (hE : ∀ e, PE X e (tE X ca W (E e))) {a : Expr} (he : ∀ whole, isTrue a X.env whole = (do let v ← whole; standAt a.pos; holding [v] (truthy v))) : PT X a (tT X ca W (fun ρ => bnd (E a ρ) truP)) := by
  refine ptW (pt_truthR (hE a) (tru_P (ca := ca)) he) fun σ H Q ⟨φ, st, ρ, rs, rl, o⟩ => ?_
  refine tR_seq rs rl o fun x H1 φ1 st1 v e1 rs1 rl1 rv o1 => ?_
  exact ⟨φ1, st1, v, _, rs1, rv, o1⟩
theorem ok_tst (c : Ct ca fa fd L sc X W) (hE : ∀ e, PE X e (tE X ca W (E e))) : ∀ (n : Nat) (e : Expr), PT X e (tT X ca W (tst E n e))
  | 0, e => pt_no (tR_no fun _ => rfl)
  | n + 1, e => by
    unfold tst
    split
    · rename_i x p
      refine ptW (pt_not (ok_tst c hE n x)) fun σ H Q ⟨φ, st, ρ, rs, rl, o⟩ => ?_
      refine tR_seq rs rl o fun b H1 φ1 st1 v e1 rs1 rl1 rv o1 => ?_
      cases rv
      exact Out.ret o1 rs1 rfl
    · rename_i x y p
      refine ptW (pw_and (ok_tst c hE n x) (pw_and1 (ok_tst c hE n y))).pt fun σ H Q ⟨φ, st, ρ, rs, rl, o⟩ => ?_
      refine tR_seq rs rl o fun b H1 φ1 st1 v e1 rs1 rl1 rv o1 => ?_
      cases rv
      cases b with
      | true => exact ⟨φ1, st1, ρ, rs1, rl1, o1⟩
      | false => exact Out.ret o1 rs1 rfl
    · rename_i x y p
      refine ptW (pw_or (ok_tst c hE n x) (pw_or1 (ok_tst c hE n y))).pt fun σ H Q ⟨φ, st, ρ, rs, rl, o⟩ => ?_
      refine tR_seq rs rl o fun b H1 φ1 st1 v e1 rs1 rl1 rv o1 => ?_
      cases rv
      cases b with
      | false => exact ⟨φ1, st1, ρ, rs1, rl1, o1⟩
      | true => exact Out.ret o1 rs1 rfl
    · rename_i x y z p
      refine ptW (pw_and (ok_tst c hE n x) (pw_and (ok_tst c hE n y) (pw_and1 (ok_tst c hE n z)))).pt fun σ H Q ⟨φ, st, ρ, rs, rl, o⟩ => ?_
      refine tR_seq rs rl o fun b H1 φ1 st1 v e1 rs1 rl1 rv o1 => ?_
      cases rv
      cases b with
      | true =>
        refine tR_seq rs1 rl1 o1 fun b2 H2 φ2 st2 w e2 rs2 rl2 rw2 o2 => ?_
        cases rw2
        cases b2 with
        | true => exact ⟨φ2, st2, ρ, rs2, rl2, o2⟩
        | false => exact Out.ret o2 rs2 rfl
      | false => exact Out.ret o1 rs1 rfl
    · rename_i x y z p
      refine ptW (pw_or (ok_tst c hE n x) (pw_or (ok_tst c hE n y) (pw_or1 (ok_tst c hE n z)))).pt fun σ H Q ⟨φ, st, ρ, rs, rl, o⟩ => ?_
      refine tR_seq rs rl o fun b H1 φ1 st1 v e1 rs1 rl1 rv o1 => ?_
      cases rv
      cases b with
      | false =>
        refine tR_seq rs1 rl1 o1 fun b2 H2 φ2 st2 w e2 rs2 rl2 rw2 o2 => ?_
        cases rw2
        cases b2 with
        | false => exact ⟨φ2, st2, ρ, rs2, rl2, o2⟩
        | true => exact Out.ret o2 rs2 rfl
      | true => exact Out.ret o1 rs1 rfl
    · rename_i a op b p
      by_cases h : noSet b = true
      · refine ptW (pt_cmpR (op_cmp (ca := ca) c.un op) (hE a) (hE b) (marks_no h)) fun σ H Q ⟨φ, st, ρ, rs, rl, o⟩ => ?_
        dsimp only at o
        rw [if_pos h] at o
        refine tR_seq rs rl o fun x H1 φ1 st1 v e1 rs1 rl1 rv o1 => ?_
        refine tR_seq rs1 rl1 o1 fun y H2 φ2 st2 w e2 rs2 rl2 rw2 o2 => ?_
        exact ⟨φ2, st2, v, w, _, rs2, rv.ext e2, rw2, o2.rb⟩
      · exact pt_no (tR_no fun ρ => by rw [if_neg h])
    · exact ok_tru hE fun _ => rfl
    · exact ok_tru hE fun _ => rfl
    · exact ok_tru hE fun _ => rfl
    · exact ok_tru hE fun _ => rfl
    · exact pt_no (tR_no fun _ => rfl)
theorem ok_andV (hE : ∀ e, PE X e (tE X ca W (E e))) {a b : Expr} {p : Pos} : PE X (.BoolOp .And [a, b] p) (tE X ca W (fun ρ => bnd (E a ρ) fun x => match x with
      | .bl true => E b ρ
      | .bl false => ret (.bl false)
      | _ => stop)) := by
  refine peW (pe_and (hE a) (pe_one (hE b))) fun σ H Q ⟨φ, st, ρ, rs, rl, o⟩ => ?_
  refine tR_seq rs rl o fun x H1 φ1 st1 v e1 rs1 rl1 rv o1 => ?_
  cases rv with
  | bl i =>
    refine ⟨i, rfl, ?_⟩
    cases i with
    | true => exact ⟨φ1, st1, ρ, rs1, rl1, o1⟩
    | false => exact Out.ret o1 rs1 (.bl _)
  | _ => exact False.elim o1
theorem ok_orV (hE : ∀ e, PE X e (tE X ca W (E e))) {a b : Expr} {p : Pos} : PE X (.BoolOp .Or [a, b] p) (tE X ca W (fun ρ => bnd (E a ρ) fun x => match x with
      | .bl true => ret (.bl true)
      | .bl false => E b ρ
      | _ => stop)) := by
  refine peW (pe_or (hE a) (pe_one (hE b))) fun σ H Q ⟨φ, st, ρ, rs, rl, o⟩ => ?_
  refine tR_seq rs rl o fun x H1 φ1 st1 v e1 rs1 rl1 rv o1 => ?_
  cases rv with
  | bl i =>
    refine ⟨i, rfl, ?_⟩
    cases i with
    | false => exact ⟨φ1, st1, ρ, rs1, rl1, o1⟩
    | true => exact Out.ret o1 rs1 (.bl _)
  | _ => exact False.elim o1
theorem ok_ifE (c : Ct ca fa fd L sc X W) (hE : ∀ e, PE X e (tE X ca W (E e))) {t a b : Expr} {p : Pos} : PE X (.IfExp t a b p) (tE X ca W (fun ρ => bnd (tst E 20 t ρ) fun t => if t = true then E a ρ else E b ρ)) := by
  refine peW (pe_ifExp (ok_tst c hE 20 t) (hE a) (hE b)) fun σ H Q ⟨φ, st, ρ, rs, rl, o⟩ => ?_
  refine tR_seq rs rl o fun x H1 φ1 st1 v e1 rs1 rl1 rv o1 => ?_
  cases rv
  cases x with
  | true => exact ⟨φ1, st1, ρ, rs1, rl1, o1⟩
  | false => exact ⟨φ1, st1, ρ, rs1, rl1, o1⟩
abbrev Ro : List Addr → Hp → Option Int → Option Int → Prop := fun _ _ a b => b = a
theorem ok_part (hE : ∀ e, PE X e (tE X ca W (E e))) (i : Option Expr) : PO X i (tR Ro X ca W (partP E i)) := by
  cases i with
  | none => exact ⟨fun pins s σ H Q I ⟨φ, st, ρ, rs, rl, o⟩ => po_none.run pins s σ H Q I (Out.ret o rs rfl)⟩
  | some e =>
    refine ⟨fun pins s σ H Q I ⟨φ, st, ρ, rs, rl, o⟩ => (po_some (hE e)).run pins s σ H Q I ?_⟩
    refine tR_seq rs rl o fun x H1 φ1 st1 v e1 rs1 rl1 rv o1 => ?_
    cases rv with
    | int i => exact ⟨i, rfl, Out.ret o1 rs1 rfl⟩
    | _ => exact False.elim o1
theorem ok_slice (hE : ∀ e, PE X e (tE X ca W (E e))) {a : Expr} {lo hi : Option Expr} {p p2 : Pos} : PE X (.Subscript a (.Slice lo hi none p2) p) (tE X ca W (fun ρ => bnd (E a ρ) fun x => bnd (partP E lo ρ) fun lo => bnd (partP E hi ρ) fun hi => slP x lo hi)) := by
  refine peW (pe_slice (sl_P (ca := ca)) (hE a) (ok_part hE lo) (ok_part hE hi)) fun σ H Q ⟨φ, st, ρ, rs, rl, o⟩ => ?_
  refine tR_seq rs rl o fun x H1 φ1 st1 v e1 rs1 rl1 rv o1 => ?_
  refine tR_seq rs1 rl1 o1 fun y H2 φ2 st2 w e2 rs2 rl2 rw2 o2 => ?_
  cases rw2
  refine tR_seq rs2 rl2 o2 fun z H3 φ3 st3 w' e3 rs3 rl3 rw3 o3 => ?_
  cases rw3
  exact ⟨φ3, st3, v, _, rs3, (rv.ext e2).ext e3, o3⟩
theorem ok_ix (c : Ct ca fa fd L sc X W) (hE : ∀ e, PE X e (tE X ca W (E e))) {a b : Expr} {p : Pos} (hb : ∀ lo hi p2, b ≠ .Slice lo hi none p2) : PE X (.Subscript a b p) (tE X ca W (fun ρ => bnd (E a ρ) fun x => bnd (E b ρ) fun i => ixP x i)) := by
  have pl : PlainIx b := by
    intro o i
    cases b with
    | Slice lo hi st p2 =>
      cases st with
      | none => exact absurd rfl (hb lo hi p2)
      | some _ => rfl
    | _ => rfl
  refine peW (pe_ix (ix_P (ca := ca) c.un) (hE a) (hE b) pl) fun σ H Q ⟨φ, st, ρ, rs, rl, o⟩ => ?_
  refine tR_seq rs rl o fun x H1 φ1 st1 v e1 rs1 rl1 rv o1 => ?_
  refine tR_seq rs1 rl1 o1 fun y H2 φ2 st2 w e2 rs2 rl2 rw2 o2 => ?_
  exact ⟨φ2, st2, v, w, _, rs2, rv.ext e2, rw2, o2⟩
theorem base_eq {o : Expr} {f : Str} {env : Env} {w : Sem Value} (h : baseOk o = true) : attributeBase o f env w = w := by
  unfold attributeBase
  split
  · cases h
  · rfl
/-- a field that is read -/
theorem fld_rel (c : Ct ca fa fd L sc X W) {φ : List Addr} {st : Store} {H : Hp} {x : V} {v : PV} {f : Str} {Ex : XK} {Q : VK} (rs : SR X.K ca φ st H) (rv : Rv X.K φ H v x) (o : Out X.K ca (Rv X.K) Ex φ H Q (fldP L v f st)) :
    ∃ a C dx fs u, x = .ref a ∧ H a = some (.ins C dx fs) ∧ Cls X.K C ∧ NoAttr X.K C f ∧ fs.lookup f = some u ∧ Q u H := by
  unfold fldP at o
  cases rv with
  | @ref n a ha =>
    try dsimp only at o
    split at o
    · rename_i k l e1
      obtain ⟨dx, fs, q, rk⟩ := rs.at ha e1
      split at o
      · rename_i C e2
        split at o
        · rename_i hf
          split at o
          · rename_i v e3
            obtain ⟨g1, g2⟩ := c.glob.fl k C f e2 hf
            rcases rk.lookup f with ⟨v', u, h1, h2, h3⟩ | ⟨h1, _⟩
            · rw [e3] at h1
              cases h1
              exact ⟨a, ca k, dx, fs, u, rfl, q, g1, g2, h2, Out.ok o rs h3⟩
            · rw [e3] at h1
              cases h1
          · exact o.elim
        · exact o.elim
      · exact o.elim
    · exact o.elim
  | _ => exact False.elim o
theorem ok_fld (c : Ct ca fa fd L sc X W) (hE : ∀ e, PE X e (tE X ca W (E e))) {a : Expr} {f : Str} {p : Pos} : PE X (.Attribute a f p) (tE X ca W (fun ρ => if baseOk a = true then bnd (E a ρ) fun x => fldP L x f else stop)) := by
  by_cases h : baseOk a = true
  · refine peW (pe_fld (hE a) (base_eq h)) fun σ H Q ⟨φ, st, ρ, rs, rl, o⟩ => ?_
    dsimp only at o
    rw [if_pos h] at o
    refine tR_seq rs rl o fun x H1 φ1 st1 v e1 rs1 rl1 rv o1 => ?_
    exact fld_rel c rs1 rv o1
  · exact pe_no (tR_no fun ρ => by rw [if_neg h])
end
end Z

namespace Z
open PySem L2
section
variable {X : Cx} {ca : Nat → Addr} {W : WX} {fa : Nat → Addr} {fd : Nat → FuncData} {L : Lk} {sc : Scope} {E : EM}
theorem ok_args1 (hE : ∀ e, PE X e (tE X ca W (E e))) (as : List Expr) : PA X as (tA X ca W (args1 E as)) := by
  cases as with
  | nil => exact pa_no (tR_no fun _ => rfl)
  | cons e r => exact ok_args hE (e :: r)
theorem all_star {as : List Expr} {ρ : Sl} {E : EM} (h : ¬as.all noStar = true) : argsP E as ρ = stop := by
  unfold argsP
  rw [if_neg h]
/-- a call of a built-in function by values -/
theorem ok_blt (c : Ct ca fa fd L sc X W) (hE : ∀ e, PE X e (tE X ca W (E e))) {x : Str} {b : Bl} {as : List Expr} {p pos : Pos} (hb : bltName x = some b) (hg : globB sc x = true) :
    PE X (.Call (.Name x p) as [] pos) (tE X ca W (fun ρ => bnd (args1 E as ρ) fun vs => bltP b vs)) := by
  obtain ⟨gl, gd⟩ := c.gl x hg
  cases as with
  | nil => exact pe_no (tR_no fun _ => rfl)
  | cons e r =>
    by_cases hs : (e :: r).all noStar = true
    · have hs' := hs
      simp only [List.all_cons, Bool.and_eq_true] at hs'
      have fin : ∀ {σ : St} {H : Hp} {Q : VK}, tE X ca W (fun ρ => bnd (args1 E (e :: r) ρ) fun vs => bltP b vs) σ H Q → tCB (rBlt X ca b) (tA X ca W (argsP E (e :: r))) σ H Q := fun {σ H Q} ⟨φ, st, ρ, rs, rl, o⟩ =>
        tR_seq rs rl o fun xs H1 φ1 st1 vs e1 rs1 rl1 rv o1 => ⟨φ1, st1, vs, _, rs1, rv, o1⟩
      have fnB : ∀ id : String, CallR X (.builtin id) (rBlt X ca b) → bootBuiltins x = some (.builtin id) → X.mg x = none → x ≠ "__name__" → PE X (.Call (.Name x p) (e :: r) [] pos) (tE X ca W (fun ρ => bnd (args1 E (e :: r) ρ) fun vs => bltP b vs)) := fun id hc hv hm hn =>
        peW (pe_callB hc gl hm hv (ok_args hE (e :: r)) hn gd (star_no r _ hs'.1) (star_all hs'.2)) fun _ _ _ h => fin h
      have fnT : ∀ id : String, CallR X (.type id) (rBlt X ca b) → bootBuiltins x = some (.type id) → X.mg x = none → x ≠ "__name__" → PE X (.Call (.Name x p) (e :: r) [] pos) (tE X ca W (fun ρ => bnd (args1 E (e :: r) ρ) fun vs => bltP b vs)) := fun id hc hv hm hn =>
        peW (pe_callTy hc gl hm hv (ok_args hE (e :: r)) hn gd (star_no r _ hs'.1) (star_all hs'.2)) fun _ _ _ h => fin h
      unfold bltName at hb
      split at hb
      · rename_i e1; cases hb; subst e1; exact fnB _ blt_abs (by rfl) (c.glob.non _ (by rfl)) (by decide)
      · split at hb
        · rename_i e1; cases hb; subst e1; exact fnT _ blt_int (by rfl) (c.glob.non _ (by rfl)) (by decide)
        · split at hb
          · rename_i e1; cases hb; subst e1; exact fnB _ (blt_max c.calm) (by rfl) (c.glob.non _ (by rfl)) (by decide)
          · split at hb
            · rename_i e1; cases hb; subst e1; exact fnB _ (blt_min c.calm) (by rfl) (c.glob.non _ (by rfl)) (by decide)
            · split at hb
              · rename_i e1; cases hb; subst e1; exact fnB _ blt_len (by rfl) (c.glob.non _ (by rfl)) (by decide)
              · split at hb
                · rename_i e1; cases hb; subst e1; exact fnB _ (blt_any c.calm) (by rfl) (c.glob.non _ (by rfl)) (by decide)
                · split at hb
                  · rename_i e1; cases hb; subst e1; exact fnB _ (blt_all c.calm) (by rfl) (c.glob.non _ (by rfl)) (by decide)
                  · split at hb
                    · rename_i e1; cases hb; subst e1; exact fnT _ blt_tuple (by rfl) (c.glob.non _ (by rfl)) (by decide)
                    · split at hb
                      · rename_i e1; cases hb; subst e1; exact fnT _ blt_list (by rfl) (c.glob.non _ (by rfl)) (by decide)
                      · split at hb
                        · rename_i e1; cases hb; subst e1; exact fnT _ (blt_dict c.calm) (by rfl) (c.glob.non _ (by rfl)) (by decide)
                        · cases hb
    · exact pe_no (tR_no fun ρ => by
        show bnd (argsP E (e :: r) ρ) _ = _
        rw [all_star hs] <;> rfl)
/-- isinstance(a, t) -/
theorem ok_isi (c : Ct ca fa fd L sc X W) (hE : ∀ e, PE X e (tE X ca W (E e))) {a : Expr} {t : Str} {u : String} {p pt pos : Pos} (hg : globB sc "isinstance" = true) (ht : tyName t = some u) :
    PE X (.Call (.Name "isinstance" p) [a, .Name t pt] [] pos) (tE X ca W (fun ρ => if noStar a = true ∧ globB sc t = true then bnd (E a ρ) fun x => isiP x u else stop)) := by
  by_cases h : noStar a = true ∧ globB sc t = true
  · obtain ⟨gl, gd⟩ := c.gl _ hg
    obtain ⟨gl2, gd2⟩ := c.gl t h.2
    have hn : X.mg t = none ∧ bootBuiltins t = some (.type u) ∧ t ≠ "__name__" := by
      unfold tyName at ht
      split at ht
      · rename_i e1; cases ht; subst e1; exact ⟨c.glob.non _ (by rfl), by rfl, by decide⟩
      · split at ht
        · rename_i e1; cases ht; subst e1; exact ⟨c.glob.non _ (by rfl), by rfl, by decide⟩
        · split at ht
          · rename_i e1; cases ht; subst e1; exact ⟨c.glob.non _ (by rfl), by rfl, by decide⟩
          · split at ht
            · rename_i e1; cases ht; subst e1; exact ⟨c.glob.non _ (by rfl), by rfl, by decide⟩
            · split at ht
              · rename_i e1; cases ht; subst e1; exact ⟨c.glob.non _ (by rfl), by rfl, by decide⟩
              · split at ht
                · rename_i e1; cases ht; subst e1; exact ⟨c.glob.non _ (by rfl), by rfl, by decide⟩
                · cases ht
    have hty : PE X (.Name t pt) (tC (.ty u)) := pe_bltn gl2 hn.1 hn.2.1 rfl hn.2.2 gd2
    refine peW (pe_callB call_isi gl (c.glob.non _ (by rfl)) (by rfl) (pa_cons (hE a) (pa_cons hty pa_nil (by rfl)) (star_no _ _ h.1)) (by decide) gd (star_no _ _ h.1) (by rfl)) fun σ H Q ⟨φ, st, ρ, rs, rl, o⟩ => ?_
    dsimp only at o
    rw [if_pos h] at o
    refine tR_seq rs rl o fun x H1 φ1 st1 v e1 rs1 rl1 rv o1 => ?_
    exact isi_rel rs1 rv o1
  · exact pe_no (tR_no fun ρ => by rw [if_neg h])
/-- f(..), a def of the text -/
theorem ok_fn (c : Ct ca fa fd L sc X W) (hE : ∀ e, PE X e (tE X ca W (E e))) {x : Str} {i : Nat} {as : List Expr} {p pos : Pos} (hi : L.T.glob.lookup x = some (.fn i)) (hg : globB sc x = true) :
    PE X (.Call (.Name x p) as [] pos) (tE X ca W (fun ρ => bnd (args1 E as ρ) fun vs => L.call i vs)) := by
  obtain ⟨gl, gd⟩ := c.gl x hg
  cases as with
  | nil => exact pe_no (tR_no fun _ => rfl)
  | cons e r =>
    by_cases hs : (e :: r).all noStar = true
    · have hs' := hs
      simp only [List.all_cons, Bool.and_eq_true] at hs'
      obtain ⟨F, hf⟩ := c.glob.fnI x i hi
      obtain ⟨kc, ki, h1, h2, h3, h4⟩ := c.room
      obtain ⟨g1, g2⟩ := c.glob.fnK i F hf
      refine peW (pe_callS (E := WE W) (h3 i F hf) h1 gl (c.glob.fn x i hi) g1 g2 (passAt c.takes) (ok_args hE (e :: r)) gd (star_no r _ hs'.1) (star_all hs'.2)) fun σ H Q ⟨φ, st, ρ, rs, rl, o⟩ => ?_
      exact tR_seq rs rl o fun xs H1 φ1 st1 vs e1 rs1 rl1 rv o1 => ⟨φ1, st1, vs, rs1, rv, o1⟩
    · exact pe_no (tR_no fun ρ => by
        show bnd (argsP E (e :: r) ρ) _ = _
        rw [all_star hs] <;> rfl)
/-- C(..), a class of the text -/
theorem ok_make (c : Ct ca fa fd L sc X W) (hE : ∀ e, PE X e (tE X ca W (E e))) {x : Str} {i : Nat} {as : List Expr} {p pos : Pos} (hi : L.T.glob.lookup x = some (.cls i)) (hg : globB sc x = true) :
    PE X (.Call (.Name x p) as [] pos) (tE X ca W (fun ρ => if ((L.T.cls[i]?).bind (·.init)).isSome = true then bnd (args1 E as ρ) fun vs => makeP L i vs else stop)) := by
  obtain ⟨gl, gd⟩ := c.gl x hg
  cases as with
  | nil => exact pe_no (tR_no fun _ => by split <;> rfl)
  | cons e r =>
    by_cases hs : (e :: r).all noStar = true
    · have hs' := hs
      simp only [List.all_cons, Bool.and_eq_true] at hs'
      obtain ⟨kc, ki, h1, h2, h3, h4⟩ := c.room
      have nop : ∀ (f : Nat) (C : ClI) (F : FnI), L.T.cls[i]? = some C → C.init = some f → L.T.fns[f]? = some F → PE X (.Call (.Name x p) (e :: r) [] pos) (tE X ca W (fun ρ => bnd (args1 E (e :: r) ρ) fun vs => makeP L i vs)) := fun f C F hc hf hF => by
        obtain ⟨M, _⟩ := c.glob.ini i C f hc hf
        obtain ⟨g1, g2⟩ := c.glob.fnK f F hF
        refine peW (pe_make (E := fun _ _ _ => False) M (h4 f F hF) h2 gl (c.glob.cls x i hi) g2 .nil (fun _ _ _ _ _ _ _ h => by
          obtain ⟨_, _, _, _, _, _, _, _, _, _, _, _, h⟩ := h
          exact h.elim) (ok_args hE (e :: r)) gd (star_no r _ hs'.1) (star_all hs'.2)) fun σ H Q ⟨φ, st, ρ, rs, rl, o⟩ => ?_
        refine tR_seq rs rl o fun xs H1 φ1 st1 vs e1 rs1 rl1 rv o1 => ?_
        intro y dx hy hdx hne
        have hy' : upd H1 dx (.own y) y = none := by rw [upd_ne (Ne.symm hne)]; exact hy
        have rs2 : SR X.K ca (φ1 ++ [y]) (st1 ++ [.ins i []]) (upd (upd H1 dx (.own y)) y (.ins (ca i) dx [])) := (rs1.new hdx).push hy' ⟨dx, [], upd_same, .nil⟩
        have ex : Ext φ1 H1 (φ1 ++ [y]) (upd (upd H1 dx (.own y)) y (.ins (ca i) dx [])) := (ext_new hdx).trans (ext_push hy')
        have hr : (φ1 ++ [y])[st1.length]? = some y := new_ref rs1
        refine ⟨φ1 ++ [y], st1 ++ [.ins i []], .ref st1.length :: vs, rs2, ?_, ?_⟩
        · rw [List.append_nil]
          exact .cons (.ref hr) (rv.ext ex)
        · replace o1 : Out X.K ca (Rv X.K) (fun cls d H' => W cls d σ H') φ1 H1 Q (makeP L i vs st1) := o1
          unfold makeP at o1
          have hb : (L.T.cls[i]?).bind (·.init) = some f := by rw [hc]; exact hf
          rw [hb] at o1
          try dsimp only at o1
          split at o1
          · rename_i s' e2
            rw [e2]
            intro φ2 H2 u e3 rs3 rn
            cases rn
            exact ⟨rfl, o1 φ2 H2 _ (ex.trans e3) rs3 (.ref (e3.get hr))⟩
          · exact o1.elim
      cases hb : (L.T.cls[i]?).bind (·.init) with
      | none => exact pe_no (tR_no fun ρ => rfl)
      | some f =>
        cases hc : L.T.cls[i]? with
        | none => rw [hc] at hb; cases hb
        | some C =>
          rw [hc] at hb
          obtain ⟨M, F, hF⟩ := c.glob.ini i C f hc hb
          exact nop f C F hc hb hF
    · exact pe_no (tR_no fun ρ => by
        show (if _ then bnd (argsP E (e :: r) ρ) _ else _) = _
        rw [all_star hs]
        split <;> rfl)
/-- what a method's call is -/
theorem meth_eq {o e : Expr} {m : Str} {es : List Expr} {ap p : Pos} {env : Env} (h : mOk o (e :: es) ap p = true) :
    eval (.Call (.Attribute o m ap) (e :: es) [] p) env = (do
      let ov ← eval o env
      standAt ap.atName
      let (f, first) ← holding [ov] (getMethod ov m (do return (← importBound o env).getD true))
      callWith p f first (backTo p (starEach (e :: es) env)) (backToKw p (keywordEach [] env))) := by
  unfold mOk at h
  simp only [Bool.and_eq_true, decide_eq_true_eq] at h
  obtain ⟨h1, h2, h3, h4, h5⟩ := h
  have h0 : eval (.Call (.Attribute o m ap) (e :: es) [] p) env = (do
    let ov ← attributeBase o m env (eval o env)
    standAt ap.atName
    methodCall o m ap p env ov ((e :: es).length + 0) (backTo p (starEach (e :: es) env)) (backToKw p (keywordEach [] env))) := rfl
  rw [h0, base_eq h1]
  have hf : methodCallForm ((e :: es).length + 0) (backTo p (starEach (e :: es) env)) (backToKw p (keywordEach [] env)) = true := by
    have ha : ∀ (l : List Expr), l.all noStar = true → (backTo p (starEach l env)).all (fun x => !x.1) = true := fun l hl => by
      have q := star_all (env := env) (p := p) hl
      rw [List.any_eq_false] at q
      rw [List.all_eq_true]
      intro x hx
      simpa using q x hx
    unfold methodCallForm
    rw [ha _ h2]
    show (true && true && decide ((e :: es).length + 0 + 0 < 30)) = true
    rw [decide_eq_true (by omega)] <;> rfl
  have hp : methodCallPos true o env ap p = pure p := by
    unfold methodCallPos
    rw [h5] <;> rfl
  unfold methodCall
  rw [hf, hp]
  rfl
/-- o.m(..), a method of the text -/
theorem ok_meth (c : Ct ca fa fd L sc X W) (hE : ∀ e, PE X e (tE X ca W (E e))) {o : Expr} {m : Str} {as : List Expr} {ap p : Pos} :
    PE X (.Call (.Attribute o m ap) as [] p) (tE X ca W (fun ρ => if mOk o as ap p = true then bnd (E o ρ) fun x => methP L x m (evEs E as ρ) else stop)) := by
  by_cases h : mOk o as ap p = true
  · cases as with
    | nil =>
      exfalso
      unfold mOk at h
      simp at h
    | cons e r =>
      have hs := h
      unfold mOk at hs
      simp only [Bool.and_eq_true, decide_eq_true_eq, List.all_cons] at hs
      obtain ⟨_, ⟨hs1, hs2⟩, _⟩ := hs
      have hall : (e :: r).all noStar = true := by
        simp only [Bool.and_eq_true, List.all_cons]
        exact ⟨hs1, hs2⟩
      refine ⟨fun pins s σ H Q I ⟨φ, st, ρ, rs, rl, o⟩ => ?_⟩
      dsimp only at o
      rw [if_pos h] at o
      refine PySem.W.methodCall_KW (thn ((hE _).run pins s σ H _ I (tR_seq (Q := fun x H1 => ∃ φ1 st1 v, SR X.K ca φ1 st1 H1 ∧ RL X.K φ1 H1 ρ σ ∧ Rv X.K φ1 H1 v x ∧ Out X.K ca (Rv X.K) (fun cls d H' => W cls d σ H') φ1 H1 Q (methP L v m (evEs E (e :: r) ρ) st1)) rs rl o
        fun x H1 φ1 st1 v e1 rs1 rl1 rv o1 => ⟨φ1, st1, v, rs1, rl1, rv, o1⟩)) fun u s1 ⟨x, H1, I1, rx, φ1, st1, v, rs1, rl1, rv, o1⟩ => ?_) (meth_eq h)
      unfold methP at o1
      cases rv with
      | @ref n a ha =>
        obtain rfl : u = Value.ref a := rx
        try dsimp only at o1
        split at o1
        · rename_i k l e1
          obtain ⟨dx, fs, q, rk⟩ := rs1.at ha e1
          split at o1
          · rename_i C e2 e3
            split at o1
            · rename_i f e4
              obtain ⟨g1, g2, F, hF⟩ := c.glob.me k C m f e2 e4
              obtain ⟨kc, ki, h1, h2, h3, h4⟩ := c.room
              obtain ⟨g3, g4⟩ := c.glob.fnK f F hF
              have hlk : fs.lookup m = none := by
                rcases rk.lookup m with ⟨v', u, z1, _, _⟩ | ⟨_, z2⟩
                · rw [e3] at z1; cases z1
                · exact z2
              refine getmeth_ok I1 q g1 g2 hlk ?_
              have hA : tA X ca W (evEs E (e :: r)) σ H1 (fun xs H2 => spC X.K ca L.call f (.ref a :: xs) H2 Q (WE W σ)) :=
                tR_seq rs1 rl1 o1 fun xs H2 φ2 st2 vs e5 rs2 rl2 rvs o2 => ⟨φ2, st2, .ref n :: vs, rs2, .cons (.ref (e5.get ha)) rvs, o2⟩
              refine PySem.W.callWith_K (first := [.ref a]) (h₀ := X.base) I.ok.mod.kin g2.kp (thn ((ok_evs hE (e :: r) hall).run p pins s1 σ H1 _ I1 hA) fun us s2 ⟨vs, H2, I2, r2, q2⟩ => ⟨I2.kIn, ?_⟩) (star_no r _ hs1) (star_all hs2)
              exact run_fnS (us := .ref a :: us) (vs := .ref a :: vs) (E := WE W) (h3 f F hF) h1 g4 (passAt c.takes σ) I2 (.cons rfl r2) q2
            · exact o1.elim
          · exact o1.elim
        · exact o1.elim
      | _ => exact False.elim o1
  · exact pe_no (tR_no fun ρ => by rw [if_neg h])
/-- a call of a name -/
theorem ok_call (c : Ct ca fa fd L sc X W) (hE : ∀ e, PE X e (tE X ca W (E e))) {x : Str} {as : List Expr} {p pos : Pos} :
    PE X (.Call (.Name x p) as [] pos) (tE X ca W (fun ρ => callP L E sc x as ρ)) := by
  by_cases hg : globB sc x = true
  · cases hl : L.T.glob.lookup x with
    | some g =>
      cases g with
      | fn i =>
        have e : (fun ρ => callP L E sc x as ρ) = fun ρ => bnd (args1 E as ρ) fun vs => L.call i vs := by
          funext ρ; unfold callP; rw [if_pos hg, hl]
        rw [e]
        exact ok_fn c hE hl hg
      | cls i =>
        have e : (fun ρ => callP L E sc x as ρ) = fun ρ => if ((L.T.cls[i]?).bind (·.init)).isSome = true then bnd (args1 E as ρ) fun vs => makeP L i vs else stop := by
          funext ρ; unfold callP; rw [if_pos hg, hl]
        rw [e]
        exact ok_make c hE hl hg
      | cst v => exact pe_no (tR_no fun ρ => by unfold callP; rw [if_pos hg, hl])
    | none =>
      by_cases hi : x = "isinstance"
      · subst hi
        unfold callP
        simp only [if_pos hg, hl, if_true]
        split
        · rename_i a t pt
          cases ht : tyName t with
          | none => exact pe_no (tR_no fun ρ => rfl)
          | some u => exact ok_isi c hE hg ht
        · exact pe_no (tR_no fun ρ => rfl)
      · cases hb : bltName x with
        | none => exact pe_no (tR_no fun ρ => by unfold callP; rw [if_pos hg, hl]; dsimp only; rw [if_neg hi, hb])
        | some b =>
          have e : (fun ρ => callP L E sc x as ρ) = fun ρ => bnd (args1 E as ρ) fun vs => bltP b vs := by
            funext ρ; unfold callP; rw [if_pos hg, hl]; dsimp only; rw [if_neg hi, hb]
          rw [e]
          exact ok_blt c hE hb hg
  · exact pe_no (tR_no fun ρ => by unfold callP; rw [if_neg hg])
end
end Z

namespace Z
open PySem L2 PyProof.Rows
set_option maxHeartbeats 1000000 in
theorem new_enumT {v : Value} {ob : Obj} {P : Heap → Prop} (B : Begins v ob P) :
    Meets (Builtin.«enumerate.__new__» ⟨[.type "enumerate", v], []⟩) (fun _ R st => P st.heap ∧
      R (.ok (.ret (.ref (st.heap.push ob).objs.size))) { st with heap := (st.heap.push ob).push { cls := .type "enumerate", data := .fields #[.none, .bool false, .ref st.heap.objs.size, rawInt 0, .none, .none] } }) :=
  .of_wp fun pg wd Ar R st h => by
    obtain ⟨hp, gg, dd, tt, oo⟩ := st
    obtain ⟨ha, hb⟩ := h
    have hsub := sub_enumerate
    have it1 : ∀ {Ar' : Around} {Ex : Value → Shared → Prop} {Qn : Value → Shared → Prop}, Qn (.ref hp.objs.size) ⟨hp.push ob, gg, dd, tt, oo⟩ → wpAny (model pg wd) Ar' (pyIter v) Qn Ex ⟨hp, gg, dd, tt, oo⟩ :=
      fun q => B.iter pg wd _ _ ⟨hp, gg, dd, tt, oo⟩ _ ha q
    wp_walk using it1
    refine wpAny_stack_any fun st => wpAny_pure ?_
    split
    · rename_i cc _ _ _ _ _
      cases (cc == Value.type "enumerate")
      · wp_walk using it1
        exact ⟨_, rfl, hb⟩
      · wp_walk using it1
        exact ⟨_, rfl, hb⟩
    · wp_walk using it1
      exact ⟨_, rfl, hb⟩
/-- enumerate(a tuple): the two new cells -/
theorem call_enumT {pg : Program} {wd : World} {Ar : Around} {Ex : Value → Shared → Prop} {st : Shared} {t : Addr} {its : Array Value} {Qn : Value → Shared → Prop} (ht : st.heap.IsTuple t its)
    (h : ∀ h2, IsEnum h2 (st.heap.objs.size + 1) st.heap.objs.size 0 .none → h2.IsTupleIter st.heap.objs.size t 0 →
      (∀ b ob, st.heap.get? b = some ob → h2.get? b = some ob) → Qn (.ref (st.heap.objs.size + 1)) { st with heap := h2 }) :
    wpAny (model pg wd) Ar (call (.type "enumerate") [.ref t]) Qn Ex st := by
  refine callType_new F.called_enumerate (by decide) (F.typeCall_enumerate_1 _) (F.newCall_enumerate_1 _) (fun ob => F.args_object_init_2 ob _) F.entry_enumerate_new (new_enumT (begins_tuple t its)) ⟨ht, ?_⟩
  generalize ho : ({ cls := .type "tuple_iterator", data := .fields #[.ref t, .int 0 0] } : Obj) = ob
  have hz : (st.heap.push ob).objs.size = st.heap.objs.size + 1 := Heap.size_push ..
  have hf : ob.isFreed = false := by rw [← ho] <;> rfl
  show _ ∧ _
  rw [hz]
  have he : IsEnum ((st.heap.push ob).push { cls := .type "enumerate", data := .fields #[.none, .bool false, .ref st.heap.objs.size, rawInt 0, .none, .none] }) (st.heap.objs.size + 1) st.heap.objs.size 0 .none := by
    have q := Heap.get?_push_size (st.heap.push ob) (o := { cls := .type "enumerate", data := .fields #[.none, .bool false, .ref st.heap.objs.size, rawInt 0, .none, .none] }) rfl
    rw [hz] at q
    exact q
  refine ⟨⟨_, he, rfl⟩, h _ he ⟨ob, Heap.get?_push_of_some _ (Heap.get?_push_size _ hf), by rw [← ho], by rw [← ho] <;> rfl⟩ fun b x hx => Heap.get?_push_of_some _ (Heap.get?_push_of_some _ hx)⟩
/-- the tuple's items with their places, each in a new pair -/
def Itq (K : PySem.W.Frag) (a : Addr) : It where
  go := fun i H => ∃ (xs : List V) (x : V), SqT K H a xs ∧ xs[i]? = some x
  yld := fun i H v H2 => ∃ p x, v = .ref p ∧ H p = none ∧ H2 = upd H p (.tup [.int (i : Nat), x]) ∧ ∀ xs, SqT K H a xs → xs[i]? = some x
  stop := fun i H => ∃ xs : List V, SqT K H a xs ∧ xs.length ≤ i
theorem turn_q {P : Program} {w : World} {K : PySem.W.Frag} {el : List Expr} {kk : Nat} {tp : Pos} (a e it : Addr) :
    Turn P w K (.Tuple el kk tp) (Itq K a) [e, it] e (fun i h => (∃ old, IsEnum h e it ((i : Nat) : Int) old) ∧ h.IsTupleIter it a i ∧ e ≠ it) where
  mem := by simp
  obj := fun i h st b hb => by
    obtain ⟨⟨old, he⟩, ⟨o, ho, hc, hd⟩, _⟩ := st
    rcases List.mem_cons.mp hb with rfl | hb
    · exact ⟨_, he, fun v q => nomatch q⟩
    · obtain rfl : b = it := by simpa using hb
      exact ⟨o, ho, fun v q => by rw [hd] at q; cases q⟩
  keep := fun i h h2 st k => by
    obtain ⟨⟨old, he⟩, hi, hne⟩ := st
    exact ⟨⟨old, k e (by simp) _ he⟩, hi.at fun o q => k it (by simp) o q, hne⟩
  item := by
    intro X hP hw hK hc i pins s σ H E I hf st hg
    subst hP hw hK
    obtain ⟨⟨old, he⟩, hit, hne⟩ := st
    obtain ⟨xs, x, hq, hx⟩ := hg
    obtain ⟨its, rv, ⟨ot, hot, hoc, hod⟩, hz⟩ := I.tuple hq
    obtain ⟨u, hu, ru⟩ := rv.get hx
    have hel : e < s.heap.objs.size := Heap.lt_size he
    have hil : it < s.heap.objs.size := by obtain ⟨_, q, _⟩ := hit; exact Heap.lt_size q
    have hai : a ≠ it := by
      rintro rfl
      obtain ⟨o2, q, qc, _⟩ := hit
      rw [hot] at q
      cases q
      rw [hoc] at qc
      exact absurd qc (by decide)
    have hea : e ≠ a := by
      rintro rfl
      rw [he] at hot
      cases hot
      exact absurd hoc (show ¬(Value.type "enumerate" = Value.type "tuple") by decide)
    have hT : s.heap.IsTuple a its.toArray := ⟨ot, hot, hoc, hod⟩
    have hin : i < its.toArray.size := by
      have := (List.getElem?_eq_some_iff.mp hu).1
      simpa using this
    refine wpAny_pyNext_enum_itemD (Draws.tuple (A := X.A.in1) (I.ok.hd hc) it a hai its.toArray) he ⟨hit, hT⟩ hin hne (by simp; exact ⟨hne, hea⟩) fun z h1 tk hz1 ho hst hTn hsz hk => ?_
    have ezu : z = u := by
      have q : its[i]? = some z := by simpa using hz1
      rw [hu] at q
      exact (Option.some.inj q).symm
    subst ezu
    refine ⟨_, rfl, wpAny_letOwnedTupleGo_enum (s := { s with heap := h1, toks := tk + 1 }) ho fun h2 he2 sb => ?_⟩
    have hT2 : h2.get? s.heap.objs.size = some { cls := .type "tuple", data := .seq #[.int i tk, z] } := (sb.2 _ (Nat.ne_of_gt hel)).trans hTn
    have new : ObjOk X.prog X.w (upd H s.heap.objs.size (.tup [.int (i : Nat), x])) h2 s.heap.objs.size (.tup [.int (i : Nat), x]) :=
      ⟨by show 2 ≤ sizeLine; decide, [.int i tk, z], .cons ⟨_, rfl⟩ (.cons ru .nil), ⟨_, hT2, rfl, _, rfl⟩⟩
    have I1 : Inv X pins σ (upd H s.heap.objs.size (.tup [.int (i : Nat), x])) { s with heap := h2, toks := tk + 1 } :=
      I.turnedNew (ch := [e, it]) (fun b ob hb q => (sb.2 b (fun z => hb (by simp [z]))).trans (hk b ob (fun z => hb (by simp [z])) (fun z => hb (by simp [z])) q)) hf (Nat.le_refl _) new
    refine ⟨.ref s.heap.objs.size, _, I1, rfl, ⟨_, x, rfl, I.hok.fresh (Nat.le_refl _), rfl, fun ys hy => by rw [I.tuple_inj hy hq]; exact hx⟩, ⟨⟨z, ?_⟩, hst.1.at fun o q => (sb.2 it (Ne.symm hne)).trans q, hne⟩, fun b hb => ?_⟩
    · have e1 : ((i + 1 : Nat) : Int) = (i : Int) + 1 := by omega
      rw [e1]
      exact he2
    · have hlt : b < s.heap.objs.size := by
        rcases List.mem_cons.mp hb with rfl | hb
        · exact hel
        · obtain rfl : b = it := by simpa using hb
          exact hil
      rw [upd_ne (Nat.ne_of_lt hlt)]
      exact (hf b hb).1
  done := by
    intro X hP hw hK hc i pins s σ H E I hf st hg
    subst hP hw hK
    obtain ⟨⟨old, he⟩, hit, hne⟩ := st
    obtain ⟨xs, hq, hx⟩ := hg
    obtain ⟨its, rv, ⟨ot, hot, hoc, hod⟩, hz⟩ := I.tuple hq
    obtain ⟨f0, f1, f2, f3, f4, f5⟩ := hf it (by simp)
    have hT : s.heap.IsTuple a its.toArray := ⟨ot, hot, hoc, hod⟩
    have hT0 : s.TypeIs (.ref e) "enumerate" := ⟨_, he, rfl⟩
    have hl := rv.length
    unfold pyNext
    refine wpAny_bind (wpAny_attempt (wpAny_callSpecial?_slot (name := Str.ofString "__next__") hT0 F.slot_enumerate_next (wpAny_call_entry F.slot_enumerate_next hT0 F.entry_enumerate_next ?_ (F.args_enumerate_next_1 _))))
    show wpAny _ _ (field (.ref e) 2 >>= _) _ _ _
    refine wpAny_bind (wpAny_field he rfl (x := .ref it) rfl ?_)
    refine wpAny_bind (wpAny_nextOf_tuple_end (I.ok.hd hc) hit hT (by simp; omega) fun h2 y heb hy => ?_)
    obtain ⟨o, ho, hoc2⟩ := hy
    refine wpAny_bind (wpAny_isInstance (T := "StopIteration") (b := true) ⟨o, ho, hoc2⟩ isSubtype_stop ?_)
    exact wpAny_pure ⟨rfl, I.turned (t' := s.toks) (fun b o hb q => heb b o hb q) f0 f1 f3 f4 f5⟩
  self := fun Ar i st Qn Ex hst h => by
    obtain ⟨⟨_, he⟩, _⟩ := hst
    exact wpAny_pyIter_enum he h
def iEnq (K : PySem.W.Frag) (ta : TA) : TI := fun σ H R => ta σ H fun vs H1 => ∃ a xs, vs = [.ref a] ∧ SqT K H1 a xs ∧ R (Itq K a) H1
theorem pi_enq {X : Cx} {e : Expr} {ta : TA} {p pos tp : Pos} {el : List Expr} {kk : Nat} (hg : Gl X "enumerate") (hm : X.mg "enumerate" = none) (ha : PA X [e] ta) (hs : starEach [e] X.env = [(false, eval e X.env)]) :
    PI X (.Tuple el kk tp) (.Call (.Name "enumerate" p) [e] [] pos) (iEnq X.K ta) := by
  refine ⟨fun pins s σ H R I h => ?_⟩
  refine Call_ (ld_blt I hg hm boot_enumerate (PyProof.Rows.callWith_type1 (thn (ha.run pos pins s σ H _ I h) fun us s1 ⟨vs, H1, I1, r1, q1⟩ => ?_) hs rfl))
  obtain ⟨a, xs, rfl, hq, q⟩ := q1
  cases r1 with
  | cons r rr =>
    cases rr
    cases r
    obtain ⟨its, rv, ⟨ot, hot, hoc, hod⟩, hz⟩ := I1.tuple hq
    refine call_enumT (its := its.toArray) ⟨ot, hot, hoc, hod⟩ fun h2 he hit hk => wpAny_pyIter_enum he ?_
    have I2 : Inv X pins σ H1 { s1 with heap := h2 } := I1.kept (t' := s1.toks) hk
    refine ⟨s1.heap.objs.size + 1, [s1.heap.objs.size + 1, s1.heap.objs.size], _, _, H1, rfl, I2, turn_q a (s1.heap.objs.size + 1) s1.heap.objs.size, ⟨⟨.none, he⟩, hit, Nat.succ_ne_self _⟩, fun b hb => ?_, q⟩
    have hle : s1.heap.objs.size ≤ b := by
      rcases List.mem_cons.mp hb with rfl | hb
      · exact Nat.le_add_right _ _
      · obtain rfl : b = s1.heap.objs.size := by simpa using hb
        exact Nat.le_refl _
    exact I1.fpOk hle (I1.hok.fresh hle)
end Z

namespace Z
open PySem L2
section
variable {X : Cx} {ca : Nat → Addr} {W : WX} {fa : Nat → Addr} {fd : Nat → FuncData} {L : Lk} {sc : Scope} {E : EM} {tg : Expr}

def RS1 (X : Cx) (ca : Nat → Addr) (φ0 : List Addr) (H0 : Hp) (src : Sc) (J : It) : Prop := ∀ φ H st i, Ext φ0 H0 φ H → SR X.K ca φ st H →
  (getI st src i = some none → J.stop i H) ∧ ∀ v, getI st src i = some (some v) → J.go i H ∧ ∀ x H', J.yld i H x H' → Ext φ H φ H' ∧ SR X.K ca φ st H' ∧ Rv X.K φ H' v x
abbrev tI (X : Cx) (ca : Nat → Addr) (W : WX) (m : Sl → M Sc) : TI := tR (RS1 X ca) X ca W m
theorem piW {e : Expr} {t t' : TI} (h : PI X tg e t) (k : ∀ σ H Q, t' σ H Q → t σ H Q) : PI X tg e t' := ⟨fun pins s σ H R I q => h.run pins s σ H R I (k _ _ _ q)⟩
theorem pi_no {e : Expr} {t : TI} (k : ∀ σ H Q, ¬t σ H Q) : PI X tg e t := ⟨fun _ _ _ _ _ _ q => (k _ _ _ q).elim⟩
theorem src_tup {φ : List Addr} {H : Hp} {a : Addr} {l : List PV} {xs : List V} (q : SqT X.K H a xs) (r : RvL X.K φ H l xs) : RS1 X ca φ H (.items l) (Itt X.K a) := fun φ1 H1 st i e rs => by
  have q1 := SqT.ext e q
  have r1 := RvL.ext e r
  refine ⟨fun h => ⟨xs, q1, r1.get_none (Option.some.inj h)⟩, fun v h => ?_⟩
  obtain ⟨x, h1, h2⟩ := r1.get (i := i) (v := v) (Option.some.inj h)
  refine ⟨⟨xs, x, q1, h1⟩, fun y H' hy => ?_⟩
  obtain ⟨rfl, hy⟩ := hy
  have e2 := hy xs q1
  rw [h1] at e2
  cases e2
  exact ⟨.refl, rs, h2⟩
theorem src_live {φ : List Addr} {H : Hp} {a : Addr} {n : Nat} (h : φ[n]? = some a) : RS1 X ca φ H (.live n) (Itl X.K a) := fun φ1 H1 st i e rs => by
  have ha := e.get h
  simp only [getI]
  cases hl : lstOf st n with
  | none => exact ⟨fun h => (by cases h), fun v h => (by cases h)⟩
  | some l =>
    obtain ⟨xs, q, r⟩ := rs.list ha hl
    simp only [Option.map_some, Option.some.injEq]
    refine ⟨fun h => ⟨xs, q, r.get_none h⟩, fun v h => ?_⟩
    obtain ⟨x, h1, h2⟩ := r.get (i := i) (v := v) h
    refine ⟨⟨xs, x, q, h1⟩, fun y H' hy => ?_⟩
    obtain ⟨rfl, hy⟩ := hy
    have e2 := hy xs q
    rw [h1] at e2
    cases e2
    exact ⟨.refl, rs, h2⟩
theorem pair_rel {φ : List Addr} {H : Hp} {st : Store} {p : Addr} {i : Nat} {v : PV} {x : V} (rs : SR X.K ca φ st H) (hp : H p = none) (r : Rv X.K φ H v x) :
    Ext φ H φ (upd H p (.tup [.int (i : Nat), x])) ∧ SR X.K ca φ st (upd H p (.tup [.int (i : Nat), x])) ∧ Rv X.K φ (upd H p (.tup [.int (i : Nat), x])) (.tup [.int (i : Int), v]) (.ref p) :=
  ⟨ext_new hp, rs.new hp, .tup (SqT.of upd_same) (.cons (.int _) (.cons (r.ext (ext_new hp)) .nil))⟩
theorem src_liveE {φ : List Addr} {H : Hp} {a : Addr} {n : Nat} (h : φ[n]? = some a) : RS1 X ca φ H (.liveE n) (Ite X.K a) := fun φ1 H1 st i e rs => by
  have ha := e.get h
  simp only [getI]
  cases hl : lstOf st n with
  | none => exact ⟨fun h => (by cases h), fun v h => (by cases h)⟩
  | some l =>
    obtain ⟨xs, q, r⟩ := rs.list ha hl
    simp only [Option.map_some]
    cases hi : l[i]? with
    | none => exact ⟨fun h => ⟨xs, q, r.get_none hi⟩, fun v h => (by cases h)⟩
    | some w =>
      refine ⟨fun h => (by cases h), fun v h => ?_⟩
      cases h
      obtain ⟨x, h1, h2⟩ := r.get hi
      refine ⟨⟨xs, x, q, h1⟩, fun y H' hy => ?_⟩
      obtain ⟨p, x2, rfl, hp, rfl, hy⟩ := hy
      have e2 := hy xs q
      rw [h1] at e2
      cases e2
      exact pair_rel rs hp h2
theorem enumL_get : ∀ (l : List PV) (k i : Nat), (enumL k l)[i]? = (l[i]?).map fun v => .tup [.int ((k + i : Nat) : Int), v]
  | [], _, _ => by simp [enumL]
  | v :: r, k, 0 => by simp [enumL]
  | v :: r, k, i + 1 => by
    have ih := enumL_get r (k + 1) i
    simp only [enumL, List.getElem?_cons_succ]
    rw [ih, show k + 1 + i = k + (i + 1) by omega]
theorem src_enq {φ : List Addr} {H : Hp} {a : Addr} {l : List PV} {xs : List V} (q : SqT X.K H a xs) (r : RvL X.K φ H l xs) : RS1 X ca φ H (.items (enumL 0 l)) (Itq X.K a) := fun φ1 H1 st i e rs => by
  have q1 := SqT.ext e q
  have r1 := RvL.ext e r
  simp only [getI]
  rw [enumL_get, Nat.zero_add]
  cases hi : l[i]? with
  | none => exact ⟨fun h => ⟨xs, q1, r1.get_none hi⟩, fun v h => (by cases h)⟩
  | some w =>
    refine ⟨fun h => (by cases h), fun v h => ?_⟩
    cases h
    obtain ⟨x, h1, h2⟩ := r1.get hi
    refine ⟨⟨xs, x, q1, h1⟩, fun y H' hy => ?_⟩
    obtain ⟨p, x2, rfl, hp, rfl, hy⟩ := hy
    have e2 := hy xs q1
    rw [h1] at e2
    cases e2
    exact pair_rel rs hp h2
theorem rangeL_get : ∀ (n : Nat) (lo : Int) (i : Nat), (rangeL n lo)[i]? = if i < n then some (.int (lo + i)) else none
  | 0, lo, i => by simp [rangeL]
  | n + 1, lo, 0 => by simp [rangeL]
  | n + 1, lo, i + 1 => by
    have ih := rangeL_get n (lo + 1) i
    simp only [rangeL, List.getElem?_cons_succ]
    rw [ih]
    by_cases h : i < n
    · rw [if_pos h, if_pos (by omega), show lo + 1 + (i : Int) = lo + ((i + 1 : Nat) : Int) by omega]
    · rw [if_neg h, if_neg (by omega)]
theorem src_range {φ : List Addr} {H : Hp} {n : Nat} {lo : Int} : RS1 X ca φ H (.items (rangeL n lo)) (Itr lo n) := fun φ1 H1 st i e rs => by
  simp only [getI]
  rw [rangeL_get]
  by_cases h : i < n
  · rw [if_pos h]
    refine ⟨fun h => (by cases h), fun v hv => ?_⟩
    cases hv
    refine ⟨h, fun y H' hy => ?_⟩
    obtain ⟨rfl, rfl⟩ := hy
    exact ⟨.refl, rs, .int _⟩
  · rw [if_neg h]
    exact ⟨fun _ => Nat.le_of_not_lt h, fun v hv => (by cases hv)⟩
/-- a value that is walked -/
theorem ok_walk (hE : ∀ e, PE X e (tE X ca W (E e))) (e : Expr) : PI X tg e (tI X ca W (fun ρ => bnd (E e ρ) walkP)) := by
  refine ⟨fun pins s σ H R I ⟨φ, st, ρ, rs, rl, o⟩ => ?_⟩
  dsimp only at o
  unfold bnd at o
  cases hz : E e ρ st with
  | bad => rw [hz] at o; exact False.elim o
  | exc kx fs st2 =>
    rw [hz] at o
    refine (pi_list (hE e)).run pins s σ H R I ⟨φ, st, ρ, rs, rl, ?_⟩
    rw [hz]
    exact o
  | ok v st' =>
    rw [hz] at o
    try dsimp only at o
    cases v with
    | tup l =>
      refine (pi_tup (hE e)).run pins s σ H R I ⟨φ, st, ρ, rs, rl, ?_⟩
      rw [hz]
      intro φ2 H2 u e2 rs2 rv
      cases rv with
      | tup q ra => exact ⟨_, rfl, ⟨_, q⟩, o φ2 H2 _ e2 rs2 (src_tup q ra)⟩
    | ref n =>
      refine (pi_list (hE e)).run pins s σ H R I ⟨φ, st, ρ, rs, rl, ?_⟩
      rw [hz]
      intro φ2 H2 u e2 rs2 rv
      cases rv with
      | @ref _ a ha =>
        unfold walkP at o
        try dsimp only at o
        split at o
        · rename_i l hl
          obtain ⟨xs, q, r⟩ := rs2.list ha hl
          exact ⟨a, rfl, ⟨xs, q⟩, o φ2 H2 _ e2 rs2 (src_live ha)⟩
        · exact False.elim o
    | _ => exact False.elim o
theorem star1 {a : Expr} {env : Env} (h : noStar a = true) : starEach [a] env = [(false, eval a env)] := star_no [] env h
theorem args_no {a : Expr} {as : List Expr} {ρ : Sl} (h : ¬noStar a = true) : argsP E (a :: as) ρ = stop := by
  unfold argsP
  rw [if_neg]
  intro q
  simp only [List.all_cons, Bool.and_eq_true] at q
  exact h q.1
theorem ok_enum (c : Ct ca fa fd L sc X W) (hE : ∀ e, PE X e (tE X ca W (E e))) {a : Expr} {p pos : Pos} (hg : globB sc "enumerate" = true) (ht : isTupE tg = true) :
    PI X tg (.Call (.Name "enumerate" p) [a] [] pos) (tI X ca W (fun ρ => bnd (argsP E [a] ρ) fun vs => match vs with
      | [v] => enumP v
      | _ => stop)) := by
  cases tg with
  | Tuple el kk tp =>
    obtain ⟨gl, gd⟩ := c.gl _ hg
    by_cases hs : noStar a = true
    · refine ⟨fun pins s σ H R I ⟨φ, st, ρ, rs, rl, o⟩ => ?_⟩
      dsimp only at o
      unfold bnd at o
      cases hz : argsP E [a] ρ st with
      | bad => rw [hz] at o; exact False.elim o
      | exc kx fs st2 =>
        rw [hz] at o
        refine (pi_enum gl (c.glob.non _ (by rfl)) (ok_args hE [a]) (star1 hs)).run pins s σ H R I ⟨φ, st, ρ, rs, rl, ?_⟩
        rw [hz]
        exact o
      | ok vs st' =>
        rw [hz] at o
        try dsimp only at o
        split at o
        · rename_i v
          cases v with
          | tup l =>
            refine (pi_enq gl (c.glob.non _ (by rfl)) (ok_args hE [a]) (star1 hs)).run pins s σ H R I ⟨φ, st, ρ, rs, rl, ?_⟩
            rw [hz]
            intro φ2 H2 us e2 rs2 rv
            obtain ⟨x, rfl, rx⟩ := RvL.one_inv rv
            cases rx with
            | tup q ra => exact ⟨_, _, rfl, q, o φ2 H2 _ e2 rs2 (src_enq q ra)⟩
          | ref n =>
            refine (pi_enum gl (c.glob.non _ (by rfl)) (ok_args hE [a]) (star1 hs)).run pins s σ H R I ⟨φ, st, ρ, rs, rl, ?_⟩
            rw [hz]
            intro φ2 H2 us e2 rs2 rv
            obtain ⟨x, rfl, rx⟩ := RvL.one_inv rv
            cases rx with
            | @ref _ ad ha =>
              unfold enumP at o
              try dsimp only at o
              split at o
              · rename_i l hl
                obtain ⟨xs, q, r⟩ := rs2.list ha hl
                exact ⟨ad, xs, rfl, q, o φ2 H2 _ e2 rs2 (src_liveE ha)⟩
              · exact False.elim o
          | _ => exact False.elim o
        · exact False.elim o
    · exact pi_no (tR_no fun ρ => by rw [args_no hs] <;> rfl)
  | _ => cases ht
theorem inRange_iff {i : Int} : inRange i = true ↔ -(2 ^ 62) ≤ i ∧ i < 2 ^ 62 := by
  unfold inRange
  simp only [Bool.and_eq_true, decide_eq_true_eq]
theorem ok_range1 (c : Ct ca fa fd L sc X W) (hE : ∀ e, PE X e (tE X ca W (E e))) {a : Expr} {p pos : Pos} (hg : globB sc "range" = true) :
    PI X tg (.Call (.Name "range" p) [a] [] pos) (tI X ca W (fun ρ => bnd (argsP E [a] ρ) fun vs => match vs with
      | [.int n] => if inRange n = true then ret (.items (rangeL n.toNat 0)) else stop
      | _ => stop)) := by
  obtain ⟨gl, gd⟩ := c.gl _ hg
  by_cases hs : noStar a = true
  · refine piW (pi_range1 gl (c.glob.non _ (by rfl)) (ok_args hE [a]) (star1 hs)) fun σ H Q ⟨φ, st, ρ, rs, rl, o⟩ => ?_
    refine tR_seq rs rl o fun xs H1 φ1 st1 vs e1 rs1 rl1 rv o1 => ?_
    split at o1
    · rename_i n
      obtain ⟨x, rfl, rx⟩ := RvL.one_inv rv
      cases rx
      by_cases hr : inRange n = true
      · rw [if_pos hr] at o1
        obtain ⟨h1, h2⟩ := inRange_iff.mp hr
        exact ⟨n, rfl, h1, h2, Out.ret o1 rs1 src_range⟩
      · rw [if_neg hr] at o1
        exact False.elim o1
    · exact False.elim o1
  · exact pi_no (tR_no fun ρ => by rw [args_no hs] <;> rfl)
theorem ok_range2 (c : Ct ca fa fd L sc X W) (hE : ∀ e, PE X e (tE X ca W (E e))) {a b : Expr} {p pos : Pos} (hg : globB sc "range" = true) :
    PI X tg (.Call (.Name "range" p) [a, b] [] pos) (tI X ca W (fun ρ => bnd (argsP E [a, b] ρ) fun vs => match vs with
      | [.int i, .int j] => if (inRange i && inRange j) = true then ret (.items (rangeL (j - i).toNat i)) else stop
      | _ => stop)) := by
  obtain ⟨gl, gd⟩ := c.gl _ hg
  by_cases hs : [a, b].all noStar = true
  · have hs' := hs
    simp only [List.all_cons, Bool.and_eq_true] at hs'
    refine piW (pi_range2 gl (c.glob.non _ (by rfl)) (ok_args hE [a, b]) (by rw [star_no _ _ hs'.1, star1 hs'.2.1]) (star1 hs'.2.1)) fun σ H Q ⟨φ, st, ρ, rs, rl, o⟩ => ?_
    refine tR_seq rs rl o fun xs H1 φ1 st1 vs e1 rs1 rl1 rv o1 => ?_
    split at o1
    · rename_i i j
      obtain ⟨x, y, rfl, rx, ry⟩ := RvL.two_inv rv
      cases rx
      cases ry
      by_cases hr : (inRange i && inRange j) = true
      · rw [if_pos hr] at o1
        have hr' := Bool.and_eq_true_iff.mp hr
        obtain ⟨h1, h2⟩ := inRange_iff.mp hr'.1
        obtain ⟨h3, h4⟩ := inRange_iff.mp hr'.2
        exact ⟨i, j, rfl, ⟨h1, h2, h3, h4⟩, Out.ret o1 rs1 src_range⟩
      · rw [if_neg hr] at o1
        exact False.elim o1
    · exact False.elim o1
  · exact pi_no (tR_no fun ρ => by rw [all_star hs] <;> rfl)
theorem ok_src (c : Ct ca fa fd L sc X W) (hE : ∀ e, PE X e (tE X ca W (E e))) (iter : Expr) : PI X tg iter (tI X ca W (srcP E sc tg iter)) := by
  unfold srcP
  split
  · rename_i f p a pos
    by_cases h1 : f = "range" ∧ globB sc f = true
    · simp only [if_pos h1]
      obtain ⟨rfl, hg⟩ := h1
      exact ok_range1 c hE hg
    · simp only [if_neg h1]
      by_cases h2 : f = "enumerate" ∧ globB sc f = true
      · simp only [if_pos h2]
        obtain ⟨rfl, hg⟩ := h2
        by_cases h3 : isTupE tg = true
        · simp only [if_pos h3]
          exact ok_enum c hE hg h3
        · simp only [if_neg h3]
          exact pi_no (tR_no fun _ => rfl)
      · simp only [if_neg h2]
        exact ok_walk hE _
  · rename_i f p a b pos
    by_cases h1 : f = "range" ∧ globB sc f = true
    · simp only [if_pos h1]
      obtain ⟨rfl, hg⟩ := h1
      exact ok_range2 c hE hg
    · simp only [if_neg h1]
      exact ok_walk hE _
  · exact ok_walk hE _
  · exact ok_walk hE _
  · exact ok_walk hE _
  · exact ok_walk hE _
  · exact ok_walk hE _
  · exact pi_no (tR_no fun _ => rfl)

/-- a slot that a target may write -/
def Tch (N : List Str) (sc : Scope) (i : Nat) : Prop := ∃ y, locB sc y = true ∧ slotOf N y = some i
def tG (X : Cx) (ca : Nat → Addr) (N : List Str) (sc : Scope) (tg : Expr) : TG := fun x σ H Q => ∃ φ ρ v ρ', RL X.K φ H ρ σ ∧ Rv X.K φ H v x ∧ asgP N sc tg v ρ = some ρ' ∧
  ∀ σ', RL X.K φ H ρ' σ' → (∀ vs : List Nat, (∀ i, Tch N sc i → i ∈ vs) → L2.wipe σ' vs = L2.wipe σ vs) → Q σ' H
theorem pg_no {t : TG} (k : ∀ x σ H Q, ¬t x σ H Q) : PG X tg t := ⟨fun _ _ _ _ _ _ _ _ _ q => (k _ _ _ _ q).elim⟩
theorem pgW {t t' : TG} (h : PG X tg t) (k : ∀ x σ H Q, t' x σ H Q → t x σ H Q) : PG X tg t' := ⟨fun pins s σ H v u Q I r q => h.run pins s σ H v u Q I r (k _ _ _ _ q)⟩
theorem wipe_set {σ : St} {i : Nat} {y : Option V} : ∀ {vs : List Nat}, i ∈ vs → L2.wipe (σ.set i y) vs = L2.wipe σ vs
  | v :: r, h => by
    show (L2.wipe (σ.set i y) r).set v none = (L2.wipe σ r).set v none
    by_cases hr : i ∈ r
    · rw [wipe_set hr]
    · have e : i = v := by
        rcases List.mem_cons.mp h with e | e
        · exact e
        · exact absurd e hr
      subst e
      have z : ∀ (l : List Nat) (j : Nat), L2.wipe (σ.set j y) l = (L2.wipe σ l) ∨ L2.wipe (σ.set j y) l = (L2.wipe σ l).set j y := fun l j => by
        induction l with
        | nil => exact .inr rfl
        | cons w l ih =>
          show (L2.wipe (σ.set j y) l).set w none = (L2.wipe σ l).set w none ∨ (L2.wipe (σ.set j y) l).set w none = ((L2.wipe σ l).set w none).set j y
          rcases ih with ih | ih
          · exact .inl (by rw [ih])
          · by_cases hw : w = j
            · subst hw
              exact .inl (by rw [ih, List.set_set])
            · exact .inr (by rw [ih, List.set_comm _ _ (Ne.symm hw)])
      rcases z r i with q | q
      · rw [q]
      · rw [q, List.set_set]
def tGt (X : Cx) (ca : Nat → Addr) (N : List Str) (sc : Scope) (t : Tgt) : TG := fun x σ H Q => ∃ φ ρ v ρ', RL X.K φ H ρ σ ∧ Rv X.K φ H v x ∧ t.run v ρ = some ρ' ∧
  ∀ σ', RL X.K φ H ρ' σ' → (∀ vs : List Nat, (∀ i, Tch N sc i → i ∈ vs) → L2.wipe σ' vs = L2.wipe σ vs) → Q σ' H
def tGl (X : Cx) (ca : Nat → Addr) (N : List Str) (sc : Scope) (t : List Tgt) : TGs := fun x σ H Q => ∃ φ ρ v ρ', RL X.K φ H ρ σ ∧ RvL X.K φ H v x ∧ Tgt.runL t v ρ = some ρ' ∧
  ∀ σ', RL X.K φ H ρ' σ' → (∀ vs : List Nat, (∀ i, Tch N sc i → i ∈ vs) → L2.wipe σ' vs = L2.wipe σ vs) → Q σ' H
theorem pgsW {es : List Expr} {t t' : TGs} (h : PGs X es t) (k : ∀ x σ H Q, t' x σ H Q → t x σ H Q) : PGs X es t' := ⟨fun pins s σ H v u Q I r q => h.run pins s σ H v u Q I r (k _ _ _ _ q)⟩
def NoSt (e : Expr) : Prop := ∀ r env, assignEach (e :: r) env = (false, assign e env) :: assignEach r env
theorem nost_of {N : List Str} {sc : Scope} {n : Nat} {e : Expr} {t : Tgt} (h : tgO N sc n e = some t) : NoSt e := by
  cases n with
  | zero => cases h
  | succ n =>
    unfold tgO at h
    cases e with
    | Name x p => exact fun r env => rfl
    | Tuple es k p => exact fun r env => rfl
    | _ => cases h
theorem ok_tgL (c : Ct ca fa fd L sc X W) {f : Expr → Option Tgt} (hf : ∀ e t, f e = some t → NoSt e ∧ PG X e (tGt X ca L.N sc t)) : ∀ (es : List Expr) (l : List Tgt), tgL f es = some l → PGs X es (tGl X ca L.N sc l) ∧ (assignEach es X.env).length = l.length ∧ (assignEach es X.env).findIdx? (·.1) = none
  | [], l, h => by
    cases h
    refine ⟨pgsW pgs_nil fun xs σ H Q ⟨φ, ρ, v, ρ', rl, rv, ha, k⟩ => ?_, rfl, rfl⟩
    cases v with
    | nil => cases ha; cases rv; exact ⟨rfl, k σ rl fun _ _ => rfl⟩
    | cons _ _ => cases ha
  | e :: r, l, h => by
    unfold tgL at h
    cases h1 : f e with
    | none => rw [h1] at h; cases h
    | some t =>
      cases h2 : tgL f r with
      | none => rw [h1, h2] at h; cases h
      | some lr =>
        rw [h1, h2] at h
        cases h
        obtain ⟨ih, il, ifx⟩ := ok_tgL c hf r lr h2
        have ns := (hf e t h1).1 r X.env
        refine ⟨pgsW (pgs_cons (hf e t h1).2 ih (by rw [ns]; rfl)) fun xs σ H Q ⟨φ, ρ, v, ρ', rl, rv, ha, k⟩ => ?_, by rw [ns, List.length_cons, List.length_cons, il], by rw [ns, List.findIdx?_cons]; simp [ifx]⟩
        cases v with
        | nil => cases ha
        | cons v0 vr =>
          cases rv with
          | cons r0 rr =>
            unfold Tgt.runL at ha
            cases hr : t.run v0 ρ with
            | none => rw [hr] at ha; cases ha
            | some ρ1 =>
              rw [hr] at ha
              exact ⟨_, _, rfl, φ, ρ, v0, ρ1, rl, r0, hr, fun σ1 rl1 w1 => ⟨φ, ρ1, vr, ρ', rl1, rr, ha, fun σ2 rl2 w2 => k σ2 rl2 fun vs hv => (w2 vs hv).trans (w1 vs hv)⟩⟩
theorem ok_tgO (c : Ct ca fa fd L sc X W) : ∀ (n : Nat) (tg : Expr) (t : Tgt), tgO L.N sc n tg = some t → PG X tg (tGt X ca L.N sc t)
  | 0, _, _, h => by cases h
  | n + 1, tg, t, h => by
    unfold tgO at h
    cases tg with
    | Name x p =>
      dsimp only at h
      by_cases hl : locB sc x = true
      · rw [if_pos hl] at h
        cases hi : slotOf L.N x with
        | none => rw [hi] at h; cases h
        | some i =>
          rw [hi] at h
          cases h
          refine pgW (pg_name (by rw [c.N]; exact c.nd) (by rw [c.N]; exact slotOf_get hi) (c.loc x hl).1 (c.loc x hl).2) fun y σ H Q ⟨φ, ρ, v, ρ', rl, rv, ha, k⟩ => ?_
          unfold Tgt.run at ha
          cases ha
          exact k _ (rl.set i rv) fun vs hv => wipe_set (hv i ⟨x, hl, hi⟩)
      · rw [if_neg hl] at h
        cases h
    | Tuple es k p =>
      dsimp only at h
      cases hg : tgL (tgO L.N sc n) es with
      | none => rw [hg] at h; cases h
      | some l =>
        rw [hg] at h
        cases h
        obtain ⟨hp, hl, hx⟩ := ok_tgL c (fun e t he => ⟨nost_of he, ok_tgO c n e t he⟩) es l hg
        refine pgW (pg_tup (n := l.length) c.calm hp hl hx) fun z σ H Q ⟨φ, ρ, v, ρ', rl, rv, ha, k⟩ => ?_
        cases v with
        | tup vs =>
          cases rv with
          | tup q ra =>
            unfold Tgt.run at ha
            have hn : ∀ (l : List Tgt) (vs : List PV) (ρ ρ' : Sl), Tgt.runL l vs ρ = some ρ' → vs.length = l.length := by
              intro l
              induction l with
              | nil => intro vs ρ ρ' h; cases vs with
                | nil => rfl
                | cons _ _ => cases h
              | cons t r ih => intro vs ρ ρ' h; cases vs with
                | nil => cases h
                | cons v vr =>
                  unfold Tgt.runL at h
                  cases hr : t.run v ρ with
                  | none => rw [hr] at h; cases h
                  | some ρ1 =>
                    rw [hr] at h
                    rw [List.length_cons, List.length_cons, ih vr ρ1 ρ' h]
            exact ⟨_, _, rfl, q, by rw [← ra.len]; exact hn _ _ _ _ ha, φ, ρ, vs, ρ', rl, ra, ha, k⟩
        | _ => cases ha
    | _ => cases h
theorem ok_tg (c : Ct ca fa fd L sc X W) (tg : Expr) : PG X tg (tG X ca L.N sc tg) := by
  cases h : tgO L.N sc 4 tg with
  | none =>
    refine pg_no fun x σ H Q ⟨φ, ρ, v, ρ', _, _, ha, _⟩ => ?_
    unfold asgP at ha
    rw [h] at ha
    cases ha
  | some t =>
    refine pgW (ok_tgO c 4 tg t h) fun x σ H Q ⟨φ, ρ, v, ρ', rl, rv, ha, k⟩ => ⟨φ, ρ, v, ρ', rl, rv, ?_, k⟩
    unfold asgP at ha
    rw [h] at ha
    exact ha
end
end Z

namespace Z
open PySem L2
section
variable {X : Cx} {ca : Nat → Addr} {W : WX} {fa : Nat → Addr} {fd : Nat → FuncData} {L : Lk} {sc : Scope} {E : EM} {tg : Expr}
abbrev W0 : WX := fun _ _ _ _ => False
theorem lookup_map {f : Str × NameKind → Str × NameKind} {g : Str → NameKind → NameKind} (hf : ∀ p, f p = (p.1, g p.1 p.2)) (x : Str) : ∀ l : List (Str × NameKind), (l.map f).lookup x = (l.lookup x).map (g x)
  | [] => rfl
  | (n, k) :: r => by
    rw [List.map_cons, hf, List.lookup_cons, List.lookup_cons]
    cases hx : x == n with
    | true =>
      have e : x = n := by simpa using hx
      subst e
      rfl
    | false => exact lookup_map hf x r
theorem lookup_relabel {scope : Scope} {env : Env} (x : Str) : (relabel scope env).names.lookup x = (scope.names.lookup x).map fun k => if (k == .free && env.scope.kind == .function && env.kindOf x == some .cell) = true then .cell else k :=
  lookup_map (g := fun x k => if (k == .free && env.scope.kind == .function && env.kindOf x == some .cell) = true then .cell else k) (fun p => by
    obtain ⟨n, k⟩ := p
    dsimp only
    split <;> rfl) x scope.names
/-- within a comprehension's block -/
theorem Ct.blk (c : Ct ca fa fd L sc X W) (scope : Scope) (s : Shared) (H : Hp) (C : Addr) (cl : List (Str × Addr)) (fp : List Addr) : Ct ca fa fd L scope (X.blk s H scope (compEnvC scope cl C X.env) fp) W0 where
  N := c.N
  nd := c.nd
  nb := c.nb
  calm := c.calm
  takes := fun u s' x => by
    obtain ⟨_, _, _, _, _, _, _, _, _, _, _, _, _, _, _, _, w⟩ := x
    exact w.elim
  room := c.room
  un := c.un
  vis := fun x h => by
    show Vis (relabel scope X.env) x
    unfold Vis
    rw [lookup_relabel]
    unfold visB at h
    split at h
    · rename_i e; rw [e]; exact .inl rfl
    · rename_i e; rw [e]; exact .inr (.inl rfl)
    · rename_i e
      rw [e]
      simp only [Option.map_some]
      split
      · exact .inr (.inl rfl)
      · exact .inr (.inr rfl)
    · cases h
  loc := fun x h => by
    show L2.Loc (relabel scope X.env) x ∧ ((scope.names.lookup x == some .cell) = true ∨ (relabel scope X.env).names.lookup x = some .local)
    unfold L2.Loc
    rw [lookup_relabel]
    unfold locB at h
    split at h
    · rename_i e; rw [e]; exact ⟨.inl rfl, .inr rfl⟩
    · rename_i e; rw [e]; exact ⟨.inr rfl, .inl rfl⟩
    · cases h
  gl := fun x h => by
    show (relabel scope X.env).names.lookup x = some .globalImplicit ∧ _
    rw [lookup_relabel]
    unfold globB at h
    split at h
    · rename_i e
      rw [e]
      exact ⟨rfl, by simpa using h⟩
    · cases h
  blkf := fun x h => by
    show (relabel scope X.env).names.lookup x = some .cell ∨ (relabel scope X.env).names.lookup x = some .free
    rw [lookup_relabel]
    rcases h with h | h
    · rw [h]; exact .inl rfl
    · rw [h]
      simp only [Option.map_some]
      split
      · exact .inl rfl
      · exact .inr rfl
  glob := c.glob
theorem own_mem {N : List Str} {x : Str} {i : Nat} (hi : slotOf N x = some i) : ∀ {l : List (Str × NameKind)}, (l.lookup x = some .local ∨ l.lookup x = some .cell) → i ∈ (ownOf N l).map (·.2)
  | [], h => by rcases h with h | h <;> cases h
  | (y, k) :: r, h => by
    simp only [List.lookup_cons] at h
    cases hx : x == y with
    | true =>
      rw [hx] at h
      have e : x = y := by simpa using hx
      subst e
      rcases h with h | h
      · cases h
        simp [ownOf, hi]
      · cases h
        simp [ownOf, hi]
    | false =>
      rw [hx] at h
      have ih := own_mem hi (l := r) h
      cases k <;> simp only [ownOf] <;> first
        | exact ih
        | (split
           · exact List.mem_cons_of_mem _ ih
           · exact ih)
theorem tch_own {N : List Str} {scope : Scope} {i : Nat} (h : Tch N scope i) : i ∈ (ownOf N scope.names).map (·.2) := by
  obtain ⟨y, h1, h2⟩ := h
  refine own_mem h2 ?_
  unfold locB at h1
  split at h1
  · rename_i e; exact .inl e
  · rename_i e; exact .inr e
  · cases h1
theorem wipe_wipe {σ : St} {vs : List Nat} : ∀ {ws : List Nat}, (∀ i ∈ ws, i ∈ vs) → L2.wipe (L2.wipe σ ws) vs = L2.wipe σ vs
  | [], _ => rfl
  | w :: r, h => by
    show L2.wipe ((L2.wipe σ r).set w none) vs = _
    rw [wipe_set (h w (List.mem_cons_self ..))]
    exact wipe_wipe fun i hi => h i (List.mem_cons_of_mem _ hi)
theorem fold_no {iter : Expr} {env : Env} : (∀ x, foldedSetIterable iter env x = pure x) ∨ ∀ ρ, srcP E sc tg iter ρ = stop := by
  cases iter <;> first | exact .inl fun _ => rfl | exact .inr fun _ => rfl
theorem pts_tsts (c : Ct ca fa fd L sc X W) (hE : ∀ e, PE X e (tE X ca W (E e))) (ifs : List Expr) : PTs X ifs (tT X ca W (tstsP E ifs)) := by
  match ifs with
  | [] => exact ⟨fun pins s σ H Q I ⟨φ, st, ρ, rs, rl, o⟩ => pts_nil.run pins s σ H Q I (Out.ret o rs rfl)⟩
  | [cd] => exact pts_one (ok_tst c hE 20 cd)
  | _ :: _ :: _ => exact ⟨fun pins s σ H Q I h => (tR_no (fun _ => rfl) _ _ _ h).elim⟩
/-- a comprehension's reading, from the machine's run -/
theorem lc_read {E' : EM} {elt iter : Expr} {ifs : List Expr} {scope : Scope} {σ : St} {H : Hp} {Q : VK} (hb : blkC L.N sc scope (ownOf L.N scope.names) = true)
    (h : tE X ca W (fun ρ => if blkC L.N sc scope (ownOf L.N scope.names) = true then
        bnd (srcP E sc tg iter ρ) fun src s => lcP E' L.N scope tg elt ifs src s.length (wipeP ρ ((ownOf L.N scope.names).map (·.2))) (lenI s src + 1) 0 (s ++ [.lst []])
      else stop) σ H Q) : tLc (tI X ca W (srcP E sc tg iter)) (tG X ca L.N scope tg) (tT X ca W0 (tstsP E' ifs)) (tE X ca W0 (E' elt)) ((ownOf L.N scope.names).map (·.2)) σ H Q := by
  obtain ⟨φ, st, ρ, rs, rl, o⟩ := h
  dsimp only at o
  rw [if_pos hb] at o
  have hvs : ∀ i, Tch L.N scope i → i ∈ (ownOf L.N scope.names).map (·.2) := fun i hi => tch_own hi
  generalize (ownOf L.N scope.names).map (·.2) = vs at o hvs ⊢
  refine tR_seq rs rl o fun J H1 φ1 st1 src e1 rs1 rl1 hsrc o1 => ?_
  intro D hD
  have exD : Ext φ1 H1 (φ1 ++ [D]) (upd H1 D (.lst [])) := ext_push hD
  have rsD : SR X.K ca (φ1 ++ [D]) (st1 ++ [.lst []]) (upd H1 D (.lst [])) := rs1.push hD ⟨[], upd_same, .nil⟩
  have hDn : (φ1 ++ [D])[st1.length]? = some D := new_ref rs1
  generalize hdn : st1.length = dn at o1 hDn
  refine ⟨fun i m H => ∃ φ st, Ext φ1 H1 φ H ∧ SR X.K ca φ st H ∧ RL X.K φ H (wipeP ρ vs) (L2.wipe σ vs) ∧ φ[dn]? = some D ∧
    Out X.K ca (Rv X.K) (fun cls d H' => W cls d σ H') φ H Q (lcP E' L.N scope tg elt ifs src dn (wipeP ρ vs) m i st),
    ⟨lenI st1 src + 1, _, _, exD, rsD, (rl1.wipe vs).ext exD, hDn, o1.base exD⟩, fun i m H ⟨φ, st, ex, rs, rl, hd, o⟩ => ?_⟩
  cases m with
  | zero => exact False.elim o
  | succ m =>
    have hs := hsrc φ H st i ex rs
    unfold lcP lcC at o
    cases hg : getI st src i with
    | none => rw [hg] at o; exact False.elim o
    | some g =>
      rw [hg] at o
      cases g with
      | none => exact .inl ⟨hs.1 hg, Out.ok o rs (.ref hd)⟩
      | some v =>
        obtain ⟨go, yl⟩ := hs.2 v hg
        refine .inr ⟨go, fun H' => ∃ m', m' < m + 1 ∧ ∃ φ st, Ext φ1 H1 φ H' ∧ SR X.K ca φ st H' ∧ RL X.K φ H' (wipeP ρ vs) (L2.wipe σ vs) ∧ φ[dn]? = some D ∧
          Out X.K ca (Rv X.K) (fun cls d H' => W cls d σ H') φ H' Q (lcP E' L.N scope tg elt ifs src dn (wipeP ρ vs) m' (i + 1) st), fun H' h => h, fun x H' y => ?_⟩
        obtain ⟨ey, rsy, rvy⟩ := yl x H' y
        try dsimp only at o
        cases ha : asgP L.N scope tg v (wipeP ρ vs) with
        | none => rw [ha] at o; exact False.elim o
        | some ρ' =>
          rw [ha] at o
          try dsimp only at o
          refine ⟨φ, wipeP ρ vs, v, ρ', rl.ext ey, rvy, ha, fun σ2 rl2 hw => ⟨(hw vs hvs).trans (wipe_wipe (fun i h => h)), ?_⟩⟩
          refine ⟨φ, st, ρ', rsy, rl2, ?_⟩
          cases ht : tstsP E' ifs ρ' st with
          | bad => rw [ht] at o; exact False.elim o
          | exc k fs s3 => rw [ht] at o; exact False.elim o
          | ok b s3 =>
            rw [ht] at o
            intro φ3 H3 b' e3 rs3 hb3
            obtain rfl : b' = b := hb3
            cases b' with
            | false =>
              exact ⟨m, Nat.lt_succ_self m, φ3, s3, ex.trans (ey.trans e3), rs3, (rl.ext ey).ext e3, e3.get hd, Out.base (ey.trans e3) o⟩
            | true =>
              refine ⟨φ3, s3, ρ', rs3, rl2.ext e3, ?_⟩
              try dsimp only at o
              cases he : E' elt ρ' s3 with
              | bad => rw [he] at o; exact False.elim o
              | exc k fs s4 => rw [he] at o; exact False.elim o
              | ok y s4 =>
                rw [he] at o
                intro φ4 H4 u e4 rs4 rv4
                try dsimp only at o
                have hd4 := e4.get (e3.get hd)
                split at o
                · rename_i acc hacc
                  obtain ⟨xs, q, ra⟩ := rs4.at hd4 hacc
                  split at o
                  · rename_i hlen
                    have mu : Mut (H4 D) := by rw [q]; trivial
                    have e5 : Ext φ4 H4 φ4 (upd H4 D (.lst (xs ++ [u]))) := ext_set mu
                    refine ⟨xs, q, by rw [← ra.len]; exact hlen, m, Nat.lt_succ_self m, φ4, _, ex.trans (ey.trans (e3.trans (e4.trans e5))), rs4.set (u := .lst (acc ++ [y])) hd4 hacc rfl rfl ⟨_, upd_same, (ra.app (.one rv4)).ext e5⟩, (((rl.ext ey).ext e3).ext e4).ext e5, hd4, Out.base (ey.trans (e3.trans (e4.trans e5))) o⟩
                  · exact False.elim o
                · exact False.elim o

theorem ok_lc (c : Ct ca fa fd L sc X W) (hE : ∀ e, PE X e (tE X ca W (E e))) {E' : EM} {elt iter : Expr} {ifs : List Expr} {scope : Scope} {pos : Pos}
    (hB : ∀ X' : Cx, X'.K = X.K → Ct ca fa fd L scope X' W0 → ∀ e, PE X' e (tE X' ca W0 (E' e))) :
    PE X (.ListComp elt [⟨tg, iter, ifs, 0⟩] scope pos) (tE X ca W (fun ρ => if blkC L.N sc scope (ownOf L.N scope.names) = true then
        bnd (srcP E sc tg iter ρ) fun src s => lcP E' L.N scope tg elt ifs src s.length (wipeP ρ ((ownOf L.N scope.names).map (·.2))) (lenI s src + 1) 0 (s ++ [.lst []])
      else stop)) := by
  by_cases hb : blkC L.N sc scope (ownOf L.N scope.names) = true
  · rcases fold_no (E := E) (sc := sc) (tg := tg) (iter := iter) (env := X.env) with hf | hf
    · have bk0 := blkOk_by hb
      have bk : BlkOk X.N X.env.scope scope (ownOf L.N scope.names) := by
        refine ⟨bk0.kind, bk0.uniq, fun p hp => by rw [c.N]; exact bk0.ix p hp, fun y hy e => c.blkf _ (bk0.free y hy e), fun y hy e => ?_⟩
        rw [c.N]
        exact bk0.own y hy e
      have cb := c.blk scope
      refine peW (pe_lc (g := tG X ca L.N scope tg) (tt := tT X ca W0 (tstsP E' ifs)) (te := tE X ca W0 (E' elt)) c.calm (by rw [c.N]; exact c.nd) (ok_src c hE iter) bk
        (fun s H C cl fp => ok_tg (cb s H C cl fp) tg) (fun s H C cl fp => pts_tsts (X := X.blk s H scope (compEnvC scope cl C X.env) fp) (cb s H C cl fp) (hB (X.blk s H scope (compEnvC scope cl C X.env) fp) rfl (cb s H C cl fp)) ifs) (fun s H C cl fp => hB (X.blk s H scope (compEnvC scope cl C X.env) fp) rfl (cb s H C cl fp) elt) hf) fun σ H Q h => lc_read hb h
    · exact pe_no (tR_no fun ρ => by rw [if_pos hb, hf ρ] <;> rfl)
  · exact pe_no (tR_no fun ρ => by rw [if_neg hb])
/-- every expression is read as the machine runs it -/
theorem ok_evE : ∀ (n : Nat) (X : Cx) (sc : Scope) (W : WX), Ct ca fa fd L sc X W → ∀ e, PE X e (tE X ca W (evE L n sc e))
  | 0, X, sc, W, c, e => pe_no (tR_no fun _ => rfl)
  | n + 1, X, sc, W, c, e => by
    have hE := ok_evE n X sc W c
    unfold evE
    split
    · exact ok_const
    · exact ok_name c
    · exact ok_tup hE
    · exact ok_lst hE
    · exact ok_dict hE
    · exact ok_bin hE
    · exact ok_neg hE
    · exact ok_not hE
    · exact ok_cmp c hE
    · exact ok_andV hE
    · exact ok_orV hE
    · exact ok_ifE c hE
    · exact ok_slice hE
    · rename_i hb
      exact ok_ix c hE fun lo hi p2 e => hb lo hi p2 e
    · exact ok_fld c hE
    · exact ok_call c hE
    · exact ok_meth c hE
    · exact ok_lc c hE fun X' hK cb => ok_evE n X' _ W0 cb
    · exact pe_no (tR_no fun _ => rfl)
end
end Z

namespace Z
open PySem L2
/-- C(..), C an exception's class with fields fl -/
def tMk2 (C : Addr) (fl : List Str) (t : TA) : St → Hp → XK → Prop := fun σ H Q => t σ H fun xs H1 => xs.length = fl.length ∧ ∀ d us, H1 d = none → (∀ f x, (fl.zip xs).lookup f = some x → us.lookup f = some x) → Q (.ref C) (some d) (upd H1 d (.xd us))
structure CtS (ca fa : Nat → Addr) (fd : Nat → FuncData) (L : Lk) (sc : Scope) (X : Cx) (W : WX) : Prop extends Ct ca fa fd L sc X W where
  sceq : X.env.scope = sc
  fkind : sc.kind = .function
  passes : PassesOwn (model X.prog X.w) X.A X.env X.xe
  stk : X.stack = X.env :: X.outer
  frm : X.env.frame = some X.env.locals
  mk1 : ∀ pn xe x c m j p p2 pos, L.T.glob.lookup x = some (.cls c) → (L.T.cls[c]?).bind (·.exc) = some none → globB sc x = true → PMk (X.tr pn xe) (.Call (.Name x p) [.Constant (.str m) j p2] [] pos) (fun _ H Q => Q (.ref (ca c)) none H)
  mk2 : ∀ pn xe x c fl e es t p pos, L.T.glob.lookup x = some (.cls c) → (L.T.cls[c]?).bind (·.exc) = some (some fl) → globB sc x = true → (e :: es).all noStar = true → PA (X.tr pn xe) (e :: es) t → PMk (X.tr pn xe) (.Call (.Name x p) (e :: es) [] pos) (tMk2 (ca c) fl t)
  sub : ∀ c c', (excF L.T c).isSome = true → (excF L.T c').isSome = true → PySem.W.exmOne X.K (.ref (ca c)) (.ref (ca c')) = some (L.T.sub c c')
  xf : ∀ c fl f, excF L.T c = some fl → fl.contains f = true → XfC X.K (ca c) ∧ PySem.W.findIn X.K (.ref (ca c)) f = some none

section
variable {X : Cx} {ca : Nat → Addr} {W : WX} {fa : Nat → Addr} {fd : Nat → FuncData} {L : Lk} {sc : Scope} {E : EM}
/-- how a statement's run ends -/
def OutS (K : PySem.W.Frag) (ca : Nat → Addr) (W : WX) (φ : List Addr) (H : Hp) (D : Ends) : RS → Prop
  | .ok .next ρ st => ∀ φ' H' σ', Ext φ H φ' H' → SR K ca φ' st H' → RL K φ' H' ρ σ' → D.nx σ' H'
  | .ok .brk ρ st => ∀ φ' H' σ', Ext φ H φ' H' → SR K ca φ' st H' → RL K φ' H' ρ σ' → D.bk σ' H'
  | .ok .cont ρ st => ∀ φ' H' σ', Ext φ H φ' H' → SR K ca φ' st H' → RL K φ' H' ρ σ' → D.ct σ' H'
  | .ok (.ret v) ρ st => ∀ φ' H' u, Ext φ H φ' H' → SR K ca φ' st H' → Rv K φ' H' v u → D.rt u H'
  | .exc c fs ρ st => ∀ φ' H' σ' d, Ext φ H φ' H' → SR K ca φ' st H' → RL K φ' H' ρ σ' → Rx K φ' H' fs d → W (.ref (ca c)) d σ' H'
  | .bad => False
theorem OutS.base {K : PySem.W.Frag} {φ φ' : List Addr} {H H' : Hp} {D : Ends} {r : RS} (e : Ext φ H φ' H') (o : OutS K ca W φ H D r) : OutS K ca W φ' H' D r := by
  cases r with
  | ok f ρ st =>
    cases f with
    | next => exact fun φ2 H2 σ2 e2 rs rl => o φ2 H2 σ2 (e.trans e2) rs rl
    | brk => exact fun φ2 H2 σ2 e2 rs rl => o φ2 H2 σ2 (e.trans e2) rs rl
    | cont => exact fun φ2 H2 σ2 e2 rs rl => o φ2 H2 σ2 (e.trans e2) rs rl
    | ret v => exact fun φ2 H2 u e2 rs rv => o φ2 H2 u (e.trans e2) rs rv
  | exc c fs ρ st => exact fun φ2 H2 σ2 d e2 rs rl rx => o φ2 H2 σ2 d (e.trans e2) rs rl rx
  | bad => exact o
def tS (X : Cx) (ca : Nat → Addr) (W : WX) (m : SM) : TS := fun D σ H => ∃ φ st ρ, SR X.K ca φ st H ∧ RL X.K φ H ρ σ ∧ OutS X.K ca W φ H D (m ρ st)
theorem psW {s : Stmt} {t t' : TS} (h : PS X s t) (k : ∀ D σ H, t' D σ H → t D σ H) : PS X s t' := ⟨fun pins s σ H D I q => h.run pins s σ H D I (k _ _ _ q)⟩
theorem pssW {s : List Stmt} {t t' : TS} (h : PSs X s t) (k : ∀ D σ H, t' D σ H → t D σ H) : PSs X s t' := ⟨fun pins s σ H D I q => h.run pins s σ H D I (k _ _ _ q)⟩
theorem ps_no {s : Stmt} {t : TS} (k : ∀ D σ H, ¬t D σ H) : PS X s t := ⟨fun _ _ _ _ _ _ q => (k _ _ _ q).elim⟩
theorem tS_no {m : SM} (h : ∀ ρ st, m ρ st = .bad) (D : Ends) (σ : St) (H : Hp) : ¬tS X ca W m D σ H := fun ⟨φ, st, ρ, _, _, o⟩ => by
  rw [h] at o
  exact o
/-- a part that is an expression, then the rest -/
theorem tS_seq {α β : Type} {R : List Addr → Hp → α → β → Prop} {m : Sl → M α} {f : α → Store → RS} {φ : List Addr} {st : Store} {ρ : Sl} {σ : St} {H : Hp} {D : Ends} {Q : β → Hp → Prop}
    (rs : SR X.K ca φ st H) (rl : RL X.K φ H ρ σ) (o : OutS X.K ca W φ H D (bndS (m ρ) ρ f st))
    (k : ∀ u H1 φ1 st1 v, Ext φ H φ1 H1 → SR X.K ca φ1 st1 H1 → RL X.K φ1 H1 ρ σ → R φ1 H1 v u → OutS X.K ca W φ1 H1 D (f v st1) → Q u H1) : tR R X ca W m σ H Q := by
  refine ⟨φ, st, ρ, rs, rl, ?_⟩
  unfold bndS at o
  cases hz : m ρ st with
  | bad => rw [hz] at o; exact o
  | exc c fs s1 => rw [hz] at o; exact fun φ1 H1 d e1 rs1 rx => o φ1 H1 σ d e1 rs1 (rl.ext e1) rx
  | ok v s1 => rw [hz] at o; exact fun φ1 H1 u e1 rs1 rv => k u H1 φ1 s1 v e1 rs1 (rl.ext e1) rv (o.base e1)
theorem OutS.nx {φ : List Addr} {st : Store} {ρ : Sl} {σ : St} {H : Hp} {D : Ends} (o : OutS X.K ca W φ H D (.ok .next ρ st)) (rs : SR X.K ca φ st H) (rl : RL X.K φ H ρ σ) : D.nx σ H := o φ H σ .refl rs rl

theorem ok_pass {p : Pos} : PS X (.Pass p) (tS X ca W fun ρ s => .ok .next ρ s) := psW ps_pass fun D σ H ⟨φ, st, ρ, rs, rl, o⟩ => OutS.nx o rs rl
theorem ok_brk {p : Pos} : PS X (.Break p) (tS X ca W fun ρ s => .ok .brk ρ s) := psW ps_break fun D σ H ⟨φ, st, ρ, rs, rl, o⟩ => o φ H σ .refl rs rl
theorem ok_cont {p : Pos} : PS X (.Continue p) (tS X ca W fun ρ s => .ok .cont ρ s) := psW ps_continue fun D σ H ⟨φ, st, ρ, rs, rl, o⟩ => o φ H σ .refl rs rl
theorem ok_retN {p : Pos} : PS X (.Return none p) (tS X ca W fun ρ s => .ok (.ret .non) ρ s) := psW ps_retN fun D σ H ⟨φ, st, ρ, rs, rl, o⟩ => o φ H .non .refl rs .non
theorem ok_ret (hE : ∀ e, PE X e (tE X ca W (E e))) {e : Expr} {p : Pos} : PS X (.Return (some e) p) (tS X ca W fun ρ s => bndS (E e ρ) ρ (fun v s => .ok (.ret v) ρ s) s) := by
  refine psW (ps_ret (hE e)) fun D σ H ⟨φ, st, ρ, rs, rl, o⟩ => ?_
  exact tS_seq rs rl o fun x H1 φ1 st1 v e1 rs1 rl1 rv o1 => o1 φ1 H1 x .refl rs1 rv
theorem ok_expr (hE : ∀ e, PE X e (tE X ca W (E e))) {f : Expr} {as : List Expr} {ks : List Keyword} {p p2 : Pos} : PS X (.Expr (.Call f as ks p) p2) (tS X ca W fun ρ s => bndS (E (.Call f as ks p) ρ) ρ (fun _ s => .ok .next ρ s) s) := by
  refine psW (ps_expr (hE _)) fun D σ H ⟨φ, st, ρ, rs, rl, o⟩ => ?_
  exact tS_seq rs rl o fun x H1 φ1 st1 v e1 rs1 rl1 rv o1 => OutS.nx o1 rs1 rl1

theorem ok_blk {S : Stmt → SM} (hS : ∀ s, PS X s (tS X ca W (S s))) : ∀ l : List Stmt, PSs X l (tS X ca W (blk S l))
  | [] => pssW pss_nil fun D σ H ⟨φ, st, ρ, rs, rl, o⟩ => OutS.nx o rs rl
  | s :: r => by
    refine pssW (pss_cons (hS s) (ok_blk hS r)) fun D σ H ⟨φ, st, ρ, rs, rl, o⟩ => ?_
    refine ⟨φ, st, ρ, rs, rl, ?_⟩
    unfold blk at o
    cases hz : S s ρ st with
    | bad => rw [hz] at o; exact o
    | exc c fs ρ1 s1 => rw [hz] at o; exact o
    | ok f ρ1 s1 =>
      rw [hz] at o
      cases f with
      | next => exact fun φ1 H1 σ1 e1 rs1 rl1 => ⟨φ1, s1, ρ1, rs1, rl1, o.base e1⟩
      | brk => exact o
      | cont => exact o
      | ret v => exact o
theorem ok_if (c : Ct ca fa fd L sc X W) (hE : ∀ e, PE X e (tE X ca W (E e))) {S : Stmt → SM} (hS : ∀ s, PS X s (tS X ca W (S s))) {t : Expr} {a b : List Stmt} {p : Pos} :
    PS X (.If t a b p) (tS X ca W fun ρ s => bndS (tst E 20 t ρ) ρ (fun t s => if t = true then blk S a ρ s else blk S b ρ s) s) := by
  refine psW (ps_if (ok_tst c hE 20 t) (ok_blk hS a) (ok_blk hS b)) fun D σ H ⟨φ, st, ρ, rs, rl, o⟩ => ?_
  refine tS_seq rs rl o fun x H1 φ1 st1 v e1 rs1 rl1 rv o1 => ?_
  cases rv
  cases x with
  | true => exact ⟨φ1, st1, ρ, rs1, rl1, o1⟩
  | false => exact ⟨φ1, st1, ρ, rs1, rl1, o1⟩

theorem ok_while (c : CtS ca fa fd L sc X W) (hE : ∀ e, PE X e (tE X ca W (E e))) {S : Stmt → SM} (hS : ∀ s, PS X s (tS X ca W (S s))) {t : Expr} {b : List Stmt} {n : Nat} {p : Pos} :
    PS X (.While t b [] p) (tS X ca W (whl (blk S b) (tst E 20 t) n)) := by
  refine psW (ps_while c.passes (ok_tst c.toCt hE 20 t) (ok_blk hS b)) fun D σ H h => ?_
  refine ⟨fun m σ H => tS X ca W (whl (blk S b) (tst E 20 t) m) D σ H, ⟨n, h⟩, fun m σ H ⟨φ, st, ρ, rs, rl, o⟩ => ?_⟩
  cases m with
  | zero => exact False.elim o
  | succ m =>
    unfold whl at o
    refine ⟨φ, st, ρ, rs, rl, ?_⟩
    cases hz : tst E 20 t ρ st with
    | bad => rw [hz] at o; exact o
    | exc k fs s1 => rw [hz] at o; exact fun φ1 H1 d e1 rs1 rx => o φ1 H1 σ d e1 rs1 (rl.ext e1) rx
    | ok v s1 =>
      rw [hz] at o
      intro φ1 H1 u e1 rs1 hu
      obtain rfl : u = v := hu
      cases u with
      | false => exact o φ1 H1 σ e1 rs1 (rl.ext e1)
      | true =>
        refine ⟨fun σ' H' => ∃ m', m' < m + 1 ∧ tS X ca W (whl (blk S b) (tst E 20 t) m') D σ' H', fun _ _ h => h, φ1, s1, ρ, rs1, rl.ext e1, ?_⟩
        try dsimp only at o
        cases hb : blk S b ρ s1 with
        | bad => rw [hb] at o; exact o
        | exc k fs ρ2 s2 => rw [hb] at o; exact o.base e1
        | ok f ρ2 s2 =>
          rw [hb] at o
          cases f with
          | next => exact fun φ2 H2 σ2 e2 rs2 rl2 => ⟨m, Nat.lt_succ_self m, φ2, s2, ρ2, rs2, rl2, OutS.base (e1.trans e2) o⟩
          | cont => exact fun φ2 H2 σ2 e2 rs2 rl2 => ⟨m, Nat.lt_succ_self m, φ2, s2, ρ2, rs2, rl2, OutS.base (e1.trans e2) o⟩
          | brk => exact fun φ2 H2 σ2 e2 rs2 rl2 => o φ2 H2 σ2 (e1.trans e2) rs2 rl2
          | ret v => exact fun φ2 H2 u e2 rs2 rv => o φ2 H2 u (e1.trans e2) rs2 rv
theorem ok_for (c : CtS ca fa fd L sc X W) (hE : ∀ e, PE X e (tE X ca W (E e))) {S : Stmt → SM} (hS : ∀ s, PS X s (tS X ca W (S s))) {tg iter : Expr} {b : List Stmt} {p : Pos} :
    PS X (.For tg iter b [] p) (tS X ca W fun ρ s => bndS (srcP E sc tg iter ρ) ρ (fun src s => forP (blk S b) (asgP L.N sc tg) src (lenI s src + 1) 0 ρ s) s) := by
  rcases fold_no (E := E) (sc := sc) (tg := tg) (iter := iter) (env := X.env) with hf | hf
  · refine psW (ps_for c.passes c.calm (ok_src c.toCt hE iter) (ok_tg c.toCt tg) (ok_blk hS b) hf) fun D σ H ⟨φ, st, ρ, rs, rl, o⟩ => ?_
    refine tS_seq rs rl o fun J H1 φ1 st1 src e1 rs1 rl1 hsrc o1 => ?_
    refine ⟨fun i m σ H => ∃ φ st ρ, Ext φ1 H1 φ H ∧ SR X.K ca φ st H ∧ RL X.K φ H ρ σ ∧ OutS X.K ca W φ H D (forP (blk S b) (asgP L.N sc tg) src m i ρ st), ⟨lenI st1 src + 1, φ1, st1, ρ, .refl, rs1, rl1, o1⟩, fun i m σ H ⟨φ, st, ρ, ex, rs, rl, o⟩ => ?_⟩
    cases m with
    | zero => exact False.elim o
    | succ m =>
      have hs := hsrc φ H st i ex rs
      unfold forP at o
      cases hg : getI st src i with
      | none => rw [hg] at o; exact False.elim o
      | some g =>
        rw [hg] at o
        cases g with
        | none => exact .inl ⟨hs.1 hg, OutS.nx o rs rl⟩
        | some v =>
          obtain ⟨go, yl⟩ := hs.2 v hg
          refine .inr ⟨go, fun σ' H' => ∃ m', m' < m + 1 ∧ ∃ φ st ρ, Ext φ1 H1 φ H' ∧ SR X.K ca φ st H' ∧ RL X.K φ H' ρ σ' ∧ OutS X.K ca W φ H' D (forP (blk S b) (asgP L.N sc tg) src m' (i + 1) ρ st), fun _ _ h => h, fun x H' y => ?_⟩
          obtain ⟨ey, rsy, rvy⟩ := yl x H' y
          try dsimp only at o
          cases ha : asgP L.N sc tg v ρ with
          | none => rw [ha] at o; exact False.elim o
          | some ρ' =>
            rw [ha] at o
            try dsimp only at o
            refine ⟨φ, ρ, v, ρ', rl.ext ey, rvy, ha, fun σ2 rl2 _ => ⟨φ, st, ρ', rsy, rl2, ?_⟩⟩
            cases hb : blk S b ρ' st with
            | bad => rw [hb] at o; exact o
            | exc k fs ρ2 s2 => rw [hb] at o; exact o.base ey
            | ok f ρ2 s2 =>
              rw [hb] at o
              cases f with
              | next => exact fun φ2 H2 σ2 e2 rs2 rl2 => ⟨m, Nat.lt_succ_self m, φ2, s2, ρ2, ex.trans (ey.trans e2), rs2, rl2, OutS.base (ey.trans e2) o⟩
              | cont => exact fun φ2 H2 σ2 e2 rs2 rl2 => ⟨m, Nat.lt_succ_self m, φ2, s2, ρ2, ex.trans (ey.trans e2), rs2, rl2, OutS.base (ey.trans e2) o⟩
              | brk => exact fun φ2 H2 σ2 e2 rs2 rl2 => o φ2 H2 σ2 (ey.trans e2) rs2 rl2
              | ret v => exact fun φ2 H2 u e2 rs2 rv => o φ2 H2 u (ey.trans e2) rs2 rv
  · exact ps_no (tS_no fun ρ st => by rw [hf ρ] <;> rfl)
end
end Z

namespace Z
open PySem L2
section
variable {X : Cx} {ca : Nat → Addr} {W : WX} {fa : Nat → Addr} {fd : Nat → FuncData} {L : Lk} {sc : Scope} {E : EM}

theorem swaps {e : Expr} {x : Str} {p : Pos} {l : Nat} {env : Env} : swapsWith e (some (.Name x p)) l env = pure false ∨ (∃ elt gs scope pos, e = .ListComp elt gs scope pos ∧ env.scope.names.lookup x = some .local ∧ swapsWith e (some (.Name x p)) l env = pure true) ∨ (∃ a g s q, e = .SetComp a g s q) ∨ ∃ a b g s q, e = .DictComp a b g s q := by
  cases e with
  | ListComp elt gs scope pos =>
    have h : swapsWith (.ListComp elt gs scope pos) (some (.Name x p)) l env = pure (env.blockKind == .function && env.kindOf x == some .local && p.line == pos.line && !(scope.names.any fun (n, k) => n == x && (k == .local || k == .cell))) := rfl
    cases hb : (env.blockKind == .function && env.kindOf x == some .local && p.line == pos.line && !(scope.names.any fun (n, k) => n == x && (k == .local || k == .cell))) with
    | false => rw [hb] at h; exact .inl h
    | true =>
      rw [hb] at h
      simp only [Bool.and_eq_true] at hb
      exact .inr (.inl ⟨elt, gs, scope, pos, rfl, by
        have q := hb.1.1.2
        have z : env.kindOf x = some .local := by simpa using q
        exact z, h⟩)
  | SetComp a g s q => exact .inr (.inr (.inl ⟨a, g, s, q, rfl⟩))
  | DictComp a b g s q => exact .inr (.inr (.inr ⟨a, b, g, s, q, rfl⟩))
  | _ => exact .inl rfl
theorem ok_set (c : CtS ca fa fd L sc X W) {x : Str} {e : Expr} {px p : Pos} {n : Nat} :
    PS X (.Assign [.Name x px] e p) (tS X ca W fun ρ s => if locB sc x = true then match slotOf L.N x with
        | some i => bndS (evE L (n + 1) sc e ρ) ρ (fun v s => .ok .next (ρ.set i (some v)) s) s
        | none => .bad
      else .bad) := by
  by_cases hl : locB sc x = true
  · cases hi : slotOf L.N x with
    | none => exact ps_no (tS_no fun ρ st => by simp only [if_pos hl])
    | some i =>
      have hE := ok_evE (ca := ca) (fa := fa) (fd := fd) (L := L) (n + 1) X sc W c.toCt
      have hN : X.N.Nodup := by rw [c.N]; exact c.nd
      have hx : X.N[i]? = some x := by rw [c.N]; exact slotOf_get hi
      obtain ⟨l1, l2⟩ := c.loc x hl
      rcases swaps (e := e) (x := x) (p := px) (l := p.line) (env := X.env) with hs | ⟨elt, gs, scope, pos, rfl, hloc, hs⟩ | ⟨a, g, s, q, rfl⟩ | ⟨a, b, g, s, q, rfl⟩
      · refine psW (ps_set hN hx l1 (hE e) hs l2) fun D σ H ⟨φ, st, ρ, rs, rl, o⟩ => ?_
        simp only [if_pos hl] at o
        exact tS_seq rs rl o fun y H1 φ1 st1 v e1 rs1 rl1 rv o1 => OutS.nx o1 rs1 (rl1.set i rv)
      · match gs with
        | [⟨tg, iter, ifs, .ofNat 0⟩] =>
          by_cases hb : blkC L.N sc scope (ownOf L.N scope.names) = true
          · rcases fold_no (E := evE L n sc) (sc := sc) (tg := tg) (iter := iter) (env := X.env) with hf | hf
            · have hE' := ok_evE (ca := ca) (fa := fa) (fd := fd) (L := L) n X sc W c.toCt
              have bk0 := blkOk_by hb
              have bk : BlkOk X.N X.env.scope scope (ownOf L.N scope.names) := by
                refine ⟨bk0.kind, bk0.uniq, fun p hp => by rw [c.N]; exact bk0.ix p hp, fun y hy e => c.blkf _ (bk0.free y hy e), fun y hy e => ?_⟩
                rw [c.N]
                exact bk0.own y hy e
              have cb := c.toCt.blk scope
              refine psW (ps_setLc (g := tG X ca L.N scope tg) (tt := tT X ca W0 (tstsP (evE L n scope) ifs)) (te := tE X ca W0 (evE L n scope elt)) c.calm hN hx hloc hs (ok_src c.toCt hE' iter) bk
                (fun s H C cl fp => ok_tg (cb s H C cl fp) tg)
                (fun s H C cl fp => pts_tsts (X := X.blk s H scope (compEnvC scope cl C X.env) fp) (cb s H C cl fp) (ok_evE n _ _ _ (cb s H C cl fp)) ifs)
                (fun s H C cl fp => ok_evE n (X.blk s H scope (compEnvC scope cl C X.env) fp) _ _ (cb s H C cl fp) elt) hf) fun D σ H ⟨φ, st, ρ, rs, rl, o⟩ => ?_
              simp only [if_pos hl] at o
              refine lc_read hb ?_
              exact tS_seq (m := evE L (n + 1) sc (.ListComp elt [⟨tg, iter, ifs, 0⟩] scope pos)) rs rl o fun y H1 φ1 st1 v e1 rs1 rl1 rv o1 => OutS.nx o1 rs1 (rl1.set i rv)
            · refine ps_no (tS_no fun ρ st => ?_)
              simp only [if_pos hl]
              show bndS (if _ then bnd (srcP (evE L n sc) sc tg iter ρ) _ else stop) _ _ _ = _
              rw [if_pos hb, hf ρ]
              rfl
          · refine ps_no (tS_no fun ρ st => ?_)
            simp only [if_pos hl]
            show bndS (if _ then bnd (srcP (evE L n sc) sc tg iter ρ) _ else stop) _ _ _ = _
            rw [if_neg hb]
            rfl
        | [] => exact ps_no (tS_no fun ρ st => by simp only [if_pos hl]; rfl)
        | ⟨tg, iter, ifs, .ofNat (k + 1)⟩ :: _ => exact ps_no (tS_no fun ρ st => by simp only [if_pos hl]; rfl)
        | ⟨tg, iter, ifs, .negSucc k⟩ :: _ => exact ps_no (tS_no fun ρ st => by simp only [if_pos hl]; rfl)
        | ⟨tg, iter, ifs, .ofNat 0⟩ :: _ :: _ => exact ps_no (tS_no fun ρ st => by simp only [if_pos hl]; rfl)
      · exact ps_no (tS_no fun ρ st => by simp only [if_pos hl]; rfl)
      · exact ps_no (tS_no fun ρ st => by simp only [if_pos hl]; rfl)
  · exact ps_no (tS_no fun ρ st => by rw [if_neg hl])

theorem sw_sub {e o i : Expr} {q : Pos} {l : Nat} {env : Env} : swapsWith e (some (.Subscript o i q)) l env = pure false := by cases e <;> rfl
theorem sw_fld {e o : Expr} {f : Str} {q : Pos} {l : Nat} {env : Env} : swapsWith e (some (.Attribute o f q)) l env = pure false := by cases e <;> rfl
theorem ok_sub (c : Ct ca fa fd L sc X W) (hE : ∀ e, PE X e (tE X ca W (E e))) {o i e : Expr} {q p : Pos} :
    PS X (.Assign [.Subscript o i q] e p) (tS X ca W fun ρ s => bndS (E e ρ) ρ (fun v s => bndS (E o ρ) ρ (fun x s => bndS (E i ρ) ρ (fun j s => bndS (ixSet x j v) ρ (fun _ s => .ok .next ρ s) s) s) s) s) := by
  refine psW (ps_dput (by have := c.un; omega) (hE o) (hE i) (hE e) sw_sub) fun D σ H ⟨φ, st, ρ, rs, rl, out⟩ => ?_
  refine tS_seq rs rl out fun y H1 φ1 st1 v e1 rs1 rl1 rv o1 => ?_
  refine tS_seq rs1 rl1 o1 fun x H2 φ2 st2 w e2 rs2 rl2 rx o2 => ?_
  refine tS_seq rs2 rl2 o2 fun z H3 φ3 st3 u e3 rs3 rl3 rz o3 => ?_
  unfold bndS ixSet at o3
  cases rx.ext e3 with
  | @ref n a ha =>
    try dsimp only at o3
    cases h1 : st3[n]? with
    | none => rw [h1] at o3; exact False.elim o3
    | some ob =>
      cases h2 : keyOf u with
      | none =>
        rw [h1, h2] at o3
        cases ob <;> exact False.elim o3
      | some k =>
        rw [h1, h2] at o3
        cases ob with
        | dct l =>
          try dsimp only at o3
          by_cases hz : l.length < sizeLine
          · rw [if_pos hz] at o3
            obtain ⟨ks, q1, q2⟩ := rs3.at ha h1
            have mu : Mut (H3 a) := by rw [q1]; trivial
            have ex : Ext φ3 H3 φ3 (upd H3 a (.dK (putK ks k y))) := ext_set mu
            refine ⟨a, _, rfl, .inl ⟨ks, k, q1, rz.key h2, by rw [← q2.len]; exact hz, rfl⟩, ?_⟩
            exact o3 φ3 _ σ ex (rs3.set ha h1 rfl rfl ⟨_, upd_same, (q2.dput k ((rv.ext e2).ext e3)).ext ex⟩) (rl3.ext ex)
          · rw [if_neg hz] at o3
            exact False.elim o3
        | _ => exact False.elim o3
  | _ => exact False.elim o3
/-- a field is written -/
theorem set_rel (c : Ct ca fa fd L sc X W) {D : Ends} {φ : List Addr} {st : Store} {ρ : Sl} {σ : St} {H : Hp} {x y : V} {v w : PV} {f : Str} (rs : SR X.K ca φ st H) (rl : RL X.K φ H ρ σ) (rx : Rv X.K φ H v x) (ry : Rv X.K φ H w y)
    (o : OutS X.K ca W φ H D (bndS (fldSet L v f w) ρ (fun _ s => .ok .next ρ s) st)) :
    ∃ a k dx fs, x = .ref a ∧ H a = some (.ins (ca k) dx fs) ∧ Cls X.K (ca k) ∧ NoAttr X.K (ca k) f ∧ clsP st v = some k ∧ fs.length < 1000 ∧ D.nx σ (upd H a (.ins (ca k) dx (putF f y fs))) := by
  unfold bndS fldSet at o
  cases rx with
  | @ref n a ha =>
    try dsimp only at o
    cases h1 : st[n]? with
    | none => rw [h1] at o; exact False.elim o
    | some ob =>
      rw [h1] at o
      cases ob with
      | ins k l =>
        try dsimp only at o
        cases h2 : L.T.cls[k]? with
        | none => rw [h2] at o; exact False.elim o
        | some C =>
          rw [h2] at o
          try dsimp only at o
          by_cases h3 : (C.fields.contains f && decide (l.length < 1000)) = true
          · rw [if_pos h3] at o
            have h3' := Bool.and_eq_true_iff.mp h3
            obtain ⟨g1, g2⟩ := c.glob.fl k C f h2 h3'.1
            obtain ⟨dx, fs, q1, q2⟩ := rs.at ha h1
            have mu : Mut (H a) := by rw [q1]; trivial
            have ex : Ext φ H φ (upd H a (.ins (ca k) dx (putF f y fs))) := ext_set mu
            refine ⟨a, k, dx, fs, rfl, q1, g1, g2, by unfold clsP; dsimp only; rw [h1], by rw [← q2.len]; exact of_decide_eq_true h3'.2, ?_⟩
            exact o φ _ σ ex (rs.set ha h1 rfl rfl ⟨dx, _, upd_same, (q2.putF f ry).ext ex⟩) (rl.ext ex)
          · rw [if_neg h3] at o
            exact False.elim o
      | _ => exact False.elim o
  | _ => exact False.elim o
theorem ok_fset (c : Ct ca fa fd L sc X W) (hE : ∀ e, PE X e (tE X ca W (E e))) {o e : Expr} {f : Str} {q p : Pos} :
    PS X (.Assign [.Attribute o f q] e p) (tS X ca W fun ρ s => bndS (E e ρ) ρ (fun v s => bndS (E o ρ) ρ (fun x s => bndS (fldSet L x f v) ρ (fun _ s => .ok .next ρ s) s) s) s) := by
  refine psW (ps_fld (hE o) (hE e) sw_fld) fun D σ H ⟨φ, st, ρ, rs, rl, out⟩ => ?_
  refine tS_seq rs rl out fun y H1 φ1 st1 v e1 rs1 rl1 rv o1 => ?_
  refine tS_seq rs1 rl1 o1 fun x H2 φ2 st2 w e2 rs2 rl2 rx o2 => ?_
  obtain ⟨a, k, dx, fs, h1, h2, h3, h4, _, h5, h6⟩ := set_rel c rs2 rl2 rx (rv.ext e2) o2
  exact ⟨a, ca k, dx, fs, h1, h2, h3, h4, h5, h6⟩
/-- a field is read, then the rest -/
theorem get_rel (c : Ct ca fa fd L sc X W) {D : Ends} {φ : List Addr} {st : Store} {ρ : Sl} {H : Hp} {x : V} {v : PV} {f : Str} {g : PV → Store → RS} (rs : SR X.K ca φ st H) (rx : Rv X.K φ H v x)
    (o : OutS X.K ca W φ H D (bndS (fldP L v f) ρ g st)) :
    ∃ a k dx fs u w, x = .ref a ∧ H a = some (.ins (ca k) dx fs) ∧ Cls X.K (ca k) ∧ NoAttr X.K (ca k) f ∧ clsP st v = some k ∧ fs.lookup f = some u ∧ Rv X.K φ H w u ∧ OutS X.K ca W φ H D (g w st) := by
  unfold bndS fldP at o
  cases rx with
  | @ref n a ha =>
    try dsimp only at o
    cases h1 : st[n]? with
    | none => rw [h1] at o; exact False.elim o
    | some ob =>
      rw [h1] at o
      cases ob with
      | ins k l =>
        try dsimp only at o
        cases h2 : L.T.cls[k]? with
        | none => rw [h2] at o; exact False.elim o
        | some C =>
          rw [h2] at o
          try dsimp only at o
          by_cases h3 : C.fields.contains f = true
          · rw [if_pos h3] at o
            obtain ⟨g1, g2⟩ := c.glob.fl k C f h2 h3
            obtain ⟨dx, fs, q1, q2⟩ := rs.at ha h1
            cases h4 : l.lookup f with
            | none => rw [h4] at o; exact False.elim o
            | some w =>
              rw [h4] at o
              rcases q2.lookup f with ⟨v', u, z1, z2, z3⟩ | ⟨z1, _⟩
              · rw [h4] at z1
                cases z1
                exact ⟨a, k, dx, fs, u, w, rfl, q1, g1, g2, by unfold clsP; dsimp only; rw [h1], z2, z3, o⟩
              · rw [h4] at z1
                cases z1
          · rw [if_neg h3] at o
            exact False.elim o
      | _ => exact False.elim o
  | _ => exact False.elim o
theorem ok_augA (c : Ct ca fa fd L sc X W) (hE : ∀ e, PE X e (tE X ca W (E e))) {o e : Expr} {f : Str} {q p : Pos} :
    PS X (.AugAssign (.Attribute o f q) .Add e p) (tS X ca W fun ρ s => bndS (E o ρ) ρ (fun x s => bndS (fldP L x f) ρ (fun v s => bndS (E e ρ) ρ (fun w s' => if clsP s x = clsP s' x then bndS (match v, w with
      | .int i, .int j => fldSet L x f (.int (i + j))
      | _, _ => stop) ρ (fun _ s => .ok .next ρ s) s' else .bad) s) s) s) := by
  refine psW (ps_fldaug (hE o) (hE e) in_add) fun D σ H ⟨φ, st, ρ, rs, rl, out⟩ => ?_
  refine tS_seq rs rl out fun x H1 φ1 st1 v e1 rs1 rl1 rx o1 => ?_
  obtain ⟨a, k, dx, fs, u, w, rfl, q1, g1, g2, k1, q2, ru, o2⟩ := get_rel c rs1 rx o1
  refine ⟨a, ca k, dx, fs, u, rfl, q1, g1, g2, q2, ?_⟩
  refine tS_seq rs1 rl1 o2 fun y H2 φ2 st2 z e2 rs2 rl2 ry o3 => ?_
  by_cases hk : clsP st1 v = clsP st2 v
  · rw [if_pos hk] at o3
    cases ru.ext e2 with
    | int i =>
      cases ry with
      | int j =>
        obtain ⟨a', k', dx', fs', ea, q3, g3, g4, k2, q4, fin⟩ := set_rel c rs2 rl2 (rx.ext e2) (.int (i + j)) o3
        cases ea
        rw [hk, k2] at k1
        cases k1
        exact ⟨i, j, rfl, rfl, dx', fs', q3, q4, fin⟩
      | _ => exact False.elim o3
    | _ => exact False.elim o3
  · rw [if_neg hk] at o3
    exact False.elim o3
theorem ok_augS (c : Ct ca fa fd L sc X W) (hE : ∀ e, PE X e (tE X ca W (E e))) {o e : Expr} {f : Str} {q p : Pos} :
    PS X (.AugAssign (.Attribute o f q) .Sub e p) (tS X ca W fun ρ s => bndS (E o ρ) ρ (fun x s => bndS (fldP L x f) ρ (fun v s => bndS (E e ρ) ρ (fun w s' => if clsP s x = clsP s' x then bndS (match v, w with
      | .int i, .int j => fldSet L x f (.int (i - j))
      | _, _ => stop) ρ (fun _ s => .ok .next ρ s) s' else .bad) s) s) s) := by
  refine psW (ps_fldaug (hE o) (hE e) in_sub) fun D σ H ⟨φ, st, ρ, rs, rl, out⟩ => ?_
  refine tS_seq rs rl out fun x H1 φ1 st1 v e1 rs1 rl1 rx o1 => ?_
  obtain ⟨a, k, dx, fs, u, w, rfl, q1, g1, g2, k1, q2, ru, o2⟩ := get_rel c rs1 rx o1
  refine ⟨a, ca k, dx, fs, u, rfl, q1, g1, g2, q2, ?_⟩
  refine tS_seq rs1 rl1 o2 fun y H2 φ2 st2 z e2 rs2 rl2 ry o3 => ?_
  by_cases hk : clsP st1 v = clsP st2 v
  · rw [if_pos hk] at o3
    cases ru.ext e2 with
    | int i =>
      cases ry with
      | int j =>
        obtain ⟨a', k', dx', fs', ea, q3, g3, g4, k2, q4, fin⟩ := set_rel c rs2 rl2 (rx.ext e2) (.int (i - j)) o3
        cases ea
        rw [hk, k2] at k1
        cases k1
        exact ⟨i, j, rfl, rfl, dx', fs', q3, q4, fin⟩
      | _ => exact False.elim o3
    | _ => exact False.elim o3
  · rw [if_neg hk] at o3
    exact False.elim o3
end
end Z

namespace Z
open PySem L2
section
variable {X : Cx} {ca : Nat → Addr} {W : WX} {fa : Nat → Addr} {fd : Nat → FuncData} {L : Lk} {sc : Scope} {E : EM}
/-- a tuple of names, an expression that is no written tuple -/
theorem ok_tset (c : Ct ca fa fd L sc X W) (hE : ∀ e, PE X e (tE X ca W (E e))) {ts : List Expr} {k : Nat} {q p : Pos} {e : Expr} :
    PS X (.Assign [.Tuple ts k q] e p) (tS X ca W fun ρ s => if tupB e = true then .bad else bndS (E e ρ) ρ (fun v s => match asgP L.N sc (.Tuple ts k q) v ρ with
      | some ρ' => .ok .next ρ' s
      | none => .bad) s) := by
  by_cases ht : tupB e = true
  · exact ps_no (tS_no fun ρ st => by rw [if_pos ht])
  · have hw : swappedStores [.Tuple ts k q] e X.env = pure none := by
      cases e <;> first | rfl | exact absurd rfl ht
    by_cases hc : (∃ a g s r, e = .SetComp a g s r) ∨ (∃ a b g s r, e = .DictComp a b g s r) ∨ True
    · refine psW (ps_asg (hE e) (ok_tg c (.Tuple ts k q)) (by cases e <;> rfl) hw) fun D σ H ⟨φ, st, ρ, rs, rl, o⟩ => ?_
      simp only [if_neg ht] at o
      refine tS_seq rs rl o fun y H1 φ1 st1 v e1 rs1 rl1 rv o1 => ?_
      cases ha : asgP L.N sc (.Tuple ts k q) v ρ with
      | none => rw [ha] at o1; exact False.elim o1
      | some ρ' =>
        rw [ha] at o1
        exact ⟨φ1, ρ, v, ρ', rl1, rv, ha, fun σ' rl' _ => OutS.nx o1 rs1 rl'⟩
    · exact absurd (.inr (.inr trivial)) hc
def starB : Expr → Bool := fun e => match e with
  | .Starred .. => true
  | _ => false
theorem star_any : ∀ {es : List Expr}, es.all noStar = true → es.any starB = false
  | [], _ => rfl
  | e :: r, h => by
    simp only [List.all_cons, Bool.and_eq_true] at h
    simp only [List.any_cons, star_any h.2, Bool.or_false]
    cases e <;> first | rfl | cases h.1
theorem swap_eq {ts vs : List Expr} {k k2 : Nat} {q q2 : Pos} {env : Env} : swappedStores [.Tuple ts k q] (.Tuple vs k2 q2) env =
    if (!(ts.length == 2 || ts.length == 3) || vs.length != ts.length || env.blockKind != .function) = true then pure none else
    if vs.any starB = true then pure none else
    if ((parN env.scope ts).length != ts.length || (parN env.scope ts).eraseDups.length != (parN env.scope ts).length) = true then pure none else
    if vs.all (foldedForSure 8) = true then pure none else
    if vs.all (constantsAlone 8) = true then (do unsupported "assign.tuple-of-constant-expressions:order-of-the-stores"; return some (parN env.scope ts)) else pure (some (parN env.scope ts)) := by rfl
theorem swap_yes {ts vs : List Expr} {k k2 : Nat} {q q2 : Pos} {env : Env} (hs : env.scope = sc) (hk : sc.kind = .function) (hn : (ts.length == 2 || ts.length == 3) = true) (hl : vs.length = ts.length) (hst : vs.all noStar = true) (hp : parLoc sc ts vs = true) :
    swappedStores [.Tuple ts k q] (.Tuple vs k2 q2) env = pure (some (parN sc ts)) := by
  unfold parLoc at hp
  simp only [Bool.and_eq_true, decide_eq_true_eq, Bool.not_eq_true'] at hp
  obtain ⟨h1, h2, h3, h4⟩ := hp
  have hb : env.blockKind = .function := by unfold Env.blockKind; rw [hs, hk]; rfl
  have h2' : (parN sc ts).eraseDups.length = ts.length := by simpa using h2
  rw [swap_eq, hs, hn, hl, hb, if_neg (by simp), star_any hst, if_neg (by simp), h2', h1, if_neg (by simp), h3, if_neg (by simp), h4, if_neg (by simp)]
theorem swap_no {ts vs : List Expr} {k k2 : Nat} {q q2 : Pos} {env : Env} (hs : env.scope = sc) (h : ¬(parN sc ts).length = ts.length) : swappedStores [.Tuple ts k q] (.Tuple vs k2 q2) env = pure none := by
  rw [swap_eq, hs]
  split
  · rfl
  · split
    · rfl
    · rw [if_pos]
      simp only [Bool.or_eq_true, bne_iff_ne, ne_eq]
      exact .inl h
theorem par_cons {ts : List Expr} {x : Str} {p : Pos} {l : Nat} : (Expr.Name x p :: ts).filterMap (parF sc l) = if (sc.names.lookup x == some NameKind.local && p.line == l) = true then x :: ts.filterMap (parF sc l) else ts.filterMap (parF sc l) := by
  rw [List.filterMap_cons]
  unfold parF
  by_cases h : (sc.names.lookup x == some NameKind.local && p.line == l) = true
  · simp only [if_pos h]
  · simp only [if_neg h]
theorem loc_of {x : Str} {b : Bool} (h : (sc.names.lookup x == some NameKind.local && b) = true) : sc.names.lookup x = some .local := by
  have h' := Bool.and_eq_true_iff.mp h
  simpa using h'.1
theorem par2 {x y : Str} {px py : Pos} (h : (parN sc [.Name x px, .Name y py]).length = 2) : sc.names.lookup x = some .local ∧ sc.names.lookup y = some .local ∧ parN sc [.Name x px, .Name y py] = [x, y] := by
  have e : parN sc [.Name x px, .Name y py] = ([Expr.Name x px, .Name y py]).filterMap (parF sc px.line) := rfl
  rw [e, par_cons, par_cons] at h
  rw [e, par_cons, par_cons]
  by_cases h1 : (sc.names.lookup x == some NameKind.local && px.line == px.line) = true
  · by_cases h2 : (sc.names.lookup y == some NameKind.local && py.line == px.line) = true
    · rw [if_pos h1, if_pos h2]
      exact ⟨loc_of h1, loc_of h2, rfl⟩
    · rw [if_pos h1, if_neg h2] at h
      cases h
  · rw [if_neg h1] at h
    split at h <;> cases h
theorem par3 {x y z : Str} {px py pz : Pos} (h : (parN sc [.Name x px, .Name y py, .Name z pz]).length = 3) :
    sc.names.lookup x = some .local ∧ sc.names.lookup y = some .local ∧ sc.names.lookup z = some .local ∧ parN sc [.Name x px, .Name y py, .Name z pz] = [x, y, z] := by
  have e : parN sc [.Name x px, .Name y py, .Name z pz] = ([Expr.Name x px, .Name y py, .Name z pz]).filterMap (parF sc px.line) := rfl
  rw [e, par_cons, par_cons, par_cons] at h
  rw [e, par_cons, par_cons, par_cons]
  by_cases h1 : (sc.names.lookup x == some NameKind.local && px.line == px.line) = true
  · by_cases h2 : (sc.names.lookup y == some NameKind.local && py.line == px.line) = true
    · by_cases h3 : (sc.names.lookup z == some NameKind.local && pz.line == px.line) = true
      · rw [if_pos h1, if_pos h2, if_pos h3]
        exact ⟨loc_of h1, loc_of h2, loc_of h3, rfl⟩
      · rw [if_pos h1, if_pos h2, if_neg h3] at h
        cases h
    · rw [if_pos h1, if_neg h2] at h
      split at h <;> cases h
  · rw [if_neg h1] at h
    split at h <;> (try split at h) <;> cases h
theorem dup2 {x y : Str} (h : ([x, y].eraseDups.length == 2) = true) : x ≠ y := by
  rintro rfl
  simp [List.eraseDups_cons] at h
theorem dup3 {x y z : Str} (h : ([x, y, z].eraseDups.length == 3) = true) : x ≠ y ∧ x ≠ z ∧ y ≠ z := by
  refine ⟨?_, ?_, ?_⟩
  · rintro rfl
    by_cases e : z = x <;> simp [List.eraseDups_cons, e] at h
  · rintro rfl
    by_cases e : y = x <;> simp [List.eraseDups_cons, e] at h
  · rintro rfl
    by_cases e : y = x <;> simp [List.eraseDups_cons, e] at h
theorem slot_ne {N : List Str} {x y : Str} {i j : Nat} (hi : slotOf N x = some i) (hj : slotOf N y = some j) (h : x ≠ y) : i ≠ j := by
  rintro rfl
  have a := slotOf_get hi
  rw [slotOf_get hj] at a
  exact h (Option.some.inj a).symm
theorem evs_len : ∀ {es : List Expr} {ρ : Sl} {st st' : Store} {vs : List PV}, evEs E es ρ st = .ok vs st' → vs.length = es.length
  | [], _, _, _, _, h => by cases h; rfl
  | e :: r, ρ, st, st', vs, h => by
    unfold evEs bnd at h
    cases h1 : E e ρ st with
    | bad => rw [h1] at h; cases h
    | exc k fs s => rw [h1] at h; cases h
    | ok v s1 =>
      rw [h1] at h
      try dsimp only at h
      cases h2 : evEs E r ρ s1 with
      | bad => rw [h2] at h; cases h
      | exc k fs s => rw [h2] at h; cases h
      | ok vs2 s2 =>
        rw [h2] at h
        cases h
        simp [evs_len h2]
theorem tg_inv {N : List Str} {x : Str} {p : Pos} {r : List Expr} (h : tgOk N sc (.Name x p :: r) = true) : locB sc x = true ∧ (∃ i, slotOf N x = some i) ∧ tgOk N sc r = true := by
  unfold tgOk at h
  simp only [List.all_cons, Bool.and_eq_true] at h
  exact ⟨h.1.1, Option.isSome_iff_exists.mp h.1.2, h.2⟩
theorem ok_par (c : CtS ca fa fd L sc X W) (hE : ∀ e, PE X e (tE X ca W (E e))) {x y : Str} {px py q q2 p : Pos} {k k2 : Nat} {a b : Expr} :
    PS X (.Assign [.Tuple [.Name x px, .Name y py] k q] (.Tuple [a, b] k2 q2) p) (tS X ca W fun ρ s =>
      if (parOk sc [.Name x px, .Name y py] [a, b] && tgOk L.N sc [.Name x px, .Name y py]) = true then bndS (evEs E [a, b] ρ) ρ (fun vs s => match asgP L.N sc (.Tuple [.Name x px, .Name y py] k q) (.tup vs) ρ with
        | some ρ' => .ok .next ρ' s
        | none => .bad) s
      else .bad) := by
  by_cases hp : (parOk sc [.Name x px, .Name y py] [a, b] && tgOk L.N sc [.Name x px, .Name y py]) = true
  · obtain ⟨hp', hg⟩ := Bool.and_eq_true_iff.mp hp
    obtain ⟨b1, ⟨i, hi⟩, hg⟩ := tg_inv hg
    obtain ⟨b2, ⟨j, hj⟩, _⟩ := tg_inv hg
    unfold parOk at hp'
    obtain ⟨hst, hp2⟩ := Bool.and_eq_true_iff.mp hp'
    have asg : ∀ {v w : PV} {ρ : Sl}, asgP L.N sc (.Tuple [.Name x px, .Name y py] k q) (.tup [v, w]) ρ = some ((ρ.set i (some v)).set j (some w)) := fun {v w ρ} => by
      have hb : (locB sc x && locB sc y) = true := by rw [b1, b2]; rfl
      exact asgP_two hb hi hj
    rcases Bool.or_eq_true_iff.mp hp2 with hl | hl
    · have hsw := swap_yes (k := k) (q := q) (k2 := k2) (q2 := q2) c.sceq c.fkind (by rfl) (by rfl) hst hl
      have hl' := hl
      unfold parLoc at hl'
      simp only [Bool.and_eq_true, decide_eq_true_eq] at hl'
      obtain ⟨l1, l2, l4⟩ := par2 hl'.1
      have hd := hl'.2.1
      rw [l4] at hd hsw
      have hne := dup2 hd
      refine psW (ps_par c.calm (by rw [c.N]; exact c.nd) (by rw [c.N]; exact slotOf_get hi) (by rw [c.N]; exact slotOf_get hj) (slot_ne hi hj hne) (by rw [c.sceq]; exact l1) (by rw [c.sceq]; exact l2) (ok_evs hE [a, b] hst) hsw) fun D σ H ⟨φ, st, ρ, rs, rl, o⟩ => ?_
      simp only [if_pos hp] at o
      refine tS_seq rs rl o fun xs H1 φ1 st1 vs e1 rs1 rl1 rv o1 => ?_
      match vs, rv, o1 with
      | [v, w], rv, o1 =>
        obtain ⟨y1, y2, rfl, r1, r2⟩ := RvL.two_inv rv
        rw [asg] at o1
        exact ⟨y1, y2, rfl, OutS.nx o1 rs1 ((rl1.set i r1).set j r2)⟩
      | [], _, o1 => (rw [asgP_len (by simp only [List.length_cons, List.length_nil]; omega)] at o1; exact False.elim o1)
      | [_], _, o1 => (rw [asgP_len (by simp only [List.length_cons, List.length_nil]; omega)] at o1; exact False.elim o1)
      | _ :: _ :: _ :: _, _, o1 => (rw [asgP_len (by simp only [List.length_cons, List.length_nil]; omega)] at o1; exact False.elim o1)
    · have hl2 : ¬(parN sc [.Name x px, .Name y py]).length = ([.Name x px, .Name y py] : List Expr).length := by simpa using hl
      refine psW (ps_asg (ok_tup hE) (ok_tg c.toCt (.Tuple [.Name x px, .Name y py] k q)) (by rfl) (swap_no c.sceq hl2)) fun D σ H ⟨φ, st, ρ, rs, rl, o⟩ => ?_
      simp only [if_pos hp] at o
      refine tS_seq (W := W) (D := D) (st := st) (m := fun ρ => bnd (argsP E [a, b] ρ) fun vs => if vs.length ≤ sizeLine then ret (.tup vs) else stop) (f := fun v s => match asgP L.N sc (.Tuple [.Name x px, .Name y py] k q) v ρ with
        | some ρ' => .ok .next ρ' s
        | none => .bad) rs rl ?_ fun z H1 φ1 st1 v e1 rs1 rl1 rv o1 => ?_
      · unfold bndS bnd argsP at *
        rw [if_pos hst]
        cases hz : evEs E [a, b] ρ st with
        | bad => rw [hz] at o; exact o
        | exc kk fs s1 => rw [hz] at o; exact o
        | ok vs s1 =>
          rw [hz] at o
          have hlen := evs_len hz
          try dsimp only
          rw [if_pos (by rw [hlen]; show 2 ≤ sizeLine; decide)]
          exact o
      · cases ha : asgP L.N sc (.Tuple [.Name x px, .Name y py] k q) v ρ with
        | none => rw [ha] at o1; exact False.elim o1
        | some ρ' =>
          rw [ha] at o1
          exact ⟨φ1, ρ, v, ρ', rl1, rv, ha, fun σ' rl' _ => OutS.nx o1 rs1 rl'⟩
  · exact ps_no (tS_no fun ρ st => by rw [if_neg hp])
theorem ok_par3 (c : CtS ca fa fd L sc X W) (hE : ∀ e, PE X e (tE X ca W (E e))) {x y z : Str} {px py pz q q2 p : Pos} {k k2 : Nat} {a b d : Expr} :
    PS X (.Assign [.Tuple [.Name x px, .Name y py, .Name z pz] k q] (.Tuple [a, b, d] k2 q2) p) (tS X ca W fun ρ s =>
      if (parOk sc [.Name x px, .Name y py, .Name z pz] [a, b, d] && tgOk L.N sc [.Name x px, .Name y py, .Name z pz]) = true then bndS (evEs E [a, b, d] ρ) ρ (fun vs s => match asgP L.N sc (.Tuple [.Name x px, .Name y py, .Name z pz] k q) (.tup vs) ρ with
        | some ρ' => .ok .next ρ' s
        | none => .bad) s
      else .bad) := by
  by_cases hp : (parOk sc [.Name x px, .Name y py, .Name z pz] [a, b, d] && tgOk L.N sc [.Name x px, .Name y py, .Name z pz]) = true
  · obtain ⟨hp', hg⟩ := Bool.and_eq_true_iff.mp hp
    obtain ⟨b1, ⟨i, hi⟩, hg⟩ := tg_inv hg
    obtain ⟨b2, ⟨j, hj⟩, hg⟩ := tg_inv hg
    obtain ⟨b3, ⟨m, hm⟩, _⟩ := tg_inv hg
    unfold parOk at hp'
    obtain ⟨hst, hp2⟩ := Bool.and_eq_true_iff.mp hp'
    have asg : ∀ {v w u : PV} {ρ : Sl}, asgP L.N sc (.Tuple [.Name x px, .Name y py, .Name z pz] k q) (.tup [v, w, u]) ρ = some (((ρ.set i (some v)).set j (some w)).set m (some u)) := fun {v w u ρ} => by
      have hb : (locB sc x && locB sc y && locB sc z) = true := by rw [b1, b2, b3]; rfl
      exact asgP_three hb hi hj hm
    rcases Bool.or_eq_true_iff.mp hp2 with hl | hl
    · have hsw := swap_yes (k := k) (q := q) (k2 := k2) (q2 := q2) c.sceq c.fkind (by rfl) (by rfl) hst hl
      have hl' := hl
      unfold parLoc at hl'
      simp only [Bool.and_eq_true, decide_eq_true_eq] at hl'
      obtain ⟨l1, l2, l3, l4⟩ := par3 hl'.1
      have hd := hl'.2.1
      rw [l4] at hd hsw
      obtain ⟨n1, n2, n3⟩ := dup3 hd
      refine psW (ps_par3 c.calm (by rw [c.N]; exact c.nd) (by rw [c.N]; exact slotOf_get hi) (by rw [c.N]; exact slotOf_get hj) (by rw [c.N]; exact slotOf_get hm) (slot_ne hi hj n1) (slot_ne hi hm n2) (slot_ne hj hm n3) (by rw [c.sceq]; exact l1) (by rw [c.sceq]; exact l2) (by rw [c.sceq]; exact l3) (ok_evs hE [a, b, d] hst) hsw) fun D σ H ⟨φ, st, ρ, rs, rl, o⟩ => ?_
      simp only [if_pos hp] at o
      refine tS_seq rs rl o fun xs H1 φ1 st1 vs e1 rs1 rl1 rv o1 => ?_
      match vs, rv, o1 with
      | [v, w, u], .cons r1 rv, o1 =>
        obtain ⟨y2, y3, rfl, r2, r3⟩ := RvL.two_inv rv
        rw [asg] at o1
        exact ⟨_, y2, y3, rfl, OutS.nx o1 rs1 (((rl1.set i r1).set j r2).set m r3)⟩
      | [], _, o1 => (rw [asgP_len (by simp only [List.length_cons, List.length_nil]; omega)] at o1; exact False.elim o1)
      | [_], _, o1 => (rw [asgP_len (by simp only [List.length_cons, List.length_nil]; omega)] at o1; exact False.elim o1)
      | [_, _], _, o1 => (rw [asgP_len (by simp only [List.length_cons, List.length_nil]; omega)] at o1; exact False.elim o1)
      | _ :: _ :: _ :: _ :: _, _, o1 => (rw [asgP_len (by simp only [List.length_cons, List.length_nil]; omega)] at o1; exact False.elim o1)
    · have hl2 : ¬(parN sc [.Name x px, .Name y py, .Name z pz]).length = ([.Name x px, .Name y py, .Name z pz] : List Expr).length := by simpa using hl
      refine psW (ps_asg (ok_tup hE) (ok_tg c.toCt (.Tuple [.Name x px, .Name y py, .Name z pz] k q)) (by rfl) (swap_no c.sceq hl2)) fun D σ H ⟨φ, st, ρ, rs, rl, o⟩ => ?_
      simp only [if_pos hp] at o
      refine tS_seq (W := W) (D := D) (st := st) (m := fun ρ => bnd (argsP E [a, b, d] ρ) fun vs => if vs.length ≤ sizeLine then ret (.tup vs) else stop) (f := fun v s => match asgP L.N sc (.Tuple [.Name x px, .Name y py, .Name z pz] k q) v ρ with
        | some ρ' => .ok .next ρ' s
        | none => .bad) rs rl ?_ fun z' H1 φ1 st1 v e1 rs1 rl1 rv o1 => ?_
      · unfold bndS bnd argsP at *
        rw [if_pos hst]
        cases hz : evEs E [a, b, d] ρ st with
        | bad => rw [hz] at o; exact o
        | exc kk fs s1 => rw [hz] at o; exact o
        | ok vs s1 =>
          rw [hz] at o
          have hlen := evs_len hz
          try dsimp only
          rw [if_pos (by rw [hlen]; show 3 ≤ sizeLine; decide)]
          exact o
      · cases ha : asgP L.N sc (.Tuple [.Name x px, .Name y py, .Name z pz] k q) v ρ with
        | none => rw [ha] at o1; exact False.elim o1
        | some ρ' =>
          rw [ha] at o1
          exact ⟨φ1, ρ, v, ρ', rl1, rv, ha, fun σ' rl' _ => OutS.nx o1 rs1 rl'⟩
  · exact ps_no (tS_no fun ρ st => by rw [if_neg hp])

theorem RvL.zip {φ : List Addr} {H : Hp} {f : Str} {v : PV} : ∀ {fl : List Str} {vs : List PV} {xs : List V}, RvL X.K φ H vs xs → (fl.zip vs).lookup f = some v → ∃ x, (fl.zip xs).lookup f = some x ∧ Rv X.K φ H v x
  | [], _, _, _, h => by cases h
  | _ :: _, _, _, .nil, h => by cases h
  | g :: fl, _, _, .cons r t, h => by
    simp only [List.zip_cons_cons, List.lookup_cons] at h ⊢
    cases hb : f == g with
    | true => rw [hb] at h; cases h; exact ⟨_, rfl, r⟩
    | false => rw [hb] at h; exact RvL.zip t h
theorem ok_raise (c : CtS ca fa fd L sc X W) (hE : ∀ e, PE X e (tE X ca W (E e))) {e : Expr} {p : Pos} : PS X (.Raise (some e) none p) (tS X ca W (excP L E sc e)) := by
  unfold excP
  split
  · rename_i x px as pos
    by_cases hg : globB sc x = true
    · cases hl : L.T.glob.lookup x with
      | none => exact ps_no (tS_no fun ρ st => by simp only [if_pos hg])
      | some g =>
        cases g with
        | cls k =>
          cases he : (L.T.cls[k]?).bind (·.exc) with
          | none => exact ps_no (tS_no fun ρ st => by simp only [if_pos hg, he])
          | some ex =>
            cases ex with
            | none =>
              match as with
              | [.Constant (.str m) j p2] =>
                refine psW (ps_raise c.calm c.takes (c.mk1 X.pn X.xe x k m j px p2 pos hl he hg)) fun D σ H ⟨φ, st, ρ, rs, rl, o⟩ => ?_
                simp only [if_pos hg, he] at o
                exact o φ H σ none .refl rs rl fun f v h => by cases h
              | [] => exact ps_no (tS_no fun ρ st => by simp only [if_pos hg, he])
              | a :: b :: r => exact ps_no (tS_no fun ρ st => by simp only [if_pos hg, he])
              | [a] =>
                by_cases hc : ∃ m j p2, a = .Constant (.str m) j p2
                · obtain ⟨m, j, p2, rfl⟩ := hc
                  refine psW (ps_raise c.calm c.takes (c.mk1 X.pn X.xe x k m j px p2 pos hl he hg)) fun D σ H ⟨φ, st, ρ, rs, rl, o⟩ => ?_
                  simp only [if_pos hg, he] at o
                  exact o φ H σ none .refl rs rl fun f v h => by cases h
                · exact ps_no (tS_no fun ρ st => by
                    simp only [if_pos hg, he]
                    split
                    · rename_i m j p2 e2
                      exact absurd ⟨m, j, p2, (List.cons.inj e2).1⟩ hc
                    · rfl)
            | some fl =>
              cases as with
              | nil => exact ps_no (tS_no fun ρ st => by simp only [if_pos hg, he]; rfl)
              | cons a r =>
                by_cases hs : (a :: r).all noStar = true
                · refine psW (ps_raise c.calm c.takes (c.mk2 X.pn X.xe x k fl a r _ px pos hl he hg hs (ok_args hE (a :: r)))) fun D σ H ⟨φ, st, ρ, rs, rl, o⟩ => ?_
                  simp only [if_pos hg, he] at o
                  refine tS_seq (m := argsP E (a :: r)) rs rl o fun xs H1 φ1 st1 vs e1 rs1 rl1 rv o1 => ?_
                  by_cases hz : vs.length = fl.length ∧ fl.length ≤ 5
                  · rw [if_pos hz] at o1
                    refine ⟨by rw [← rv.len]; exact hz.1, fun d us hd hu => ?_⟩
                    have ex : Ext φ1 H1 φ1 (upd H1 d (.xd us)) := ext_new hd
                    refine o1 φ1 _ σ (some d) ex (rs1.new hd) (rl1.ext ex) fun f v hv => ?_
                    obtain ⟨z, z1, z2⟩ := RvL.zip (X := X) rv hv
                    exact ⟨d, us, z, rfl, upd_same, hu f z z1, z2.ext ex⟩
                  · rw [if_neg hz] at o1
                    exact False.elim o1
                · exact ps_no (tS_no fun ρ st => by
                    simp only [if_pos hg, he]
                    show bndS (argsP E (a :: r) ρ) _ _ _ = _
                    rw [all_star hs] <;> rfl)
        | fn k => exact ps_no (tS_no fun ρ st => by simp only [if_pos hg])
        | cst k => exact ps_no (tS_no fun ρ st => by simp only [if_pos hg])
    · exact ps_no (tS_no fun ρ st => by rw [if_neg hg])
  · exact ps_no (tS_no fun _ _ => rfl)
end
end Z

namespace Z
open PySem L2
section
variable {X : Cx} {ca : Nat → Addr} {W : WX} {fa : Nat → Addr} {fd : Nat → FuncData} {L : Lk} {sc : Scope} {E : EM}
/-- within a try's body -/
theorem CtS.tr (c : CtS ca fa fd L sc X W) {W' : WX} (pn : List (Addr × Obj)) (xe : Value → Shared → Prop) (tk : Takes (X.tr pn xe) W') (hp : PassesOwn (model X.prog X.w) X.A X.env xe) : CtS ca fa fd L sc (X.tr pn xe) W' where
  N := c.N
  nd := c.nd
  nb := c.nb
  calm := c.calm
  takes := tk
  room := c.room
  un := c.un
  vis := c.vis
  loc := c.loc
  gl := c.gl
  blkf := c.blkf
  glob := c.glob
  sceq := c.sceq
  fkind := c.fkind
  passes := hp
  stk := c.stk
  frm := c.frm
  mk1 := c.mk1
  mk2 := c.mk2
  sub := c.sub
  xf := c.xf
/-- an except's suite: its reading -/
def tSui (X : Cx) (ca : Nat → Addr) (L : Lk) (nm : Option (Str × Nat)) (suite : List Stmt) (a : Addr) (cls : Value) (d : Option Addr) : TS := fun D σ H =>
  match suite with
  | [.Return (some (.Constant .none _ _)) _] => D.rt .non H
  | [.Return (some (.Constant (.bool b) _ _)) _] => D.rt (.bl b) H
  | [.Return (some (.Attribute (.Name x _) f _)) _] => ∃ y i k fl, nm = some (y, i) ∧ x = y ∧ excF L.T k = some fl ∧ fl.contains f = true ∧ tRet (tXf a cls d (ca k) f (tVar i)) D σ H
  | [.Pass _] => D.nx σ H
  | _ => False
theorem ok_sui (c : CtS ca fa fd L sc X W) {nm : Option (Str × Nat)} (hnm : ∀ y i, nm = some (y, i) → L.N[i]? = some y ∧ visB sc y = true) {suite : List Stmt} {a : Addr} {oe : Obj} {cls : Value} {d : Option Addr} {pn : List (Addr × Obj)} (hz : Zc cls d oe) (hf : ∃ vs, oe.data = .fields vs) :
    PSs (X.suite a ((a, oe) :: pn)) suite (tSui X ca L nm suite a cls d) := by
  unfold tSui
  split
  · exact pss_one (ps_ret pe_non)
  · exact pss_one (ps_ret pe_bl)
  · rename_i x px f pf pr
    refine ⟨fun pins s σ H D I ⟨y, i, k, fl, e1, e2, e3, e4, q⟩ => ?_⟩
    subst e2
    obtain ⟨h1, h2⟩ := hnm x i e1
    obtain ⟨n1, n2⟩ := c.nb x (List.mem_of_getElem? h1)
    obtain ⟨g1, g2⟩ := c.xf k fl f e3 e4
    have hv : PE (X.suite a ((a, oe) :: pn)) (.Name x px) (tVar i) := pe_var (by show X.N[i]? = _; rw [c.N]; exact h1) (c.vis x h2) n1 n2
    exact (pss_one (ps_ret (pe_xf g1 g2 hz hf hv (by rfl)))).run pins s σ H D I q
  · exact pss_one ps_pass
  · exact ⟨fun _ _ _ _ _ _ q => q.elim⟩
def goneS (nm : Option (Str × Nat)) (σ : St) : St :=
  match nm with
  | some (_, i) => σ.set i none
  | none => σ
/-- what a suite's reading wants, from the machine's answer -/
theorem sui_read {nm : Option (Str × Nat)} {nm' : Option Str} (hn : nm' = nm.map (·.1)) {suite : List Stmt} {a : Addr} {k : Nat} {d : Option Addr} {fl : List Str} {fs : List (Str × PV)} {r : Fl} {φ : List Addr} {st : Store} {ρ ρ1 : Sl} {σ1 : St} {H : Hp} {D D1 : Ends}
    (hk : excF L.T k = some fl) (hs : suiP nm' fl fs suite = some r) (rs : SR X.K ca φ st H) (rl : RL X.K φ H ρ1 σ1) (rx : Rx X.K φ H fs d) (o : OutS X.K ca W φ H D (.ok r ρ st))
    (hnx : ∀ σ' H', D1.nx σ' H' = D.nx (goneS nm σ') H') (hrt : D1.rt = D.rt) (hρ : ∀ y i, nm = some (y, i) → σ1[i]? = some (some (.ref a))) (hrl : RL X.K φ H ρ (goneS nm σ1)) :
    tSui X ca L nm suite a (.ref (ca k)) d D1 σ1 H := by
  unfold suiP at hs
  unfold tSui
  split at hs
  · cases hs
    rw [hrt]
    exact o φ H .non .refl rs .non
  · cases hs
    rw [hrt]
    exact o φ H _ .refl rs (.bl _)
  · rename_i x px f pf pr
    by_cases hc : nm' = some x ∧ fl.contains f = true
    · rw [if_pos hc] at hs
      cases hl : fs.lookup f with
      | none => rw [hl] at hs; cases hs
      | some v =>
        rw [hl] at hs
        cases hs
        cases nm with
        | none => rw [hn] at hc; cases hc.1
        | some p =>
          obtain ⟨y, i⟩ := p
          rw [hn] at hc
          obtain ⟨dd, us, z, e1, e2, e3, e4⟩ := rx f v hl
          refine ⟨y, i, k, fl, rfl, (Option.some.inj hc.1).symm, hk, hc.2, ?_⟩
          refine ⟨.ref a, hρ y i rfl, rfl, rfl, dd, us, z, e1, e2, e3, ?_⟩
          rw [hrt]
          exact o φ H z .refl rs e4
    · rw [if_neg hc] at hs
      cases hs
  · cases hs
    rw [hnx]
    exact o φ H _ .refl rs hrl
  · cases hs
theorem ok_try (c : CtS ca fa fd L sc X W) {S : Stmt → SM} (hS : ∀ (W' : WX) (pn : List (Addr × Obj)) (xe : Value → Shared → Prop), CtS ca fa fd L sc (X.tr pn xe) W' → ∀ s, PS (X.tr pn xe) s (tS (X.tr pn xe) ca W' (S s)))
    {b suite : List Stmt} {s0 : Stmt} {x : Str} {nm : Option Str} {p p2 p3 : Pos} :
    PS X (.Try b [.ExceptHandler (some (.Name x p)) nm (s0 :: suite) p2] [] [] p3) (tS X ca W fun ρ s =>
      if (globB sc x && nmOk L.N sc nm) = true then match L.T.glob.lookup x with
        | some (.cls c') => match blk S b ρ s with
          | .exc c fs ρ' s' => match excF L.T c, excF L.T c' with
            | some fl, some _ => if L.T.sub c c' = true then match suiP nm fl fs (s0 :: suite) with
                | some r => goneP L.N nm r ρ' s'
                | none => .bad
              else .exc c fs ρ' s'
            | _, _ => .bad
          | o => o
        | _ => .bad
      else .bad) := by
  by_cases hg : (globB sc x && nmOk L.N sc nm) = true
  · obtain ⟨hgx, hnm⟩ := Bool.and_eq_true_iff.mp hg
    obtain ⟨gl, gd⟩ := c.gl x hgx
    cases hl : L.T.glob.lookup x with
    | none => exact ps_no (tS_no fun ρ st => by rw [if_pos hg])
    | some g =>
      cases g with
      | cls k' =>
        have names : Names X x (.ref (ca k')) := ⟨gl, gd, .inl (c.glob.cls x k' hl)⟩
        have body : ∀ (W' : WX) (pn : List (Addr × Obj)) (xe : Value → Shared → Prop), Takes (X.tr pn xe) W' → PassesOwn (model X.prog X.w) X.A X.env xe → PSs (X.tr pn xe) b (tS X ca W' (blk S b)) := fun W' pn xe tk hp =>
          ok_blk (X := X.tr pn xe) (hS W' pn xe (c.tr pn xe tk hp)) b
        cases nm with
        | none =>
          refine psW (ps_try_only (ts := tSui X ca L none (s0 :: suite)) c.stk c.frm names c.takes body fun a oe cls d pn hz hf => ok_sui c (fun y i e => by cases e) hz hf) fun D σ H ⟨φ, st, ρ, rs, rl, o⟩ => ?_
          simp only [if_pos hg] at o
          refine ⟨φ, st, ρ, rs, rl, ?_⟩
          cases hz : blk S b ρ st with
          | bad => rw [hz] at o; exact o
          | ok f ρ1 s1 => rw [hz] at o; cases f <;> exact o
          | exc k fs ρ1 s1 =>
            rw [hz] at o
            intro φ1 H1 σ1 d e1 rs1 rl1 rx
            try dsimp only at o
            cases h1 : excF L.T k with
            | none => rw [h1] at o; exact False.elim o
            | some fl =>
              cases h2 : excF L.T k' with
              | none => rw [h1, h2] at o; exact False.elim o
              | some fl' =>
                rw [h1, h2] at o
                try dsimp only at o
                refine ⟨L.T.sub k k', c.sub k k' (by rw [h1]; rfl) (by rw [h2]; rfl), fun hb a ha => ?_, fun hb => ?_⟩
                · rw [if_pos hb] at o
                  cases h3 : suiP none fl fs (s0 :: suite) with
                  | none => rw [h3] at o; exact False.elim o
                  | some r =>
                    rw [h3] at o
                    exact sui_read (W := W) (nm := none) rfl h1 h3 rs1 rl1 rx (OutS.base e1 o) (fun _ _ => rfl) rfl (fun y i e => by cases e) rl1
                · rw [if_neg (by rw [hb]; decide)] at o
                  exact o φ1 H1 σ1 d e1 rs1 rl1 rx
        | some y =>
          unfold nmOk at hnm
          obtain ⟨n1, n2⟩ := Bool.and_eq_true_iff.mp hnm
          have n1' : sc.names.lookup y = some .local := by simpa using n1
          obtain ⟨i, hi⟩ := Option.isSome_iff_exists.mp n2
          have hN := slotOf_get hi
          refine psW (ps_try_as (ts := tSui X ca L (some (y, i)) (s0 :: suite)) c.stk c.frm (by rw [c.N]; exact c.nd) (by rw [c.N]; exact hN) (by show X.env.scope.names.lookup y = _; rw [c.sceq]; exact n1') names c.takes body
            fun a oe cls d pn hz hf => ok_sui c (fun y' i' e => by cases e; exact ⟨hN, by unfold visB; rw [n1']⟩) hz hf) fun D σ H ⟨φ, st, ρ, rs, rl, o⟩ => ?_
          simp only [if_pos hg] at o
          refine ⟨φ, st, ρ, rs, rl, ?_⟩
          cases hz : blk S b ρ st with
          | bad => rw [hz] at o; exact o
          | ok f ρ1 s1 => rw [hz] at o; cases f <;> exact o
          | exc k fs ρ1 s1 =>
            rw [hz] at o
            intro φ1 H1 σ1 d e1 rs1 rl1 rx
            try dsimp only at o
            cases h1 : excF L.T k with
            | none => rw [h1] at o; exact False.elim o
            | some fl =>
              cases h2 : excF L.T k' with
              | none => rw [h1, h2] at o; exact False.elim o
              | some fl' =>
                rw [h1, h2] at o
                try dsimp only at o
                refine ⟨L.T.sub k k', c.sub k k' (by rw [h1]; rfl) (by rw [h2]; rfl), fun hb a ha => ?_, fun hb => ?_⟩
                · rw [if_pos hb] at o
                  cases h3 : suiP (some y) fl fs (s0 :: suite) with
                  | none => rw [h3] at o; exact False.elim o
                  | some r =>
                    rw [h3] at o
                    simp only [goneP, hi] at o
                    by_cases hlt : i < ρ1.length
                    · rw [if_pos hlt] at o
                      have hs : i < σ1.length := by rw [← rl1.1]; exact hlt
                      refine sui_read (W := W) (D := D) (nm := some (y, i)) rfl h1 h3 rs1 (ρ1 := ρ1.set i none) (rl1.del i) rx (OutS.base e1 o) (fun _ _ => rfl) rfl (fun y' i' e => by cases e; exact List.getElem?_set_self hs) ?_
                      show RL X.K φ1 H1 (ρ1.set i none) ((σ1.set i (some (.ref a))).set i none)
                      rw [List.set_set]
                      exact rl1.del i
                    · rw [if_neg hlt] at o
                      exact False.elim o
                · rw [if_neg (by rw [hb]; decide)] at o
                  exact o φ1 H1 σ1 d e1 rs1 rl1 rx
      | fn k => exact ps_no (tS_no fun ρ st => by simp only [if_pos hg])
      | cst k => exact ps_no (tS_no fun ρ st => by simp only [if_pos hg])
  · exact ps_no (tS_no fun ρ st => by rw [if_neg hg])
theorem ok_tasg (c : CtS ca fa fd L sc X W) (hE : ∀ e, PE X e (tE X ca W (E e))) {ts : List Expr} {k : Nat} {q p : Pos} {e : Expr} :
    PS X (.Assign [.Tuple ts k q] e p) (tS X ca W fun ρ s => match parOf ts e with
      | some es => if (parOk sc ts es && tgOk L.N sc ts) = true then bndS (evEs E es ρ) ρ (fun vs s => match asgP L.N sc (.Tuple ts k q) (.tup vs) ρ with
          | some ρ' => .ok .next ρ' s
          | none => .bad) s
        else .bad
      | none => if tupB e = true then .bad else bndS (E e ρ) ρ (fun v s => match asgP L.N sc (.Tuple ts k q) v ρ with
        | some ρ' => .ok .next ρ' s
        | none => .bad) s) := by
  cases h : parOf ts e with
  | none => exact ok_tset c.toCt hE
  | some es =>
    unfold parOf at h
    split at h
    · cases h
      exact ok_par c hE
    · cases h
      exact ok_par3 c hE
    · cases h
/-- every statement is read as the machine runs it -/
theorem ok_evS : ∀ (n : Nat) (X : Cx) (W : WX), CtS ca fa fd L sc X W → ∀ s, PS X s (tS X ca W (evS L sc n s))
  | 0, X, W, c, s => ps_no (tS_no fun _ _ => rfl)
  | n + 1, X, W, c, s => by
    have hS := ok_evS n X W c
    have hE := ok_evE (ca := ca) (fa := fa) (fd := fd) (L := L) 40 X sc W c.toCt
    unfold evS
    split
    · exact ok_pass
    · exact ok_brk
    · exact ok_cont
    · exact ok_expr hE
    · exact ok_retN
    · exact ok_ret hE
    · exact ok_set c
    · exact ok_sub c.toCt hE
    · exact ok_fset c.toCt hE
    · exact ok_tasg c hE
    · exact ok_augA c.toCt hE
    · exact ok_augS c.toCt hE
    · exact ok_if c.toCt hE hS
    · exact ok_while c hE hS
    · exact ok_for c hE hS
    · exact ok_raise c hE
    · exact ok_try c fun W' pn xe cc s => ok_evS n (X.tr pn xe) W' cc s
    · exact ps_no (tS_no fun _ _ => rfl)
end
end Z

namespace Z
open PySem L2
/-- a def of the text -/
structure DefOk (K : PySem.W.Frag) (F : FnI) (f : Addr) (fd : FuncData) : Prop where
  fn : ∃ x qual st, Fun K x qual st f fd ∧ F.body = defBody st ∧ F.sc = defScope st
  S : FnScope F.N F.ps F.sc
  nb : ∀ x ∈ F.N, (x == ("__debug__" : Str)) = false ∧ (x == ("__classdict__" : Str)) = false
  b : Binds K fd F.ps []
/-- what the module's written part says -/
structure ModOk (T : Tab) (P : Program) (w : World) (K : PySem.W.Frag) (mg : Str → Option Value) (base : Heap) (ca fa : Nat → Addr) (fd : Nat → FuncData) : Prop where
  glob : GlobOk T K mg ca fa fd
  defs : ∀ i F, T.fns[i]? = some F → DefOk K F (fa i) (fd i)
  mk1 : ∀ (X : Cx) x c m j p p2 pos, X.prog = P → X.w = w → X.K = K → X.mg = mg → T.glob.lookup x = some (.cls c) → (T.cls[c]?).bind (·.exc) = some none → Gl X x → (x == ("__debug__" : Str)) = false →
    PMk X (.Call (.Name x p) [.Constant (.str m) j p2] [] pos) (fun _ H Q => Q (.ref (ca c)) none H)
  mk2 : ∀ (X : Cx) x c fl e es t p pos, X.prog = P → X.w = w → X.K = K → X.mg = mg → Room 1 X.A → T.glob.lookup x = some (.cls c) → (T.cls[c]?).bind (·.exc) = some (some fl) → Gl X x → (x == ("__debug__" : Str)) = false →
    (e :: es).all noStar = true → PA X (e :: es) t → PMk X (.Call (.Name x p) (e :: es) [] pos) (tMk2 (ca c) fl t)
  sub : ∀ c c', (excF T c).isSome = true → (excF T c').isSome = true → PySem.W.exmOne K (.ref (ca c)) (.ref (ca c')) = some (T.sub c c')
  xf : ∀ c fl f, excF T c = some fl → fl.contains f = true → XfC K (ca c) ∧ PySem.W.findIn K (.ref (ca c)) f = some none

theorem start_get {α : Type} {N : List Str} {vs : List α} {i : Nat} {v : α} (h : (vs.map some ++ List.replicate (N.length - vs.length) none)[i]? = some (some v)) : vs[i]? = some v := by
  by_cases hi : i < vs.length
  · rw [List.getElem?_append_left (by simpa using hi), List.getElem?_map] at h
    cases e : vs[i]? with
    | none => rw [e] at h; cases h
    | some a => rw [e] at h; cases h; rfl
  · rw [List.getElem?_append_right (by simpa using hi), List.getElem?_replicate] at h
    split at h <;> cases h
theorem start_put {α : Type} {N : List Str} {vs : List α} {i : Nat} {v : α} (h : vs[i]? = some v) : (vs.map some ++ List.replicate (N.length - vs.length) none)[i]? = some (some v) := by
  have hi : i < vs.length := (List.getElem?_eq_some_iff.mp h).1
  rw [List.getElem?_append_left (by simpa using hi), List.getElem?_map, h]
  rfl
theorem RL.start {K : PySem.W.Frag} {φ : List Addr} {H : Hp} {N : List Str} {vs : List PV} {xs : List V} (r : RvL K φ H vs xs) : RL K φ H (Z.start N vs) (L2.start N xs) := by
  refine ⟨?_, fun i v h => ?_⟩
  · show (vs.map some ++ List.replicate (N.length - vs.length) none).length = (xs.map some ++ List.replicate (N.length - xs.length) none).length
    simp [r.len]
  · obtain ⟨x, h1, h2⟩ := r.get (start_get h)
    exact ⟨x, start_put h1, h2⟩
section
variable {T : Tab} {P : Program} {w : World} {K : PySem.W.Frag} {mg : Str → Option Value} {base : Heap} {ca fa : Nat → Addr} {fd : Nat → FuncData}
theorem fn_stop {k : Nat} {f : Addr} {fd' : FuncData} {ps : List Str} {i : Nat} : FnOk P w K mg base (L2.CX P w) k f fd' ps (spC K ca (fun _ _ => stop) i) :=
  ⟨fun vs H Q E ⟨_, _, _, _, _, o⟩ => o.elim, fun A outer s H args us vs Q E _ _ _ _ ⟨_, _, _, _, _, o⟩ => o.elim⟩
theorem fns_ok (M : ModOk T P w K mg base ca fa fd) : ∀ d : Nat, (∀ i F, T.fns[i]? = some F → FnOk P w K mg base (L2.CX P w) (d + 2) (fa i) (fd i) F.ps (spC K ca (call2 T d).1 i)) ∧
    ∀ i F, T.fns[i]? = some F → FnOk P w K mg base (L2.CX P w) (d + 1) (fa i) (fd i) F.ps (spC K ca (call2 T d).2 i)
  | 0 => ⟨fun i F _ => fn_stop, fun i F _ => fn_stop⟩
  | d + 1 => by
    obtain ⟨ih1, ih2⟩ := fns_ok M d
    refine ⟨fun i F hF => ?_, ih1⟩
    have D := M.defs i F hF
    obtain ⟨x, qual, st, FN, eb, es⟩ := D.fn
    obtain ⟨oc, od, kV, doc, pm, an, cdv, ct, osl, efd, lk, hcd⟩ := FN.ex
    have S := D.S
    show FnOk P w K mg base (L2.CX P w) (d + 1 + 2) (fa i) (fd i) F.ps (spC K ca (callB T (call2 T d).1 (call2 T d).2) i)
    have len : ∀ vs H Q E, spC K ca (callB T (call2 T d).1 (call2 T d).2) i vs H Q E → vs.length = F.ps.length := fun vs H Q E ⟨φ, st, pvs, rs, rv, o⟩ => by
      unfold callB at o
      rw [hF] at o
      try dsimp only at o
      by_cases hl : pvs.length = F.ps.length
      · rw [← rv.len]; exact hl
      · rw [if_neg hl] at o
        exact False.elim o
    rw [efd] at lk ⊢
    refine fn_of lk hcd (es ▸ S) len fun A outer s H vs Q E hr hsp => ?_
    rw [← es, ← eb] at *
    refine ⟨_, ok_blk (ca := ca) (W := fun cls d _ H => E cls d H) (S := evS ⟨T, (call2 T d).1, (call2 T d).2, F.N⟩ F.sc 20) (ok_evS (fa := fa) (fd := fd) 20 _ _ ?_) F.body, ?_⟩
    · exact {
        N := rfl
        nd := S.nd
        nb := D.nb
        calm := rfl
        takes := takes_of rfl rfl rfl rfl
        room := ⟨d + 2, d + 1, hr, hr, ih1, ih2⟩
        un := by
          have hu := hr.un
          show (A.deeper (PyProof.Rows.envOfC qual F.sc s.heap.objs.size (fa i) cdv)).units + 64 < cLine
          omega
        vis := fun x h => by
          show Vis F.sc x
          unfold visB at h
          unfold Vis
          split at h
          · rename_i e; exact .inl e
          · rename_i e; exact .inr (.inl e)
          · rename_i e; exact .inr (.inr e)
          · cases h
        loc := fun x h => by
          show L2.Loc F.sc x ∧ _
          unfold locB at h
          unfold L2.Loc
          split at h
          · rename_i e; exact ⟨.inl e, .inl rfl⟩
          · rename_i e; exact ⟨.inr e, .inl rfl⟩
          · cases h
        gl := fun x h => by
          show F.sc.names.lookup x = some .globalImplicit ∧ _
          unfold globB at h
          split at h
          · rename_i e
            exact ⟨e, by simpa using h⟩
          · cases h
        blkf := fun x h => h
        glob := M.glob
        sceq := rfl
        fkind := S.kind
        passes := passes_of rfl
        stk := rfl
        frm := rfl
        mk1 := fun pn xe x c m j p p2 pos h1 h2 h3 => by
          have hg : F.sc.names.lookup x = some .globalImplicit ∧ (x == ("__debug__" : Str)) = false := by
            unfold globB at h3
            split at h3
            · rename_i e
              exact ⟨e, by simpa using h3⟩
            · cases h3
          exact M.mk1 _ x c m j p p2 pos rfl rfl rfl rfl h1 h2 hg.1 hg.2
        mk2 := fun pn xe x c fl e es t p pos h1 h2 h3 h4 h5 => by
          have hg : F.sc.names.lookup x = some .globalImplicit ∧ (x == ("__debug__" : Str)) = false := by
            unfold globB at h3
            split at h3
            · rename_i e
              exact ⟨e, by simpa using h3⟩
            · cases h3
          exact M.mk2 _ x c fl e es t p pos rfl rfl rfl rfl (hr.mono (by omega)) h1 h2 hg.1 hg.2 h4 h5
        sub := M.sub
        xf := M.xf }
    · obtain ⟨φ, st0, pvs, rs, rv, o⟩ := hsp
      refine ⟨φ, st0, Z.start F.N pvs, rs, RL.start rv, ?_⟩
      unfold callB at o
      rw [hF] at o
      try dsimp only at o
      by_cases hl : pvs.length = F.ps.length
      · rw [if_pos hl] at o
        generalize blk (evS ⟨T, (call2 T d).1, (call2 T d).2, F.N⟩ F.sc 20) F.body (Z.start F.N pvs) st0 = z at o
        cases z with
        | bad => exact o
        | exc c fs ρ s' => exact fun φ' H' σ' d e rs' rl' rx => o φ' H' d e rs' rx
        | ok f ρ s' =>
          cases f with
          | next => exact fun φ' H' σ' e rs' rl' => o φ' H' _ e rs' .non
          | ret v => exact fun φ' H' u e rs' rv' => o φ' H' u e rs' rv'
          | brk => exact False.elim o
          | cont => exact False.elim o
      · rw [if_neg hl] at o
        exact False.elim o
end
end Z

section
set_option maxHeartbeats 2000000
namespace Z
open PySem PySem.W PySem.Calls PyProof.Rows
def tpA (p1 p2 p3 : Pos) : Arguments := { posonlyargs := [], args := [{ arg := "self", annotation := none, pos := p1 }, { arg := "code", annotation := none, pos := p2 }, { arg := "path", annotation := none, pos := p3 }], vararg := none, kwonlyargs := [], kw_defaults := [], kwarg := none, defaults := [] }
def tpB (a1 a2 a3 a4 a5 a6 b1 b2 b3 b4 c1 c2 c3 c4 : Pos) : List Stmt := [.Expr (.Call (.Attribute (.Call (.Name "super" a1) [] [] a2) "__init__" a3) [.Constant (.str "the program has no type") 0 a4] [] a5) a6,
  .Assign [.Attribute (.Name "self" b1) "code" b2] (.Name "code" b3) b4, .Assign [.Attribute (.Name "self" c1) "path" c2] (.Name "path" c3) c4]
def tpS : Scope := { kind := .function, names := [(PySem.Str.ofString "self", .local), (PySem.Str.ofString "code", .local), (PySem.Str.ofString "path", .local), (PySem.Str.ofString "__class__", .free), (PySem.Str.ofString "super", .globalImplicit)], isGenerator := false, isCoroutine := false, more := [] }
/-- what the written part says of the class at C, its __init__ at fI -/
structure TpTxt (K : Frag) (prog : Program) (C fI : Addr) : Prop where
  cls : ∃ nm q N bs bm sn sub ab col dd k0 k1 k2 k3 k5, K.lookup C = some (excClassObj nm q C N bs bm true sn sub ab col dd k0 k1 k2 k3 k5 "ValueError.__new__") ∧ PySem.HandSPX.refsVE bm = true
  sa : findIn K (.ref C) "__setattr__" = some (some (.builtin "object.__setattr__"))
  noC : findIn K (.ref C) "code" = some none
  noP : findIn K (.ref C) "path" = some none
  iC : findIn K (.ref C) "__init__" = some (some (.ref fI))
  tI : typeIn K (.ref fI) = some (.type "function")
  kC : keepIn K (.ref C) = true
  exC : subIn K (.ref C) (.type "BaseException") = some true
  tyC : typeIn K (.ref C) = some (.type "type")
  veC : subIn K (.ref C) (.type "ValueError") = some true
  slf : subIn K (.ref C) (.ref C) = some true
  sup : ks_superIn K C C "__init__" = some (some (.builtin "ValueError.__init__"))
  opq : nsIn K cStatics "thirdparty.any" = some none
  noS : nsIn K mainGlobals "super" = some none
  top : (prog.main.scope.names.lookup ("super" : Str)).isSome = false
  fn : ∃ (oc : Value) (od : Option Addr) (kV doc pm : Value) (an : Option Addr) (cda cc : Addr) (ct : Value) (osl : Array (Option Value)) (p1 p2 p3 a1 a2 a3 a4 a5 a6 b1 b2 b3 b4 c1 c2 c3 c4 : Pos),
    K.lookup fI = some ⟨oc, od, .func (ksFn "__init__" "TypeProblem.__init__" (tpA p1 p2 p3) (tpB a1 a2 a3 a4 a5 a6 b1 b2 b3 b4 c1 c2 c3 c4) tpS .none kV doc pm an (.ref cda) ct cc), osl⟩ ∧ codeIn K (.ref cda) "TypeProblem.__init__" = true ∧
    (a3.endLine == a5.line) = true ∧ (∃ ccl cdd vs ccs file tf, K.lookup cda = some ⟨ccl, cdd, .fields vs, ccs⟩ ∧ vs[2]? = some (.str file tf) ∧ ((prog.main.file : Str) == file) = true) ∧
    ∃ cl cld csl, K.lookup cc = some ⟨cl, cld, .cell (some (.ref C)), csl⟩
theorem call_eq0 {o e : PySem.Expr} {m : Str} {es : List PySem.Expr} {ap p : Pos} {env : Env} (h2 : (e :: es).all noStar = true) (h4 : (e :: es).length < 20) (h5 : (ap.endLine == p.line) = true) :
    eval (.Call (.Attribute o m ap) (e :: es) [] p) env = (do
      let ov ← attributeBase o m env (eval o env)
      standAt ap.atName
      let (f, first) ← holding [ov] (getMethod ov m (do return (← importBound o env).getD true))
      callWith p f first (backTo p (starEach (e :: es) env)) []) := by
  have h0 : eval (.Call (.Attribute o m ap) (e :: es) [] p) env = (do
    let ov ← attributeBase o m env (eval o env)
    standAt ap.atName
    methodCall o m ap p env ov ((e :: es).length + 0) (backTo p (starEach (e :: es) env)) (backToKw p (keywordEach [] env))) := rfl
  rw [h0]
  have hf : methodCallForm ((e :: es).length + 0) (backTo p (starEach (e :: es) env)) (backToKw p (keywordEach [] env)) = true := by
    have ha : ∀ (l : List PySem.Expr), l.all noStar = true → (backTo p (starEach l env)).all (fun x => !x.1) = true := fun l hl => by
      have q := star_all (env := env) (p := p) hl
      rw [List.any_eq_false] at q
      rw [List.all_eq_true]
      intro x hx
      simpa using q x hx
    unfold methodCallForm
    rw [ha _ h2]
    show (true && true && decide ((e :: es).length + 0 + 0 < 30)) = true
    rw [decide_eq_true (by omega)] <;> rfl
  have hp : methodCallPos true o env ap p = pure p := by
    unfold methodCallPos
    rw [h5] <;> rfl
  unfold methodCall
  rw [hf, hp]
  rfl
theorem ns_but {h h' : Heap} {x L : Addr} {m : Str → Option Value} (hn : h.Ns L m) (hne : L ≠ x) (k : ∀ b o, b ≠ x → h.get? b = some o → h'.get? b = some o) : h'.Ns L m := by
  obtain ⟨oL, es, ep, hL, r⟩ := hn
  exact ⟨oL, es, ep, k _ _ hne hL, r⟩
/-- the method-wrapper called -/
theorem call_mw {prog : Program} {w : World} {A : Around} {E : Value → Shared → Prop} {h : Heap} {g : Array GenState} {d : Drawn} {t : Nat} {os : OsState} {nm q : Str} {C N : Addr} {bs bm : List Value} {hdct : Bool} {sn : List Str} {sub : List Value} {ab : Bool} {col : Option Bool} {dd : Option Addr} {k0 k1 k2 k3 k5 : Option Value}
    {u e t0 : Addr} {rest : List Value} {Q : Value → Shared → Prop} (hC : h.get? C = some (excClassObj nm q C N bs bm hdct sn sub ab col dd k0 k1 k2 k3 k5 "ValueError.__new__")) (he : h.get? e = some (PySem.HandSPX.excO C t0)) (hu : h.get? u = some (kxs_mw "ValueError.__init__" e)) (hrest : rest.length ≤ sizeLine)
    (hq : ∀ h' t1, (∀ b o, b ≠ e → h.get? b = some o → h'.get? b = some o) → h'.get? e = some (PySem.HandSPX.excO C t1) → Q .none ⟨h', g, d, t, os⟩) :
    wpAny (model prog w) A (call (.ref u) rest) Q E ⟨h, g, d, t, os⟩ := by
  refine wpAny_call (codeAny_of_tree ?_)
  show wpAny _ A.in1 (callAny (.ref u) ⟨rest, []⟩) _ _ ⟨h, g, d, t, os⟩
  have h1 : (Value.type "method-wrapper" == Value.type "method" || Value.type "method-wrapper" == Value.type "builtin_function_or_method" ||
    Value.type "method-wrapper" == Value.type "method-wrapper") = true := by decide
  simp only [callAny]
  refine wpAny_bind (wpAny_load hu ?_)
  simp only [kxs_mw, h1, if_true]
  refine KFB.if_so (by decide) ?_
  refine wpAny_bind (check_bound_init F.excBase_ValueError.toExcCallFacts hC he rfl (wpAny_bind (wpAny_pure (wpAny_pure ⟨plainId_quiet F.excBase_ValueError.init.plain _, codeAny_builtin F.excBase_ValueError.initEntry ?_⟩))))
  exact exc_init_tree (cls := .ref C) (t0 := t0) (dv := none) (c2 := .none) (c3 := .none) (b4 := .bool false) he hrest fun h' k e1 _ => hq h' _ k e1
/-- what __init__ leaves of a fresh exception at x -/
structure TpEnd (h h' : Heap) (x C dx t1 : Addr) (v1 v2 : Value) : Prop where
  keep : ∀ b o, b ≠ x → h.get? b = some o → h'.get? b = some o
  obj : h'.get? x = some { cls := .ref C, dict := some dx, data := .fields #[.ref t1, .none, .none, .none, .bool false, .none] }
  dbig : h.objs.size ≤ dx
  dne : dx ≠ x
  ns : h'.Ns1 dx (fun y => if y = "path" then some v2 else if y = "code" then some v1 else none)
section
variable {prog : Program} {w : World} {A : Around} {E : Value → Shared → Prop} {R : Result → Shared → Prop} {s : Shared} {K : Frag} {mg : Str → Option Value} {C fI : Addr}
theorem tp_init (T : TpTxt K prog C fI) {x t0 : Addr} {v1 v2 : Value} (X : K.In s.heap) (G : s.heap.Ns mainGlobals mg) (B : ∃ mb, s.heap.Ns builtinsNs mb ∧ ∀ y : Str, y ≠ "__name__" → mb y = bootBuiltins y) (hlim : s.heap.NoLimit)
    (hx : s.heap.get? x = some (PySem.HandSPX.excO C t0)) (hnx : K.lookup x = none) (hroom : A.depth < recursionLimit)
    (hq : ∀ h' tk dx t1, TpEnd s.heap h' x C dx t1 v1 v2 → R (.ok (.ret .none)) { s with heap := h', toks := tk }) :
    codeAny (model prog w) A (.call (.ref fI) ⟨[.ref x, v1, v2], []⟩) R s := by
  obtain ⟨oc, od, kV, doc, pm, an, cda, cc, ct, osl, p1, p2, p3, a1, a2, a3, a4, a5, a6, b1, b2, b3, b4, c1, c2, c3, c4, ho, hcd, hline, ⟨ccl, cdd, vs, ccs, file, tf, hcode, hvs, hfile⟩, cl, cld, csl, hcell⟩ := T.fn
  obtain ⟨nm, q, N, bs, bm, sn, sub, ab, col, dd, k0, k1, k2, k3, k5, hC, hbm⟩ := T.cls
  have hcl : clsIn K C = some { name := nm, bases := bs, mro := .ref C :: bm, ns := N, qualname := q, hasDict := true, slotNames := sn, subclasses := sub, abstract := ab, collection := col, hasDel := false } := by unfold clsIn; rw [hC] <;> rfl
  refine ks_codeAny_call_defAt (binds := [("self", .ref x), ("code", v1), ("path", v2)]) hroom (X _ _ ho) rfl hlim (codeRec_of X hcd) rfl (BindsTo.of_eq rfl) (show ∀ y ∈ tpS.names, y.2 ≠ .cell by decide) (fun y hy => by
    simp only [List.mem_cons, List.not_mem_nil, or_false] at hy
    rcases hy with rfl | rfl | rfl <;> rfl) fun h₁ hns hk₁ => ?_
  generalize htk : s.toks + _ = tk1
  have hxL : s.heap.objs.size ≠ x := Nat.ne_of_gt (Heap.lt_size hx)
  have X₁ : K.In h₁ := X.keeps hk₁
  have hx₁ := hk₁ _ _ hx
  obtain ⟨mb, B1, B2⟩ := B
  obtain ⟨hh, g, d, t, os⟩ := s
  dsimp only at hns hk₁ hxL hq ⊢
  refine ks_wpAt_execs_cons (ks_wpAt_Expr_any (ks_wpAt_MethodCall (ks_wpAt_super_base (by rfl) (by rfl) (by decide) (by rfl) (X₁ _ _ ho) (by rfl) (by rfl) (by rfl) (X₁ _ _ hcode) (by rfl) hvs hfile T.top ?_) (call_eq0 (by rfl) (show 1 < 20 by decide) hline)) (by rfl) (by rfl))
  have G₁ := G.keeps hk₁
  have B₁ := B1.keeps hk₁
  refine ks_loadName_global (by rfl) (by rfl) (loadGlobal_builtin G₁ (mg_none_of X G T.noS) B₁ ((B2 _ (by decide)).trans (by rfl)) ⟨rfl, ?_⟩)
  refine wpAny_loadName_free (by rfl) (by rfl) (by rfl) ⟨_, X₁ _ _ hcell, rfl⟩ ?_
  refine wpAny_loadName_local (v := .ref x) (by rfl) (by rfl) hns (by rfl) ?_
  refine ks_wpAny_isType_cls (X₁ _ _ hC) rfl ⟨rfl, ?_⟩
  refine ks_wpAny_call_super (X₁ _ _ hC) rfl hx₁ rfl (fun c e => by cases e) (looks_subIn X₁ T.slf) fun h2 hso k2 => ?_
  have X₂ : K.In h2 := X₁.keeps k2
  have hx₂ := k2 _ _ hx₁
  have hxC : x ≠ C := fun z => by rw [z, hC] at hnx; cases hnx
  have I₂ : InstAt h2 x (PySem.HandSPX.excO C t0) C none := ⟨hx₂, rfl, rfl, trivial⟩
  have hsup : alongIn K "__init__" (((Value.ref C :: bm).dropWhile (· != .ref C)).drop 1) = some (some (.builtin "ValueError.__init__")) := by
    have z := T.sup
    unfold ks_superIn at z
    rw [hcl] at z
    exact z
  refine kxs_getMethod kxs_ValueError hso (looks_opaque X₂ T.opq) (l₀ := .ref C :: bm) (fun A Q E s k q => wpAny_bind ((looks_clsIn X₂ hcl) A _ E s k (wpAny_pure q))) rfl X₂ hsup (I₂.type.andThen (looks_subIn X₂ T.veC)) hxC (by decide) ?_
  have k3 : ∀ b o, h2.get? b = some o → (h2.push (kxs_mw "ValueError.__init__" x)).get? b = some o := fun b o e => Heap.get?_push_of_some _ e
  have hu : (h2.push (kxs_mw "ValueError.__init__" x)).get? h2.objs.size = some (kxs_mw "ValueError.__init__" x) := Heap.get?_push_size _ rfl
  generalize h2.push (kxs_mw "ValueError.__init__" x) = h3 at k3 hu ⊢
  have X₃ : K.In h3 := X₂.keeps k3
  have hx₃ := k3 _ _ hx₂
  rw [star1 (by rfl)]
  refine kxs_callWith (i := "ValueError.__init__") (x := x) (by rfl) (PySem.Calls.evalArgs_plain ?_)
  refine Calls.spliced_cons ?_
  refine Calls.Constant_str (x := "the program has no type") (k := 0) (pos := a4) ?_
  refine Calls.spliced_nil ⟨hu, ?_⟩
  refine call_mw (X₃ _ _ hC) hx₃ hu (by show 1 ≤ sizeLine; rw [sizeLine_eq]; omega) fun h4 t1 k4 hx₄ => ?_
  -- self.code = code
  have X₄ : K.In h4 := fun b o e => k4 b o (fun z => by rw [z, hnx] at e; cases e) (X₃ _ _ e)
  have hn₄ : h4.Ns hh.objs.size (fun y => ([(("self" : Str), Value.ref x), ("code", v1), ("path", v2)] : List (Str × Value)).reverse.lookup y) := ns_but ((hns.keeps k2).keeps k3) hxL k4
  refine wpAt_of_wpAny ?_
  show wpAny _ _ (execs _ _) _ _ _
  refine wpAny_execs_cons (plainObj_wpAny_Assign_Attribute ?_)
  refine ldc (v := v1) (by rfl) (by rfl) hn₄ (by rfl) (ldc (v := .ref x) (by rfl) (by rfl) hn₄ (by rfl) ?_)
  refine set_plain X₄ (ox := PySem.HandSPX.excO C t1) (od := none) ⟨hx₄, rfl, rfl, trivial⟩ T.sa ?_
  refine PySem.HandSPX.exc_osa X₄ hx₄ hcl (show PySem.HandSPX.refsVE (.ref C :: bm) = true from hbm) rfl T.noC (fun h5 tk5 dx k5 dn dne hx₅ hn₅ => ?_)
  -- self.path = path
  have X₅ : K.In h5 := fun b o e => k5 b o (fun z => by rw [z, hnx] at e; cases e) (X₄ _ _ e)
  have hn₅' := ns_but hn₄ hxL k5
  show wpAny _ _ (execs _ _) _ _ _
  refine wpAny_execs_cons (plainObj_wpAny_Assign_Attribute ?_)
  refine ldc (v := v2) (by rfl) (by rfl) hn₅' (by rfl) (ldc (v := .ref x) (by rfl) (by rfl) hn₅' (by rfl) ?_)
  have hw : Within (fun y => if y = ("code" : Str) then some v1 else none) ["code"] := fun y hy => by
    by_cases e : y = ("code" : Str)
    · rw [e]; exact List.mem_cons_self ..
    · exact absurd (if_neg e) hy
  obtain ⟨oD, esD, epD, hoD, hdD, _⟩ := hn₅.count hw
  refine set_plain X₅ (ox := { cls := .ref C, dict := some dx, data := .fields #[.ref t1, .none, .none, .none, .bool false, .none] }) (od := some oD) ⟨hx₅, rfl, rfl, hoD⟩ T.sa ?_
  refine PySem.OEX.osa_old X₅ hx₅ hn₅ hw (by decide) hcl (show PySem.HandSPX.refsVE (.ref C :: bm) = true from hbm) rfl T.noP (fun h6 tk6 k6 hn₆ => ?_)
  show wpAny _ _ (execs _ _) _ _ _
  have big : hh.objs.size ≤ dx := Nat.le_trans (Nat.le_of_lt (by obtain ⟨oL, _, _, hL, _⟩ := hn₄; exact Heap.lt_size hL)) dn
  refine wpAny_execs_nil (hq h6 tk6 dx t1 ⟨fun b o hb e => ?_, k6 x _ (Ne.symm dne) hx₅, big, dne, hn₆⟩)
  refine k6 b o (fun z => ?_) (k5 b o hb (k4 b o hb (k3 _ _ (k2 _ _ (hk₁ b o e)))))
  have z1 := Heap.lt_size e
  rw [z] at z1
  exact absurd (Nat.lt_of_lt_of_le z1 big) (Nat.lt_irrefl _)
/-- what C(code, path) leaves -/
structure TpMade (h h' : Heap) (e C d : Addr) (v1 v2 : Value) : Prop where
  keep : ∀ b o, h.get? b = some o → h'.get? b = some o
  new : h.objs.size ≤ e
  obj : ∃ oe vs, h'.get? e = some oe ∧ oe.cls = .ref C ∧ oe.dict = some d ∧ oe.data = .fields vs ∧ vs[1]? = some .none
  dbig : h.objs.size ≤ d
  dne : d ≠ e
  ns : h'.Ns1 d (fun y => if y = "path" then some v2 else if y = "code" then some v1 else none)
theorem tp_made (T : TpTxt K prog C fI) {v1 v2 : Value} (X : K.In s.heap) (G : s.heap.Ns mainGlobals mg) (B : ∃ mb, s.heap.Ns builtinsNs mb ∧ ∀ y : Str, y ≠ "__name__" → mb y = bootBuiltins y) (hlim : s.heap.NoLimit) (hroom : A.depth + 1 < recursionLimit)
    (hq : ∀ h' tk e d, TpMade s.heap h' e C d v1 v2 → R (.ok (.ret (.ref e))) { s with heap := h', toks := tk }) : codeAny (model prog w) A (.call (.ref C) ⟨[v1, v2], []⟩) R s := by
  obtain ⟨nm, q, N, bs, bm, sn, sub, ab, col, dd, k0, k1, k2, k3, k5, hC, hbm⟩ := T.cls
  obtain ⟨hh, g, dr, tk, os⟩ := s
  have k : ∀ b o, hh.get? b = some o → ((hh.push (kdv_tup [v1, v2])).push (PySem.HandSPX.excO C hh.objs.size)).get? b = some o := fun b o e => Heap.get?_push_of_some _ (Heap.get?_push_of_some _ e)
  have hget : ((hh.push (kdv_tup [v1, v2])).push (PySem.HandSPX.excO C hh.objs.size)).get? (hh.objs.size + 1) = some (PySem.HandSPX.excO C hh.objs.size) := by heap_get
  have hnx : K.lookup (hh.objs.size + 1) = none := by
    cases e : K.lookup (hh.objs.size + 1) with
    | none => rfl
    | some o =>
      have z := Heap.lt_size (X _ _ e)
      exact absurd (Nat.lt_of_succ_lt z) (Nat.lt_irrefl _)
  obtain ⟨mb, B1, B2⟩ := B
  refine PySem.HandSPX.call_own F.excBase_ValueError (fun Y => PySem.HandSPX.refsVE_contains Y bm hbm) (X _ _ hC) (looks_findIn X T.iC) (fun self => bind_fn X self T.tI) (by show 2 ≤ sizeLine; rw [sizeLine_eq]; omega) ?_
  refine tp_init (s := ⟨(hh.push (kdv_tup [v1, v2])).push (PySem.HandSPX.excO C hh.objs.size), g, dr, tk, os⟩) T (X.keeps k) (G.keeps k) ⟨mb, B1.keeps k, B2⟩ (hlim.keeps k) hget hnx (show A.depth + 1 < recursionLimit from hroom) fun h' tk' dx t1 ⟨k', hx, dn, dne, hns⟩ => ?_
  have old : ∀ b o, hh.get? b = some o → h'.get? b = some o := fun b o e => k' b o (Nat.ne_of_lt (Nat.lt_succ_of_lt (Heap.lt_size e))) (k b o e)
  have z : hh.objs.size + 1 + 1 ≤ dx := by
    have z0 := dn
    rw [Heap.size_push, Heap.size_push] at z0
    exact z0
  exact ⟨rfl, hq h' tk' (hh.objs.size + 1) dx ⟨old, Nat.le_succ _, ⟨_, _, hx, rfl, rfl, rfl, rfl⟩, Nat.le_trans (Nat.le_trans (Nat.le_succ _) (Nat.le_succ _)) z, dne, hns⟩⟩
end
end Z
namespace Z
open PySem L2
/-- C(code, path) as the operand of a raise -/
theorem pmk_tp {X : Cx} {C fI : Addr} {x : Str} {e : Expr} {es : List Expr} {t : TA} {p pos : Pos} (T : TpTxt X.K X.prog C fI) (hr : Room 1 X.A) (hm : X.mg x = some (.ref C)) (hg : Gl X x) (hdb : (x == ("__debug__" : Str)) = false) (hs : (e :: es).all noStar = true) (ha : PA X (e :: es) t) :
    PMk X (.Call (.Name x p) (e :: es) [] pos) (tMk2 C ["code", "path"] t) := by
  have hs' := hs
  simp only [List.all_cons, Bool.and_eq_true] at hs'
  intro pins s σ H Q I h
  refine wpAny_Call_Name_kw (ld_glob I hg hm ?_ hdb)
  refine PySem.W.callWith_K (h₀ := X.base) I.ok.mod.kin T.kC (thn (ha.run pos pins s σ H _ I h) fun us s1 hh => ?_) (star_no es _ hs'.1) (star_all hs'.2)
  obtain ⟨vs, H1, I1, r1, hl, q1⟩ := hh
  refine ⟨I1.kIn, ?_⟩
  match vs, us, r1, hl with
  | [x1, x2], [u1, u2], .cons ra (.cons rb .nil), _ =>
    show wpAny _ _ (call (.ref C) [u1, u2]) _ _ _
    have hlim := I1.nolimit
    have hG := I1.mod.glob.keeps I1.bk
    have hB : ∃ mb, s1.heap.Ns builtinsNs mb ∧ ∀ y : Str, y ≠ "__name__" → mb y = bootBuiltins y := by
      obtain ⟨mb, b1, b2⟩ := I1.mod.blt
      exact ⟨mb, b1.keeps I1.bk, b2⟩
    obtain ⟨hp, g, dr, tk, os⟩ := s1
    refine wpAny_call (tp_made T I1.kIn hG hB hlim (by have := hr.dp; omega) fun h' tk' ea d M => ?_)
    show MkP X pins σ Q (.ref ea) ⟨h', g, dr, tk', os⟩
    obtain ⟨oe, fv, hoe, hc, hd, hdat, h1⟩ := M.obj
    have hns := M.ns
    obtain ⟨G', g1, g2⟩ := restrict h' fun b => decide (b ≠ ea)
    have gk : ∀ b, b ≠ ea → G'.get? b = h'.get? b := fun b hb => g1 b (decide_eq_true hb)
    have ge : G'.get? ea = none := g2 ea (by simp)
    have old : ∀ b o, hp.get? b = some o → G'.get? b = some o := fun b o q => (gk b (Nat.ne_of_lt (Nat.lt_of_lt_of_le (Heap.lt_size q) M.new))).trans (M.keep b o q)
    have rel : ∀ f, RelO (List.lookup f [(("path" : Str), x2), (("code" : Str), x1)]) (if f = ("path" : Str) then some u2 else if f = ("code" : Str) then some u1 else none) := fun f =>
      relO_put (f := "path") rb (fs := [(("code" : Str), x1)]) (mA := fun f => if f = ("code" : Str) then some u1 else none) (fun f => relO_put (f := "code") ra (fs := []) (mA := fun _ => none) (fun _ => True.intro) f) f
    have ob : ObjOk X.prog X.w (upd H1 d (.xd [(("path" : Str), x2), (("code" : Str), x1)])) G' d (.xd [(("path" : Str), x2), (("code" : Str), x1)]) :=
      ⟨_, hns.at (fun o q => (gk d M.dne).trans q), rel⟩
    have J : Inv X pins σ (upd H1 d (.xd [(("path" : Str), x2), (("code" : Str), x1)])) ⟨G', g, dr, tk', os⟩ := I1.laid (t' := tk') old M.dbig ob
    refine ⟨ea, oe, fv, ⟨G', g, dr, tk', os⟩, _, .ref C, some d, rfl, J, fun b o q => ?_, ge, hoe, ⟨hc, hd⟩, hdat, h1, ?_, rfl, I1.bare, raises_own T.exC T.tyC, q1 d _ (I1.hok.fresh M.dbig) fun f z hz => ?_⟩
    · by_cases hb : b = ea
      · have q' : G'.get? b = some o := q
        rw [hb, ge] at q'
        cases q'
      · exact (gk b hb).symm.trans q
    · rw [upd_ne (Ne.symm M.dne)]
      exact I1.hok.fresh M.new
    · have hz' : List.lookup f [(("code" : Str), x1), (("path" : Str), x2)] = some z := hz
      simp only [List.lookup_cons, List.lookup_nil] at hz' ⊢
      by_cases h1 : f = ("code" : Str)
      · subst h1
        have e1 : (("code" : Str) == ("code" : Str)) = true := by decide
        have e2 : (("code" : Str) == ("path" : Str)) = false := by decide
        rw [e1] at hz'
        rw [e2, e1]
        exact hz'
      · have e1 : (f == ("code" : Str)) = false := by simpa using h1
        rw [e1] at hz'
        cases h2 : (f == ("path" : Str)) with
        | true => rw [h2] at hz'; exact hz'
        | false => rw [h2] at hz'; cases hz'
end Z

end
namespace Z
open PySem L2
def AllG {α : Type} (P : α → Prop) : List α → Prop
  | [] => True
  | x :: r => P x ∧ AllG P r
theorem AllG.of {α : Type} {P : α → Prop} : ∀ {l : List α}, AllG P l → ∀ x ∈ l, P x
  | _ :: _, h, x, hx => by
    rcases List.mem_cons.mp hx with rfl | hx
    · exact h.1
    · exact AllG.of h.2 x hx
def AllI {α : Type} (P : Nat → α → Prop) : Nat → List α → Prop
  | _, [] => True
  | i, x :: r => P i x ∧ AllI P (i + 1) r
theorem AllI.of {α : Type} {P : Nat → α → Prop} : ∀ {l : List α} {k i : Nat} {x : α}, AllI P k l → l[i]? = some x → P (k + i) x
  | _ :: _, k, 0, x, h, e => by cases e; exact h.1
  | _ :: r, k, i + 1, x, h, e => by
    have z := AllI.of (i := i) (x := x) h.2 (by simpa using e)
    rw [show k + 1 + i = k + (i + 1) by omega] at z
    exact z
theorem AllI.at {α : Type} {P : Nat → α → Prop} {l : List α} {i : Nat} {x : α} (h : AllI P 0 l) (e : l[i]? = some x) : P i x := by
  have z := AllI.of h e
  rw [Nat.zero_add] at z
  exact z
theorem mem_look {β : Type} : ∀ {l : List (Str × β)} {x : Str} {v : β}, l.lookup x = some v → (x, v) ∈ l
  | (k, w) :: r, x, v, h => by
    rw [List.lookup_cons] at h
    cases hb : x == k with
    | true =>
      rw [hb] at h
      cases h
      have e : x = k := by simpa using hb
      rw [e]
      exact List.mem_cons_self ..
    | false => rw [hb] at h; exact List.mem_cons_of_mem _ (mem_look h)
/-- which errors an except catches -/
theorem exm_of {K : PySem.W.Frag} {a b : Addr} {r : Bool} (h1 : PySem.W.subIn K (.ref b) (.type "BaseException") = some true) (h2 : PySem.W.isClsIn K b = true) (h3 : PySem.W.typeIn K (.ref b) = some (.type "type")) (h4 : PySem.W.subIn K (.ref a) (.ref b) = some r) : PySem.W.exmOne K (.ref a) (.ref b) = some r := by
  have h2' : (PySem.W.clsIn K b).isSome = true := h2
  unfold PySem.W.exmOne PySem.W.kitCls
  rw [h1, if_pos (by rfl)]
  dsimp only
  rw [if_pos (by rw [h2', h3]; rfl)]
  exact h4
/-- an entry of the module -/
def GlF (T : Tab) (K : PySem.W.Frag) (mg : Str → Option Value) (ca fa : Nat → Addr) (p : Str × GE) : Prop :=
  match p.2 with
  | .fn i => mg p.1 = some (.ref (fa i)) ∧ ∃ F, T.fns[i]? = some F
  | .cls c => mg p.1 = some (.ref (ca c))
  | .cst v => ∃ u y, mg p.1 = some u ∧ RelV y u ∧ ∀ φ H, Rv K φ H v y
/-- a class -/
structure ClF (T : Tab) (P : Program) (K : PySem.W.Frag) (ca fa : Nat → Addr) (c : Nat) (C : ClI) : Prop where
  ini : ∀ f, C.init = some f → Mk K (ca c) (fa f) ∧ ∃ F, T.fns[f]? = some F
  me : AllG (fun p => Meth K (ca c) p.1 (fa p.2) ∧ ∃ F, T.fns[p.2]? = some F) C.meths
  fl : AllG (fun f => NoAttr K (ca c) f) C.fields
  cl : C.exc = none → Cls K (ca c)
  no : C.exc ≠ none → C.meths = [] ∧ C.fields = []
  e1 : C.exc = some none → PySem.W.excIn K (ca c) [.type "ValueError", .type "Exception", .type "BaseException", .type "object"] "ValueError.__new__" = true ∧ PySem.W.keepIn K (.ref (ca c)) = true ∧ PySem.W.subIn K (.ref (ca c)) (.type "BaseException") = some true ∧ PySem.W.typeIn K (.ref (ca c)) = some (.type "type")
  e2 : ∀ fl, C.exc = some (some fl) → fl = ([("code" : Str), ("path" : Str)] : List Str) ∧ (∃ fI, TpTxt K P (ca c) fI) ∧ AllG (fun f => XfC K (ca c) ∧ PySem.W.findIn K (.ref (ca c)) f = some none) fl
theorem ModOk.of {T : Tab} {P : Program} {w : World} {K : PySem.W.Frag} {mg : Str → Option Value} {base : Heap} {ca fa : Nat → Addr} {fd : Nat → FuncData} (exl : List Nat) (gl : AllG (GlF T K mg ca fa) T.glob) (fs : AllI (fun i F => PySem.W.keepIn K (.ref (fa i)) = true ∧ DefOk K F (fa i) (fd i)) 0 T.fns)
    (cs : AllI (ClF T P K ca fa) 0 T.cls) (zs : AllG (fun x => mg x = none) bltNames) (xl : AllI (fun c C => C.exc ≠ none → c ∈ exl) 0 T.cls) (sb : AllG (fun i => AllG (fun j => PySem.W.exmOne K (.ref (ca i)) (.ref (ca j)) = some (T.sub i j)) exl) exl) : ModOk T P w K mg base ca fa fd := by
  have hb : ∀ {c : Nat} {e : Option (List Str)}, (T.cls[c]?).bind (·.exc) = some e → ∃ C, T.cls[c]? = some C ∧ C.exc = some e := fun {c e} h => Option.bind_eq_some_iff.mp h
  have hx : ∀ {c : Nat}, (excF T c).isSome = true → ∃ C, T.cls[c]? = some C ∧ C.exc ≠ none := fun {c} h => by
    unfold excF at h
    cases e : (T.cls[c]?).bind (·.exc) with
    | none => rw [e] at h; cases h
    | some x =>
      obtain ⟨C, h1, h2⟩ := hb e
      exact ⟨C, h1, by rw [h2]; simp⟩
  have hc : ∀ x c, T.glob.lookup x = some (.cls c) → mg x = some (.ref (ca c)) := fun x c h => gl.of _ (mem_look h)
  refine ⟨⟨fun x i h => (gl.of _ (mem_look h)).1, fun i F h => ⟨(fs.at h).1, (fs.at h).2.b⟩, hc, fun x v h => gl.of _ (mem_look h), fun x h => zs.of x (by simpa using h), fun x i h => (gl.of _ (mem_look h)).2,
    fun c C f h e => (cs.at h).ini f e, fun c C m f h e => ?_, fun c C f h e => ?_⟩, fun i F h => (fs.at h).2, fun X x c m j p p2 pos h1 h2 h3 h4 h he hg hd => ?_, fun X x c fl e es t p pos h1 h2 h3 h4 hr h he hg hd hs ha => ?_, fun c c' h h' => ?_, fun c fl f h hf => ?_⟩
  · have q := (cs.at h)
    have hn : C.exc = none := by
      cases z : C.exc with
      | none => rfl
      | some _ => rw [(q.no (by rw [z]; simp)).1] at e; cases e
    obtain ⟨a, b⟩ := q.me.of _ (mem_look e)
    exact ⟨q.cl hn, a, b⟩
  · have q := (cs.at h)
    have hn : C.exc = none := by
      cases z : C.exc with
      | none => rfl
      | some _ => rw [(q.no (by rw [z]; simp)).2] at e; cases e
    exact ⟨q.cl hn, q.fl.of f (by simpa using e)⟩
  · subst h3 h4
    obtain ⟨C, e1, e2⟩ := hb he
    obtain ⟨a1, a2, a3, a4⟩ := (cs.at e1).e1 e2
    exact pmk_own PySem.F.excBase_ValueError a1 (hc x c h) a2 (raises_own a3 a4) hg hd
  · subst h3 h4 h1
    obtain ⟨C, e1, e2⟩ := hb he
    obtain ⟨rfl, ⟨fI, a2⟩, _⟩ := (cs.at e1).e2 _ e2
    exact pmk_tp a2 hr (hc x c h) hg hd hs ha
  · obtain ⟨C, e1, e2⟩ := hx h
    obtain ⟨C', e1', e2'⟩ := hx h'
    exact (sb.of c (xl.at e1 e2)).of c' (xl.at e1' e2')
  · unfold excF at h
    cases e : (T.cls[c]?).bind (·.exc) with
    | none => rw [e] at h; cases h
    | some x =>
      rw [e] at h
      obtain ⟨C, h1, h2⟩ := hb e
      cases x with
      | none => cases h; cases hf
      | some fl' =>
        cases h
        exact ((cs.at h1).e2 _ h2).2.2.of f (by simpa using hf)
/-- the law's own end: what the machine must answer -/
theorem law_sp {T : Tab} {K : PySem.W.Frag} {ca : Nat → Addr} {i d : Nat} {H : Hp} {a : Addr} {ns : List Int} (hO : Only H) (hS : SqL K H a (ns.map V.int)) (h : ∃ st, callN T d i [.ref 0] [.rol (ns.map PV.int)] = .ok (.bl true) st) :
    spC K ca (callN T d) i [.ref a] H (fun v _ => v = .bl true) fun _ _ _ => False := by
  obtain ⟨st, e⟩ := h
  have rl : ∀ ns : List Int, RvL K [a] H (ns.map PV.int) (ns.map V.int) := fun ns => by
    induction ns with
    | nil => exact .nil
    | cons n r ih => exact .cons (.int n) ih
  refine ⟨[a], [.rol (ns.map PV.int)], [.ref 0], ⟨rfl, fun n b o h1 h2 => ?_, fun n m b o u h1 h2 h3 h4 h5 h6 => ?_⟩, .cons (.ref rfl) .nil, ?_⟩
  · match n, h1, h2 with
    | 0, h1, h2 =>
      cases h1
      cases h2
      refine ⟨ns.map V.int, ?_, rl ns⟩
      rcases hS with (hS | ⟨o, hS⟩) | hS
      · rcases hO a with q | ⟨o, xs, q⟩
        · rw [q] at hS; cases hS
        · rw [q] at hS; cases hS
      · exact .inl ⟨o, hS⟩
      · exact .inr hS
    | n + 1, h1, h2 => simp at h1
  · match n, h3 with
    | 0, h3 => cases h3; cases h5
    | n + 1, h3 => simp at h3
  · rw [e]
    intro φ' H' u _ _ r
    cases r
    rfl
end Z
namespace Z
open PySem L2
def spL (T : Tab) (K : PySem.W.Frag) (d i : Nat) : Sp := fun vs H Q E => ∃ (a : Addr) (ns : List Int) (st : Store), vs = [.ref a] ∧ Only H ∧ SqL K H a (ns.map V.int) ∧ callN T d i [.ref 0] [.rol (ns.map PV.int)] = .ok (.bl true) st ∧ ∀ H', Q (.bl true) H'
theorem law_fn {T : Tab} {P : Program} {w : World} {K : PySem.W.Frag} {mg : Str → Option Value} {base : Heap} {ca fa : Nat → Addr} {fd : Nat → FuncData} (M : ModOk T P w K mg base ca fa fd) {i : Nat} {F : FnI} (hF : T.fns[i]? = some F) (d : Nat) :
    FnOk P w K mg base (L2.CX P w) (d + 2) (fa i) (fd i) F.ps (spL T K d i) :=
  ((fns_ok M d).1 i F hF).imp fun vs H Q E ⟨a, ns, st, e1, hO, hS, e2, hq⟩ => by
    obtain ⟨φ, st0, pvs, rs, rv, o⟩ := law_sp (ca := ca) hO hS ⟨st, e2⟩
    rw [e1]
    refine ⟨φ, st0, pvs, rs, rv, ?_⟩
    show Out K ca (Rv K) E φ H Q (callN T d i pvs st0)
    generalize callN T d i pvs st0 = z at o
    cases z with
    | ok v s =>
      intro φ' H' u e rs' rv'
      have q := o φ' H' u e rs' rv'
      rw [q]
      exact hq H'
    | exc c fs s => exact fun φ' H' dd e rs' rx => (o φ' H' dd e rs' rx).elim
    | bad => exact o
end Z

namespace Z
open PySem L2
abbrev CE := Sl → M PV
abbrev CT := Sl → M Bool
def sl (i : Nat) (ρ : Sl) : M PV :=
  match ρ[i]? with
  | some (some v) => ret v
  | _ => stop
def kst (v : PV) : CE := fun _ => ret v
def eL : List CE → Sl → M (List PV)
  | [], _ => ret []
  | e :: r, ρ => bnd (e ρ) fun v => bnd (eL r ρ) fun vs => ret (v :: vs)
def eTup (es : List CE) : CE := fun ρ => bnd (eL es ρ) fun vs => if vs.length ≤ sizeLine then ret (.tup vs) else stop
def mkLst (vs : List PV) : M PV := fun s => .ok (.ref s.length) (s ++ [.lst vs])
def eLst (es : List CE) : CE := fun ρ => bnd (eL es ρ) fun vs => if vs.length ≤ sizeLine then mkLst vs else stop
def eDct (kl : List Key) (es : List CE) : CE := fun ρ s =>
  match eL es ρ (s ++ [.dct []]) with
  | .ok vs s' => match s'[s.length]? with
    | some (.dct []) => .ok (.ref s.length) (s'.set s.length (.dct (mergeP [] (kl.zip vs))))
    | _ => .bad
  | .exc c fs s' => .exc c fs s'
  | .bad => .bad
def e2 (f : PV → PV → M PV) (a b : CE) : CE := fun ρ => bnd (a ρ) fun x => bnd (b ρ) fun y => f x y
def e1 (f : PV → M PV) (a : CE) : CE := fun ρ => bnd (a ρ) fun x => f x
def negV (x : PV) : M PV := match x with
  | .int i => ret (.int (-i))
  | _ => stop
def notV (x : PV) : M PV := match x with
  | .bl b => ret (.bl (!b))
  | _ => stop
def eCmp (op : CmpOp) (a b : CE) : CE := fun ρ => bnd (a ρ) fun x => bnd (b ρ) fun y => bnd (cmpP op x y) fun b => ret (.bl b)
def eAnd (a b : CE) : CE := fun ρ => bnd (a ρ) fun x => match x with
  | .bl true => b ρ
  | .bl false => ret (.bl false)
  | _ => stop
def eOr (a b : CE) : CE := fun ρ => bnd (a ρ) fun x => match x with
  | .bl true => ret (.bl true)
  | .bl false => b ρ
  | _ => stop
def eIf (c : CT) (a b : CE) : CE := fun ρ => bnd (c ρ) fun t => if t = true then a ρ else b ρ
def ePart (e : CE) : Sl → M (Option Int) := fun ρ => bnd (e ρ) fun v => match v with
    | .int i => ret (some i)
    | _ => stop
def eNo : Sl → M (Option Int) := fun _ => ret none
def eSl (a : CE) (lo hi : Sl → M (Option Int)) : CE := fun ρ => bnd (a ρ) fun x => bnd (lo ρ) fun lo => bnd (hi ρ) fun hi => slP x lo hi
def eCall (f : List PV → M PV) (es : List CE) : CE := fun ρ => bnd (eL es ρ) fun vs => f vs
def eMeth (L : Lk) (o : CE) (m : Str) (es : List CE) : CE := fun ρ => bnd (o ρ) fun x => methP L x m (eL es ρ)
@[irreducible] def lcX (elt : Sl → M PV) (asg : PV → Sl → Option Sl) (ts : Sl → M Bool) (src : Sc) (D : Nat) (ρ : Sl) (k i : Nat) : M PV := lcC elt asg ts src D ρ k i
@[irreducible] def forX (B : SM) (A : PV → Sl → Option Sl) (src : Sc) (k i : Nat) : SM := forP B A src k i
@[irreducible] def whlX (B : SM) (C : Sl → M Bool) (k : Nat) : SM := whl B C k
theorem lcX_eq {elt : Sl → M PV} {asg : PV → Sl → Option Sl} {ts : Sl → M Bool} {src : Sc} {D : Nat} {ρ : Sl} {k i : Nat} : lcX elt asg ts src D ρ k i = lcC elt asg ts src D ρ k i := by unfold lcX; rfl
theorem forX_eq {B : SM} {A : PV → Sl → Option Sl} {src : Sc} {k i : Nat} : forX B A src k i = forP B A src k i := by unfold forX; rfl
theorem whlX_eq {B : SM} {C : Sl → M Bool} {k : Nat} : whlX B C k = whl B C k := by unfold whlX; rfl
def eLc (elt : CE) (asg : PV → Sl → Option Sl) (ts : CT) (src : Sl → M Sc) (own : List Nat) : CE := fun ρ => bnd (src ρ) fun src s => lcX elt asg ts src s.length (wipeP ρ own) (lenI s src + 1) 0 (s ++ [.lst []])
def tYes : CT := fun _ => ret true
def tNot (a : CT) : CT := fun ρ => bnd (a ρ) fun b => ret (!b)
def tAnd (a b : CT) : CT := fun ρ => bnd (a ρ) fun t => if t = true then b ρ else ret false
def tOr (a b : CT) : CT := fun ρ => bnd (a ρ) fun t => if t = true then ret true else b ρ
def tAnd3 (a b c : CT) : CT := fun ρ => bnd (a ρ) fun t => if t = true then bnd (b ρ) fun t => if t = true then c ρ else ret false else ret false
def tOr3 (a b c : CT) : CT := fun ρ => bnd (a ρ) fun t => if t = true then ret true else bnd (b ρ) fun t => if t = true then ret true else c ρ
def tCmp (op : CmpOp) (a b : CE) : CT := fun ρ => bnd (a ρ) fun x => bnd (b ρ) fun y => cmpP op x y
def tTru (a : CE) : CT := fun ρ => bnd (a ρ) truP
def sWalk (a : CE) : Sl → M Sc := fun ρ => bnd (a ρ) walkP
def rg1 (vs : List PV) : M Sc := match vs with
  | [.int n] => if inRange n = true then ret (.items (rangeL n.toNat 0)) else stop
  | _ => stop
def rg2 (vs : List PV) : M Sc := match vs with
  | [.int i, .int j] => if (inRange i && inRange j) = true then ret (.items (rangeL (j - i).toNat i)) else stop
  | _ => stop
def en1 (vs : List PV) : M Sc := match vs with
  | [v] => enumP v
  | _ => stop
def sOf (f : List PV → M Sc) (es : List CE) : Sl → M Sc := fun ρ => bnd (eL es ρ) fun vs => f vs
@[irreducible] def cBlk : List SM → SM
  | [], ρ, s => .ok .next ρ s
  | st :: r, ρ, s => match st ρ s with
    | .ok .next ρ' s' => cBlk r ρ' s'
    | o => o
@[irreducible] def cPass : SM := fun ρ s => .ok .next ρ s
@[irreducible] def cBreak : SM := fun ρ s => .ok .brk ρ s
@[irreducible] def cCont : SM := fun ρ s => .ok .cont ρ s
@[irreducible] def cExp (e : CE) : SM := fun ρ s => bndS (e ρ) ρ (fun _ s => .ok .next ρ s) s
@[irreducible] def cRet (e : CE) : SM := fun ρ s => bndS (e ρ) ρ (fun v s => .ok (.ret v) ρ s) s
@[irreducible] def cRetN : SM := fun ρ s => .ok (.ret .non) ρ s
@[irreducible] def cAsg (i : Nat) (e : CE) : SM := fun ρ s => bndS (e ρ) ρ (fun v s => .ok .next (ρ.set i (some v)) s) s
@[irreducible] def cIxSet (o i e : CE) : SM := fun ρ s => bndS (e ρ) ρ (fun v s => bndS (o ρ) ρ (fun x s => bndS (i ρ) ρ (fun j s => bndS (ixSet x j v) ρ (fun _ s => .ok .next ρ s) s) s) s) s
@[irreducible] def cFldSet (L : Lk) (o : CE) (f : Str) (e : CE) : SM := fun ρ s => bndS (e ρ) ρ (fun v s => bndS (o ρ) ρ (fun x s => bndS (fldSet L x f v) ρ (fun _ s => .ok .next ρ s) s) s) s
@[irreducible] def cPar (es : List CE) (a : PV → Sl → Option Sl) : SM := fun ρ s => bndS (eL es ρ) ρ (fun vs s => match a (.tup vs) ρ with
          | some ρ' => .ok .next ρ' s
          | none => .bad) s
@[irreducible] def cUnp (e : CE) (a : PV → Sl → Option Sl) : SM := fun ρ s => bndS (e ρ) ρ (fun v s => match a v ρ with
        | some ρ' => .ok .next ρ' s
        | none => .bad) s
@[irreducible] def cAug (L : Lk) (o : CE) (f : Str) (op : Int → Int → Int) (e : CE) : SM := fun ρ s => bndS (o ρ) ρ (fun x s => bndS (fldP L x f) ρ (fun v s => bndS (e ρ) ρ (fun w s' => if clsP s x = clsP s' x then bndS (match v, w with
      | .int i, .int j => fldSet L x f (.int (op i j))
      | _, _ => stop) ρ (fun _ s => .ok .next ρ s) s' else .bad) s) s) s
@[irreducible] def cIf (c : CT) (a b : SM) : SM := fun ρ s => bndS (c ρ) ρ (fun t s => if t = true then a ρ s else b ρ s) s
@[irreducible] def cWhl (c : CT) (b : SM) : SM := fun ρ s => whlX b c 100000 ρ s
@[irreducible] def cFor (src : Sl → M Sc) (a : PV → Sl → Option Sl) (b : SM) : SM := fun ρ s => bndS (src ρ) ρ (fun src s => forX b a src (lenI s src + 1) 0 ρ s) s
@[irreducible] def cRai0 (c : Nat) : SM := fun ρ s => .exc c [] ρ s
@[irreducible] def cRai (c : Nat) (fl : List Str) (es : List CE) : SM := fun ρ s => bndS (eL es ρ) ρ (fun vs s => if vs.length = fl.length ∧ fl.length ≤ 5 then .exc c (fl.zip vs) ρ s else .bad) s
@[irreducible] def cTry (T : Tab) (b : SM) (c' : Nat) (sui : List Str → List (Str × PV) → Option Fl) (gone : Fl → Sl → Store → RS) : SM := fun ρ s =>
  match b ρ s with
  | .exc c fs ρ' s' => match excF T c, excF T c' with
    | some fl, some _ => if T.sub c c' = true then match sui fl fs with
        | some r => gone r ρ' s'
        | none => .bad
      else .exc c fs ρ' s'
    | _, _ => .bad
  | o => o
def suiC (r : Fl) (_ : List Str) (_ : List (Str × PV)) : Option Fl := some r
def suiF (nm : Option Str) (x f : Str) (fl : List Str) (fs : List (Str × PV)) : Option Fl := if nm = some x ∧ fl.contains f = true then (fs.lookup f).map .ret else none
def goneN (r : Fl) (ρ : Sl) (s : Store) : RS := .ok r ρ s
def goneI (i : Nat) (r : Fl) (ρ : Sl) (s : Store) : RS := if i < ρ.length then .ok r (ρ.set i none) s else .bad
/-- a def's run -/
def cFn (N : Nat) (b : SM) (vs : List PV) : M PV := fun s =>
  match b (vs.map some ++ List.replicate (N - vs.length) none) s with
  | .ok .next _ s' => .ok .non s'
  | .ok (.ret v) _ s' => .ok v s'
  | .exc c fs _ s' => .exc c fs s'
  | _ => .bad
end Z

namespace Z
open PySem L2
abbrev XP := Nat → List (Str × PV) → Store → Prop
@[irreducible] def W {α : Type} (m : M α) (s : Store) (Q : α → Store → Prop) (E : XP) : Prop :=
  match m s with
  | .ok a s' => Q a s'
  | .exc c fs s' => E c fs s'
  | .bad => False
@[irreducible] def SW (m : SM) (ρ : Sl) (s : Store) (Q : Fl → Sl → Store → Prop) (E : XP) : Prop :=
  match m ρ s with
  | .ok f ρ' s' => Q f ρ' s'
  | .exc c fs ρ' s' => E c fs s'
  | .bad => False
section
variable {α β : Type} {s : Store} {E : XP} {ρ : Sl}
theorem W_mono {m : M α} {Q Q' : α → Store → Prop} {E' : XP} (h : W m s Q E) (hq : ∀ a s, Q a s → Q' a s) (he : ∀ c f s, E c f s → E' c f s) : W m s Q' E' := by
  unfold W at *
  split
  · rename_i e; rw [e] at h; exact hq _ _ h
  · rename_i e; rw [e] at h; exact he _ _ _ h
  · rename_i e; rw [e] at h; exact h
theorem SW_mono {m : SM} {Q Q' : Fl → Sl → Store → Prop} {E' : XP} (h : SW m ρ s Q E) (hq : ∀ a r s, Q a r s → Q' a r s) (he : ∀ c f s, E c f s → E' c f s) : SW m ρ s Q' E' := by
  unfold SW at *
  split
  · rename_i e; rw [e] at h; exact hq _ _ _ h
  · rename_i e; rw [e] at h; exact he _ _ _ h
  · rename_i e; rw [e] at h; exact h
theorem W_ok {m : M α} {Q : α → Store → Prop} {a : α} {s' : Store} (h : m s = .ok a s') (q : Q a s') : W m s Q E := by
  unfold W
  rw [h]
  exact q
theorem W_exc {m : M α} {Q : α → Store → Prop} {c : Nat} {fs : List (Str × PV)} {s' : Store} (h : m s = .exc c fs s') (q : E c fs s') : W m s Q E := by
  unfold W
  rw [h]
  exact q
theorem W_ex {m : M α} (h : W m s (fun a s' => True) (fun _ _ _ => False)) : ∃ a s', m s = .ok a s' := by
  unfold W at h
  split at h
  · rename_i a s' e; exact ⟨a, s', e⟩
  · exact h.elim
  · exact h.elim
theorem W_get {m : M α} {P : α → Store → Prop} (h : W m s P (fun _ _ _ => False)) : ∃ a s', m s = .ok a s' ∧ P a s' := by
  unfold W at h
  split at h
  · rename_i a s' e; exact ⟨a, s', e, h⟩
  · exact h.elim
  · exact h.elim
theorem W_bnd {m : M α} {f : α → M β} {Q : β → Store → Prop} : W (bnd m f) s Q E = W m s (fun a s' => W (f a) s' Q E) E := by
  unfold W bnd
  cases m s <;> rfl
theorem W_ret {a : α} {Q : α → Store → Prop} : W (ret a) s Q E = Q a s := by with_unfolding_all rfl
theorem W_ite {c : Prop} [Decidable c] {a b : M α} {Q : α → Store → Prop} : W (if c then a else b) s Q E = if c then W a s Q E else W b s Q E := by split <;> rfl
variable {Q : PV → Store → Prop}
theorem W_kst {v : PV} : W (kst v ρ) s Q E = Q v s := by with_unfolding_all rfl
theorem W_eL0 {Q : List PV → Store → Prop} : W (eL [] ρ) s Q E = Q [] s := by with_unfolding_all rfl
theorem W_eL1 {Q : List PV → Store → Prop} {e : CE} {r : List CE} : W (eL (e :: r) ρ) s Q E = W (e ρ) s (fun v s' => W (eL r ρ) s' (fun vs s' => Q (v :: vs) s') E) E := by
  show W (bnd (e ρ) fun v => bnd (eL r ρ) fun vs => ret (v :: vs)) s Q E = _
  rw [W_bnd]
  congr 1
  funext v s'
  rw [W_bnd]
  with_unfolding_all rfl
theorem eL_len : ∀ {es : List CE} {s s' : Store} {vs : List PV}, eL es ρ s = .ok vs s' → vs.length = es.length
  | [], s, s', vs, h => by cases h; rfl
  | e :: r, s, s', vs, h => by
    unfold eL bnd at h
    cases h1 : e ρ s with
    | ok v s1 =>
      rw [h1] at h
      dsimp only at h
      cases h2 : eL r ρ s1 with
      | ok w s2 =>
        rw [h2] at h
        cases h
        rw [List.length_cons, List.length_cons, eL_len h2]
      | _ => rw [h2] at h; cases h
    | _ => rw [h1] at h; cases h
theorem W_eTup {es : List CE} (h : es.length ≤ 1000) : W (eTup es ρ) s Q E = W (eL es ρ) s (fun vs s' => Q (.tup vs) s') E := by
  unfold eTup W bnd
  cases e : eL es ρ s with
  | ok vs s' =>
    dsimp only
    rw [if_pos (by rw [eL_len e]; exact Nat.le_trans h (by decide))]
    rfl
  | _ => rfl
theorem W_eLst {es : List CE} (h : es.length ≤ 1000) : W (eLst es ρ) s Q E = W (eL es ρ) s (fun vs s' => Q (.ref s'.length) (s' ++ [.lst vs])) E := by
  unfold eLst W bnd
  cases e : eL es ρ s with
  | ok vs s' =>
    dsimp only
    rw [if_pos (by rw [eL_len e]; exact Nat.le_trans h (by decide))]
    rfl
  | _ => rfl
theorem w_dct {kl : List Key} {es : List CE} (h : W (eL es ρ) (s ++ [.dct []]) (fun vs s' => s'[s.length]? = some (.dct []) ∧ Q (.ref s.length) (s'.set s.length (.dct (mergeP [] (kl.zip vs))))) E) : W (eDct kl es ρ) s Q E := by
  unfold W at h
  unfold eDct W
  cases e : eL es ρ (s ++ [.dct []]) with
  | ok vs s' =>
    rw [e] at h
    obtain ⟨e1, h⟩ := h
    dsimp only
    rw [e]
    dsimp only
    rw [e1]
    exact h
  | exc c fs s' => rw [e] at h; dsimp only; rw [e]; exact h
  | bad => rw [e] at h; exact (show False from h).elim
theorem W_e2 {f : PV → PV → M PV} {a b : CE} : W (e2 f a b ρ) s Q E = W (a ρ) s (fun x s' => W (b ρ) s' (fun y s' => W (f x y) s' Q E) E) E := by
  unfold e2
  rw [W_bnd]
  congr 1
  funext v s'
  rw [W_bnd]
theorem W_e1 {f : PV → M PV} {a : CE} : W (e1 f a ρ) s Q E = W (a ρ) s (fun x s' => W (f x) s' Q E) E := by
  unfold e1
  rw [W_bnd]
theorem W_eCmp {op : CmpOp} {a b : CE} : W (eCmp op a b ρ) s Q E = W (a ρ) s (fun x s' => W (b ρ) s' (fun y s' => W (cmpP op x y) s' (fun b s' => Q (.bl b) s') E) E) E := by
  unfold eCmp
  rw [W_bnd]
  congr 1
  funext v s'
  rw [W_bnd]
  congr 1
  funext w s'
  rw [W_bnd]
  with_unfolding_all rfl
theorem W_eAnd {a b : CE} : W (eAnd a b ρ) s Q E = W (a ρ) s (fun x s' => W (match x with
  | .bl true => b ρ
  | .bl false => ret (.bl false)
  | _ => stop) s' Q E) E := by
  unfold eAnd
  exact W_bnd
theorem W_eOr {a b : CE} : W (eOr a b ρ) s Q E = W (a ρ) s (fun x s' => W (match x with
  | .bl true => ret (.bl true)
  | .bl false => b ρ
  | _ => stop) s' Q E) E := by
  unfold eOr
  exact W_bnd
theorem W_eIf {c : CT} {a b : CE} : W (eIf c a b ρ) s Q E = W (c ρ) s (fun t s' => if t = true then W (a ρ) s' Q E else W (b ρ) s' Q E) E := by
  unfold eIf
  rw [W_bnd]
  congr 1
  funext t s'
  rw [W_ite]
theorem W_ePart {Q : Option Int → Store → Prop} {e : CE} : W (ePart e ρ) s Q E = W (e ρ) s (fun v s' => W (match v with
    | .int i => ret (some i)
    | _ => stop) s' Q E) E := by
  unfold ePart
  exact W_bnd
theorem W_eNo {Q : Option Int → Store → Prop} : W (eNo ρ) s Q E = Q none s := by with_unfolding_all rfl
theorem W_eSl {a : CE} {lo hi : Sl → M (Option Int)} : W (eSl a lo hi ρ) s Q E = W (a ρ) s (fun x s' => W (lo ρ) s' (fun lo s' => W (hi ρ) s' (fun hi s' => W (slP x lo hi) s' Q E) E) E) E := by
  unfold eSl
  rw [W_bnd]
  congr 1
  funext v s'
  rw [W_bnd]
  congr 1
  funext w s'
  rw [W_bnd]
theorem W_eCall {f : List PV → M PV} {es : List CE} : W (eCall f es ρ) s Q E = W (eL es ρ) s (fun vs s' => W (f vs) s' Q E) E := by
  unfold eCall
  rw [W_bnd]
theorem W_eMeth {L : Lk} {o : CE} {m : Str} {es : List CE} : W (eMeth L o m es ρ) s Q E = W (o ρ) s (fun x s' => W (methP L x m (eL es ρ)) s' Q E) E := by
  unfold eMeth
  rw [W_bnd]
theorem W_eLc {elt : CE} {asg : PV → Sl → Option Sl} {ts : CT} {src : Sl → M Sc} {own : List Nat} : W (eLc elt asg ts src own ρ) s Q E = W (src ρ) s (fun src s' => W (lcX elt asg ts src s'.length (wipeP ρ own) (lenI s' src + 1) 0) (s' ++ [.lst []]) Q E) E := by
  unfold eLc
  rw [W_bnd]
  with_unfolding_all rfl
variable {P : Bool → Store → Prop}
theorem W_tYes : W (tYes ρ) s P E = P true s := by with_unfolding_all rfl
theorem W_tNot {a : CT} : W (tNot a ρ) s P E = W (a ρ) s (fun b s' => P (!b) s') E := by
  unfold tNot
  rw [W_bnd]
  with_unfolding_all rfl
theorem W_tAnd {a b : CT} : W (tAnd a b ρ) s P E = W (a ρ) s (fun t s' => if t = true then W (b ρ) s' P E else P false s') E := by
  unfold tAnd
  rw [W_bnd]
  congr 1
  funext t s'
  rw [W_ite]
  with_unfolding_all rfl
theorem W_tOr {a b : CT} : W (tOr a b ρ) s P E = W (a ρ) s (fun t s' => if t = true then P true s' else W (b ρ) s' P E) E := by
  unfold tOr
  rw [W_bnd]
  congr 1
  funext t s'
  rw [W_ite]
  with_unfolding_all rfl
theorem W_tAnd3 {a b c : CT} : W (tAnd3 a b c ρ) s P E = W (tAnd a (tAnd b c) ρ) s P E := by with_unfolding_all rfl
theorem W_tOr3 {a b c : CT} : W (tOr3 a b c ρ) s P E = W (tOr a (tOr b c) ρ) s P E := by with_unfolding_all rfl
theorem W_tCmp {op : CmpOp} {a b : CE} : W (tCmp op a b ρ) s P E = W (a ρ) s (fun x s' => W (b ρ) s' (fun y s' => W (cmpP op x y) s' P E) E) E := by
  unfold tCmp
  rw [W_bnd]
  congr 1
  funext v s'
  rw [W_bnd]
theorem W_tTru {a : CE} : W (tTru a ρ) s P E = W (a ρ) s (fun x s' => W (truP x) s' P E) E := by
  unfold tTru
  rw [W_bnd]
theorem W_sWalk {Q : Sc → Store → Prop} {a : CE} : W (sWalk a ρ) s Q E = W (a ρ) s (fun x s' => W (walkP x) s' Q E) E := by
  unfold sWalk
  rw [W_bnd]
theorem W_sOf {Q : Sc → Store → Prop} {f : List PV → M Sc} {es : List CE} : W (sOf f es ρ) s Q E = W (eL es ρ) s (fun vs s' => W (f vs) s' Q E) E := by
  unfold sOf
  rw [W_bnd]
theorem W_rg1 {Q : Sc → Store → Prop} {n : Int} (h : inRange n = true) : W (rg1 [.int n]) s Q E = Q (.items (rangeL n.toNat 0)) s := by
  show W (if inRange n = true then ret (.items (rangeL n.toNat 0)) else stop) s Q E = _
  rw [if_pos h]
  with_unfolding_all rfl
theorem W_en1 {Q : Sc → Store → Prop} {v : PV} : W (en1 [v]) s Q E = W (enumP v) s Q E := by with_unfolding_all rfl
theorem W_enT {Q : Sc → Store → Prop} {l : List PV} : W (enumP (.tup l)) s Q E = Q (.items (enumL 0 l)) s := by with_unfolding_all rfl
theorem W_walkT {Q : Sc → Store → Prop} {l : List PV} : W (walkP (.tup l)) s Q E = Q (.items l) s := by with_unfolding_all rfl
variable {R : Fl → Sl → Store → Prop}
def thn (f : Fl) (a b : Prop) : Prop := match f with
  | .next => a
  | _ => b
theorem thn_next {a b : Prop} : thn .next a b = a := rfl
theorem thn_ret {a b : Prop} {v : PV} : thn (.ret v) a b = b := rfl
theorem thn_brk {a b : Prop} : thn .brk a b = b := rfl
theorem thn_cont {a b : Prop} : thn .cont a b = b := rfl
theorem SW_blk0 : SW (cBlk []) ρ s R E = R .next ρ s := by with_unfolding_all rfl
theorem SW_blk1 {st : SM} {r : List SM} : SW (cBlk (st :: r)) ρ s R E = SW st ρ s (fun f ρ' s' => thn f (SW (cBlk r) ρ' s' R E) (R f ρ' s')) E := by
  have e : cBlk (st :: r) ρ s = (match st ρ s with
    | .ok .next ρ' s' => cBlk r ρ' s'
    | o => o) := by with_unfolding_all rfl
  unfold SW
  rw [e]
  cases st ρ s with
  | ok f ρ' s' => cases f <;> rfl
  | _ => rfl
theorem SW_pass : SW cPass ρ s R E = R .next ρ s := by with_unfolding_all rfl
theorem SW_break : SW cBreak ρ s R E = R .brk ρ s := by with_unfolding_all rfl
theorem SW_cont : SW cCont ρ s R E = R .cont ρ s := by with_unfolding_all rfl
theorem SW_exp {e : CE} : SW (cExp e) ρ s R E = W (e ρ) s (fun _ s' => R .next ρ s') E := by
  unfold SW W cExp bndS
  cases e ρ s <;> rfl
theorem SW_ret {e : CE} : SW (cRet e) ρ s R E = W (e ρ) s (fun v s' => R (.ret v) ρ s') E := by
  unfold SW W cRet bndS
  cases e ρ s <;> rfl
theorem SW_retN : SW cRetN ρ s R E = R (.ret .non) ρ s := by with_unfolding_all rfl
theorem SW_asg {i : Nat} {e : CE} : SW (cAsg i e) ρ s R E = W (e ρ) s (fun v s' => R .next (ρ.set i (some v)) s') E := by
  unfold SW W cAsg bndS
  cases e ρ s <;> rfl
theorem SW_ixSet {o i e : CE} : SW (cIxSet o i e) ρ s R E = W (e ρ) s (fun v s' => W (o ρ) s' (fun x s' => W (i ρ) s' (fun j s' => W (ixSet x j v) s' (fun _ s' => R .next ρ s') E) E) E) E := by
  unfold SW W cIxSet bndS
  cases e ρ s with
  | ok v s1 =>
    dsimp only
    cases o ρ s1 with
    | ok x s2 =>
      dsimp only
      cases i ρ s2 with
      | ok j s3 =>
        dsimp only
        cases ixSet x j v s3 <;> rfl
      | _ => rfl
    | _ => rfl
  | _ => rfl
theorem SW_fldSet {L : Lk} {f : Str} {o e : CE} : SW (cFldSet L o f e) ρ s R E = W (e ρ) s (fun v s' => W (o ρ) s' (fun x s' => W (fldSet L x f v) s' (fun _ s' => R .next ρ s') E) E) E := by
  unfold SW W cFldSet bndS
  cases e ρ s with
  | ok v s1 =>
    dsimp only
    cases o ρ s1 with
    | ok x s2 =>
      dsimp only
      cases fldSet L x f v s2 <;> rfl
    | _ => rfl
  | _ => rfl
theorem SW_par {es : List CE} {t : Tgt} : SW (cPar es t.run) ρ s R E = W (eL es ρ) s (fun vs s' => ∃ ρ', t.run (.tup vs) ρ = some ρ' ∧ R .next ρ' s') E := by
  unfold SW W cPar bndS
  cases eL es ρ s with
  | ok vs s1 =>
    dsimp only
    cases t.run (.tup vs) ρ with
    | none => simp
    | some ρ' => simp
  | _ => rfl
theorem SW_unp {e : CE} {t : Tgt} : SW (cUnp e t.run) ρ s R E = W (e ρ) s (fun v s' => ∃ ρ', t.run v ρ = some ρ' ∧ R .next ρ' s') E := by
  unfold SW W cUnp bndS
  cases e ρ s with
  | ok vs s1 =>
    dsimp only
    cases t.run vs ρ with
    | none => simp
    | some ρ' => simp
  | _ => rfl
theorem SW_if {c : CT} {a b : SM} : SW (cIf c a b) ρ s R E = W (c ρ) s (fun t s' => if t = true then SW a ρ s' R E else SW b ρ s' R E) E := by
  unfold SW W cIf bndS
  cases c ρ s with
  | ok t s1 =>
    dsimp only
    cases t <;> rfl
  | _ => rfl
theorem SW_for {src : Sl → M Sc} {a : PV → Sl → Option Sl} {b : SM} : SW (cFor src a b) ρ s R E = W (src ρ) s (fun src s' => SW (forX b a src (lenI s' src + 1) 0) ρ s' R E) E := by
  unfold SW W cFor bndS
  cases src ρ s <;> rfl
theorem SW_whl {c : CT} {b : SM} : SW (cWhl c b) ρ s R E = SW (whlX b c 100000) ρ s R E := by with_unfolding_all rfl
theorem SW_rai0 {c : Nat} : SW (cRai0 c) ρ s R E = E c [] s := by with_unfolding_all rfl
theorem SW_rai {c : Nat} {fl : List Str} {es : List CE} (h : es.length = fl.length) (h2 : fl.length ≤ 5) : SW (cRai c fl es) ρ s R E = W (eL es ρ) s (fun vs s' => E c (fl.zip vs) s') E := by
  unfold SW W cRai bndS
  cases e : eL es ρ s with
  | ok vs s1 =>
    dsimp only
    rw [if_pos ⟨by rw [eL_len e, h], h2⟩]
  | _ => rfl
/-- a def's end -/
def fnR (Q : PV → Store → Prop) : Fl → Sl → Store → Prop := fun f _ s' => match f with
  | .next => Q .non s'
  | .ret v => Q v s'
  | _ => False
theorem if_ff {a b : Prop} (h : b) : if false = true then a else b := h
theorem if_tt {a b : Prop} (h : a) : if true = true then a else b := h
theorem if_r0 {c : Bool} {a b : Prop} (h : c = false) (x : b) : if c = true then a else b := by rw [h]; exact x
theorem if_r1 {c : Bool} {a b : Prop} (h : c = true) (x : a) : if c = true then a else b := by rw [h]; exact x
theorem fnR_n {ρ : Sl} (h : Q .non s) : fnR Q .next ρ s := h
theorem fnR_r {ρ : Sl} {v : PV} (h : Q v s) : fnR Q (.ret v) ρ s := h
/-- blocks, one behind the other -/
def cB (l : List (List SM)) : SM := cBlk l.flatten
theorem W_cFn {N : Nat} {b : SM} {vs : List PV} (h : SW b (vs.map some ++ List.replicate (N - vs.length) none) s (fnR Q) E) : W (cFn N b vs) s Q E := by
  unfold fnR SW at h
  unfold W cFn
  cases e : b (vs.map some ++ List.replicate (N - vs.length) none) s with
  | ok f ρ' s' =>
    rw [e] at h
    cases f <;> exact h
  | exc c fs ρ' s' => rw [e] at h; exact h
  | bad => rw [e] at h; exact h
theorem k_in {l : List SM} (h : SW (cB [l]) ρ s R E) : SW (cBlk l) ρ s R E := by
  unfold cB at h
  simpa using h
variable {l : List SM} {r : List (List SM)} {v : PV} {s' : Store}
theorem SW_cB1 {st : SM} : SW (cB ((st :: l) :: r)) ρ s R E = SW st ρ s (fun f ρ' s' => thn f (SW (cB (l :: r)) ρ' s' R E) (R f ρ' s')) E := by
  unfold cB
  rw [List.flatten_cons, List.cons_append, SW_blk1, List.flatten_cons]
theorem cB_app : ∀ {as : List SM} {ρ : Sl} {s : Store}, SW (cB (as :: r)) ρ s R E = SW (cBlk as) ρ s (fun f ρ' s' => thn f (SW (cB r) ρ' s' R E) (R f ρ' s')) E
  | [], ρ, s => by rw [SW_blk0]; rfl
  | st :: as, ρ, s => by
    rw [SW_cB1, SW_blk1]
    congr 1
    funext f ρ' s'
    cases f with
    | next => exact cB_app
    | _ => rfl
/-- what stands behind a loop's end -/
def sq (r : List (List SM)) (R : Fl → Sl → Store → Prop) (E : XP) : Fl → Sl → Store → Prop := fun f ρ' s' => thn f (SW (cB r) ρ' s' R E) (R f ρ' s')
theorem sq_n (h : SW (cB r) ρ s R E) : sq r R E .next ρ s := h
theorem sq_r (h : R (.ret v) ρ s) : sq r R E (.ret v) ρ s := h
/-- what stands behind a turn -/
def lp (A R : Fl → Sl → Store → Prop) : Fl → Sl → Store → Prop := fun f ρ s => match f with
  | .next => A .next ρ s
  | .cont => A .next ρ s
  | .brk => R .next ρ s
  | .ret v => R (.ret v) ρ s
variable {A : Fl → Sl → Store → Prop}
theorem lp_n (h : A .next ρ s) : lp A R .next ρ s := h
theorem lp_c (h : A .next ρ s) : lp A R .cont ρ s := h
theorem lp_b (h : R .next ρ s) : lp A R .brk ρ s := h
theorem lp_r (h : R (.ret v) ρ s) : lp A R (.ret v) ρ s := h
theorem k_end (h : R .next ρ s) : SW (cB []) ρ s R E := by
  unfold cB
  rw [List.flatten_nil, SW_blk0]
  exact h
theorem k_pop (h : SW (cB r) ρ s R E) : SW (cB ([] :: r)) ρ s R E := h
theorem k_asg {i : Nat} {e : CE} (h : W (e ρ) s (fun v s' => SW (cB (l :: r)) (ρ.set i (some v)) s' R E) E) : SW (cB ((cAsg i e :: l) :: r)) ρ s R E := by
  rw [SW_cB1, SW_asg]
  exact h
theorem k_exp {e : CE} (h : W (e ρ) s (fun _ s' => SW (cB (l :: r)) ρ s' R E) E) : SW (cB ((cExp e :: l) :: r)) ρ s R E := by
  rw [SW_cB1, SW_exp]
  exact h
theorem k_ret {e : CE} (h : W (e ρ) s (fun v s' => R (.ret v) ρ s') E) : SW (cB ((cRet e :: l) :: r)) ρ s R E := by
  rw [SW_cB1, SW_ret]
  exact h
theorem k_retN (h : R (.ret .non) ρ s) : SW (cB ((cRetN :: l) :: r)) ρ s R E := by
  rw [SW_cB1, SW_retN]
  exact h
theorem k_pass (h : SW (cB (l :: r)) ρ s R E) : SW (cB ((cPass :: l) :: r)) ρ s R E := by
  rw [SW_cB1, SW_pass]
  exact h
theorem k_cont (h : R .cont ρ s) : SW (cB ((cCont :: l) :: r)) ρ s R E := by
  rw [SW_cB1, SW_cont]
  exact h
theorem k_break (h : R .brk ρ s) : SW (cB ((cBreak :: l) :: r)) ρ s R E := by
  rw [SW_cB1, SW_break]
  exact h
theorem k_ixSet {o i e : CE} (h : W (e ρ) s (fun v s' => W (o ρ) s' (fun x s' => W (i ρ) s' (fun j s' => W (ixSet x j v) s' (fun _ s' => SW (cB (l :: r)) ρ s' R E) E) E) E) E) : SW (cB ((cIxSet o i e :: l) :: r)) ρ s R E := by
  rw [SW_cB1, SW_ixSet]
  exact h
theorem k_fldSet {L : Lk} {f : Str} {o e : CE} (h : W (e ρ) s (fun v s' => W (o ρ) s' (fun x s' => W (fldSet L x f v) s' (fun _ s' => SW (cB (l :: r)) ρ s' R E) E) E) E) : SW (cB ((cFldSet L o f e :: l) :: r)) ρ s R E := by
  rw [SW_cB1, SW_fldSet]
  exact h
theorem k_par {es : List CE} {t : Tgt} (h : W (eL es ρ) s (fun vs s' => ∃ ρ', t.run (.tup vs) ρ = some ρ' ∧ SW (cB (l :: r)) ρ' s' R E) E) : SW (cB ((cPar es t.run :: l) :: r)) ρ s R E := by
  rw [SW_cB1, SW_par]
  exact h
theorem k_unp {e : CE} {t : Tgt} (h : W (e ρ) s (fun vs s' => ∃ ρ', t.run vs ρ = some ρ' ∧ SW (cB (l :: r)) ρ' s' R E) E) : SW (cB ((cUnp e t.run :: l) :: r)) ρ s R E := by
  rw [SW_cB1, SW_unp]
  exact h
theorem k_if {c : CT} {as bs : List SM} (h : W (c ρ) s (fun t s' => if t = true then SW (cB (as :: l :: r)) ρ s' R E else SW (cB (bs :: l :: r)) ρ s' R E) E) : SW (cB ((cIf c (cBlk as) (cBlk bs) :: l) :: r)) ρ s R E := by
  rw [SW_cB1, SW_if]
  simp only [cB_app (r := l :: r)] at h
  exact h
theorem k_if1 {c : CT} {as bs : List SM} (e : c ρ s = .ok true s') (h : SW (cB (as :: l :: r)) ρ s' R E) : SW (cB ((cIf c (cBlk as) (cBlk bs) :: l) :: r)) ρ s R E :=
  k_if (W_ok e h)
theorem k_if0 {c : CT} {as bs : List SM} (e : c ρ s = .ok false s') (h : SW (cB (bs :: l :: r)) ρ s' R E) : SW (cB ((cIf c (cBlk as) (cBlk bs) :: l) :: r)) ρ s R E :=
  k_if (W_ok e (by exact h))
theorem k_for {src : Sl → M Sc} {a : PV → Sl → Option Sl} {b : SM} (h : W (src ρ) s (fun src s' => SW (forX b a src (lenI s' src + 1) 0) ρ s' (sq (l :: r) R E) E) E) : SW (cB ((cFor src a b :: l) :: r)) ρ s R E := by
  rw [SW_cB1, SW_for]
  exact h
theorem k_forE {src : Sl → M Sc} {a : PV → Sl → Option Sl} {b : SM} (its : List PV) (n : Nat) (hs : src ρ s = .ok (.items its) s') (hn : its.length + 1 = n) (h : SW (forX b a (.items its) n 0) ρ s' (sq (l :: r) R E) E) : SW (cB ((cFor src a b :: l) :: r)) ρ s R E := by
  subst hn
  exact k_for (W_ok hs h)
theorem k_whl {c : CT} {b : SM} (h : SW (whlX b c 100000) ρ s (sq (l :: r) R E) E) : SW (cB ((cWhl c b :: l) :: r)) ρ s R E := by
  rw [SW_cB1, SW_whl]
  exact h
theorem k_rai0 {c : Nat} (h : E c [] s) : SW (cB ((cRai0 c :: l) :: r)) ρ s R E := by
  rw [SW_cB1, SW_rai0]
  exact h
theorem k_rai {c : Nat} {fl : List Str} {es : List CE} (h1 : es.length = fl.length) (h2 : fl.length ≤ 5) (h : W (eL es ρ) s (fun vs s' => E c (fl.zip vs) s') E) : SW (cB ((cRai c fl es :: l) :: r)) ρ s R E := by
  rw [SW_cB1, SW_rai h1 h2]
  exact h
theorem k_try {T : Tab} {b : SM} {c' : Nat} {fl0 : List Str} {sui : List Str → List (Str × PV) → Option Fl} {gone : Fl → Sl → Store → RS} (hc : excF T c' = some fl0)
    (h : SW b ρ s (sq (l :: r) R E) (fun c fs s' => ∃ fl, excF T c = some fl ∧ if T.sub c c' = true then ∀ ρ', ρ'.length = ρ.length → ∃ g, sui fl fs = some g ∧ SW (fun ρ s => gone g ρ s) ρ' s' (sq (l :: r) R E) E else E c fs s'))
    (hl : ∀ c fs ρ' s', b ρ s = .exc c fs ρ' s' → ρ'.length = ρ.length) : SW (cB ((cTry T b c' sui gone :: l) :: r)) ρ s R E := by
  rw [SW_cB1]
  unfold SW cTry
  unfold SW sq at h
  cases e : b ρ s with
  | ok f ρ' s' => rw [e] at h; with_unfolding_all exact h
  | bad => rw [e] at h; exact h
  | exc c fs ρ' s' =>
    rw [e] at h
    obtain ⟨fl, e1, h⟩ := h
    dsimp only
    rw [e1, hc]
    dsimp only
    by_cases hs : T.sub c c' = true
    · rw [if_pos hs] at h ⊢
      obtain ⟨g, hg, h⟩ := h ρ' (hl _ _ _ _ e)
      rw [hg]
      with_unfolding_all exact h
    · rw [if_neg hs] at h ⊢
      exact h
theorem w_e2 {f : PV → PV → M PV} {a b : CE} (h : W (a ρ) s (fun x s' => W (b ρ) s' (fun y s' => W (f x y) s' Q E) E) E) : W (e2 f a b ρ) s Q E := by rw [W_e2]; exact h
theorem w_e1 {f : PV → M PV} {a : CE} (h : W (a ρ) s (fun x s' => W (f x) s' Q E) E) : W (e1 f a ρ) s Q E := by rw [W_e1]; exact h
theorem w_cmp {op : CmpOp} {a b : CE} (h : W (a ρ) s (fun x s' => W (b ρ) s' (fun y s' => W (cmpP op x y) s' (fun b s' => Q (.bl b) s') E) E) E) : W (eCmp op a b ρ) s Q E := by rw [W_eCmp]; exact h
theorem w_call {f : List PV → M PV} {es : List CE} (h : W (eL es ρ) s (fun vs s' => W (f vs) s' Q E) E) : W (eCall f es ρ) s Q E := by rw [W_eCall]; exact h
theorem w_meth {L : Lk} {o : CE} {m : Str} {es : List CE} (h : W (o ρ) s (fun x s' => W (methP L x m (eL es ρ)) s' Q E) E) : W (eMeth L o m es ρ) s Q E := by rw [W_eMeth]; exact h
theorem w_tup {es : List CE} (hl : es.length ≤ 1000) (h : W (eL es ρ) s (fun vs s' => Q (.tup vs) s') E) : W (eTup es ρ) s Q E := by rw [W_eTup hl]; exact h
theorem w_lst {es : List CE} (hl : es.length ≤ 1000) (h : W (eL es ρ) s (fun vs s' => Q (.ref s'.length) (s' ++ [.lst vs])) E) : W (eLst es ρ) s Q E := by rw [W_eLst hl]; exact h
theorem w_nil {Q : List PV → Store → Prop} (h : Q [] s) : W (eL [] ρ) s Q E := by rw [W_eL0]; exact h
theorem w_cons {Q : List PV → Store → Prop} {e : CE} {r : List CE} (h : W (e ρ) s (fun v s' => W (eL r ρ) s' (fun vs s' => Q (v :: vs) s') E) E) : W (eL (e :: r) ρ) s Q E := by rw [W_eL1]; exact h
theorem w_if {c : CT} {a b : CE} (h : W (c ρ) s (fun t s' => if t = true then W (a ρ) s' Q E else W (b ρ) s' Q E) E) : W (eIf c a b ρ) s Q E := by rw [W_eIf]; exact h
theorem w_if1 {c : CT} {a b : CE} (e : c ρ s = .ok true s') (h : W (a ρ) s' Q E) : W (eIf c a b ρ) s Q E := w_if (W_ok e h)
theorem w_if0 {c : CT} {a b : CE} (e : c ρ s = .ok false s') (h : W (b ρ) s' Q E) : W (eIf c a b ρ) s Q E := w_if (W_ok e (by exact h))
theorem w_sl {a : CE} {lo hi : Sl → M (Option Int)} (h : W (a ρ) s (fun x s' => W (lo ρ) s' (fun lo s' => W (hi ρ) s' (fun hi s' => W (slP x lo hi) s' Q E) E) E) E) : W (eSl a lo hi ρ) s Q E := by rw [W_eSl]; exact h
theorem w_part {Q : Option Int → Store → Prop} {e : CE} (h : W (e ρ) s (fun v s' => W (match v with
    | .int i => ret (some i)
    | _ => stop) s' Q E) E) : W (ePart e ρ) s Q E := by rw [W_ePart]; exact h
theorem w_lc {elt : CE} {asg : PV → Sl → Option Sl} {ts : CT} {src : Sl → M Sc} {own : List Nat} (h : W (src ρ) s (fun src s' => W (lcX elt asg ts src s'.length (wipeP ρ own) (lenI s' src + 1) 0) (s' ++ [.lst []]) Q E) E) : W (eLc elt asg ts src own ρ) s Q E := by rw [W_eLc]; exact h
theorem w_tnot {P : Bool → Store → Prop} {a : CT} (h : W (a ρ) s (fun b s' => P (!b) s') E) : W (tNot a ρ) s P E := by rw [W_tNot]; exact h
theorem w_tand {P : Bool → Store → Prop} {a b : CT} (h : W (a ρ) s (fun t s' => if t = true then W (b ρ) s' P E else P false s') E) : W (tAnd a b ρ) s P E := by rw [W_tAnd]; exact h
theorem w_tor {P : Bool → Store → Prop} {a b : CT} (h : W (a ρ) s (fun t s' => if t = true then P true s' else W (b ρ) s' P E) E) : W (tOr a b ρ) s P E := by rw [W_tOr]; exact h
theorem w_tcmp {P : Bool → Store → Prop} {op : CmpOp} {a b : CE} (h : W (a ρ) s (fun x s' => W (b ρ) s' (fun y s' => W (cmpP op x y) s' P E) E) E) : W (tCmp op a b ρ) s P E := by rw [W_tCmp]; exact h
theorem w_ttru {P : Bool → Store → Prop} {a : CE} (h : W (a ρ) s (fun x s' => W (truP x) s' P E) E) : W (tTru a ρ) s P E := by rw [W_tTru]; exact h
theorem w_walk {Q : Sc → Store → Prop} {a : CE} (h : W (a ρ) s (fun x s' => W (walkP x) s' Q E) E) : W (sWalk a ρ) s Q E := by rw [W_sWalk]; exact h
theorem w_of {Q : Sc → Store → Prop} {f : List PV → M Sc} {es : List CE} (h : W (eL es ρ) s (fun vs s' => W (f vs) s' Q E) E) : W (sOf f es ρ) s Q E := by rw [W_sOf]; exact h
end
theorem callB_c {T : Tab} {call mk : Nat → List PV → M PV} {i n : Nat} {F : FnI} {b : SM} {vs : List PV} (h : T.fns[i]? = some F) (hq : blk (evS ⟨T, call, mk, F.N⟩ F.sc 20) F.body = b) (hn : F.N.length = n) (hl : vs.length = F.ps.length) : callB T call mk i vs = cFn n b vs := by
  funext s
  unfold callB cFn
  rw [h]
  dsimp only
  rw [if_pos hl, hq, ← hn]
  with_unfolding_all rfl
def iniN (T : Tab) (d : Nat) : Nat → List PV → M PV := (call2 T d).2
theorem iniN_succ {T : Tab} {d : Nat} : iniN T (d + 1) = callN T d := rfl
theorem callN_c {T : Tab} {d i n : Nat} {F : FnI} {b : SM} {vs : List PV} (h : T.fns[i]? = some F) (hq : blk (evS ⟨T, callN T d, iniN T d, F.N⟩ F.sc 20) F.body = b) (hn : F.N.length = n) (hl : vs.length = F.ps.length) : callN T (d + 1) i vs = cFn n b vs :=
  callB_c h hq hn hl
end Z

namespace Z
open PySem L2
section
variable {α : Type} {s : Store} {E : XP} {ρ : Sl} {Q : PV → Store → Prop} {R : Fl → Sl → Store → Prop}
theorem w_get {n : Nat} {l : List (Key × PV)} {k : Str} {v : PV} (hs : s[n]? = some (.dct l)) (hk : dget l (.inr k) = some v) (h : Q v s) : W (ixP (.ref n) (.str k)) s Q E := by
  refine W_ok (a := v) (s' := s) ?_ h
  show (match s[n]? with
    | some (.lst l) => _
    | some (.rol l) => _
    | some (.dct l) => match keyOf (.str k) with
      | some k => match dget l k with
        | some v => RE.ok v s
        | none => .bad
      | none => .bad
    | _ => .bad) = _
  rw [hs]
  show (match dget l (.inr k) with
    | some v => RE.ok v s
    | none => .bad) = _
  rw [hk]
theorem w_at {n : Nat} {l : List PV} {i : Int} {v : PV} (hs : lstOf s n = some l) (hk : atI l i = some v) (h : Q v s) : W (ixP (.ref n) (.int i)) s Q E := by
  refine W_ok (a := v) (s' := s) ?_ h
  have e : atP l i s = .ok v s := by unfold atP; rw [hk]; rfl
  unfold lstOf at hs
  show (match s[n]? with
    | some (.lst l) => atP l i s
    | some (.rol l) => atP l i s
    | some (.dct l) => _
    | _ => .bad) = _
  split at hs
  · rename_i q; cases hs; rw [q]; exact e
  · rename_i q; cases hs; rw [q]; exact e
  · cases hs
theorem w_put {n : Nat} {l : List (Key × PV)} {k : Str} {v : PV} (hs : s[n]? = some (.dct l)) (hl : l.length ≤ 1000) (h : Q .non (s.set n (.dct (dput l (.inr k) v)))) : W (ixSet (.ref n) (.str k) v) s Q E := by
  refine W_ok ?_ h
  show (match s[n]?, keyOf (.str k) with
    | some (.dct l), some k => if l.length < sizeLine then RE.ok PV.non (s.set n (.dct (dput l k v))) else .bad
    | _, _ => .bad) = _
  rw [hs]
  show (if l.length < sizeLine then RE.ok PV.non (s.set n (.dct (dput l (.inr k) v))) else .bad) = _
  rw [if_pos (Nat.lt_of_le_of_lt hl (by decide))]
theorem w_isin {P : Bool → Store → Prop} {n : Nat} {l : List (Key × PV)} {k : Str} (hs : s[n]? = some (.dct l)) (h : P (dget l (.inr k)).isSome s) : W (inP (.str k) (.ref n)) s P E := by
  refine W_ok ?_ h
  show (match s[n]?, keyOf (.str k) with
    | some (.dct l), some k => RE.ok (dget l k).isSome s
    | _, _ => .bad) = _
  rw [hs]
  rfl
theorem w_nin {P : Bool → Store → Prop} {n : Nat} {l : List (Key × PV)} {k : Str} (hs : s[n]? = some (.dct l)) (h : P (!(dget l (.inr k)).isSome) s) : W (cmpP .NotIn (.str k) (.ref n)) s P E := by
  show W (bnd (inP (.str k) (.ref n)) fun b => ret (!b)) s P E
  rw [W_bnd]
  exact w_isin hs (by rw [W_ret]; exact h)
theorem w_in {P : Bool → Store → Prop} {n : Nat} {l : List (Key × PV)} {k : Str} (hs : s[n]? = some (.dct l)) (h : P (dget l (.inr k)).isSome s) : W (cmpP .In (.str k) (.ref n)) s P E := w_isin hs h
theorem w_lenL {n : Nat} {l : List PV} (hs : lstOf s n = some l) (h : Q (.int (l.length : Nat)) s) : W (bltP .len [.ref n]) s Q E := by
  refine W_ok (a := .int (l.length : Nat)) (s' := s) ?_ h
  unfold lstOf at hs
  show (match s[n]? with
    | some (.lst l) => RE.ok (PV.int (l.length : Nat)) s
    | some (.rol l) => .ok (PV.int (l.length : Nat)) s
    | some (.dct l) => .ok (PV.int (l.length : Nat)) s
    | _ => .bad) = _
  split at hs
  · rename_i q; cases hs; rw [q]
  · rename_i q; cases hs; rw [q]
  · cases hs
theorem w_addT {l r : List PV} (h : l.length + r.length ≤ 100000) (q : Q (.tup (l ++ r)) s) : W (binP .Add (.tup l) (.tup r)) s Q E := by
  refine W_ok ?_ q
  show (if l.length + r.length ≤ sizeLine then ret (PV.tup (l ++ r)) else stop) s = _
  rw [if_pos (Nat.le_trans h (by decide))]
  rfl
theorem w_mul {i j : Int} (h : mulB i j = true) (q : Q (.int (i * j)) s) : W (binP .Mult (.int i) (.int j)) s Q E := by
  refine W_ok ?_ q
  show (if mulB i j = true then ret (PV.int (i * j)) else stop) s = _
  rw [if_pos h]
  rfl
theorem w_mod {i j : Int} (h : 0 < j) (q : Q (.int (i % j)) s) : W (binP .Mod (.int i) (.int j)) s Q E := by
  refine W_ok ?_ q
  show (if 0 < j then ret (PV.int (i % j)) else stop) s = _
  rw [if_pos h]
  rfl
theorem w_div {i j : Int} (h : 0 < j) (h2 : j < 1073741824) (q : Q (.int (i / j)) s) : W (binP .FloorDiv (.int i) (.int j)) s Q E := by
  refine W_ok ?_ q
  show (if 0 < j ∧ j < 1073741824 then ret (PV.int (i / j)) else stop) s = _
  rw [if_pos ⟨h, h2⟩]
  rfl
theorem w_walkL {P : Sc → Store → Prop} {n : Nat} {l : List PV} (hs : lstOf s n = some l) (h : P (.live n) s) : W (walkP (.ref n)) s P E := by
  refine W_ok (a := .live n) (s' := s) ?_ h
  show (match lstOf s n with
    | some _ => RE.ok (Sc.live n) s
    | none => .bad) = _
  rw [hs]
theorem w_dictD {n : Nat} {l : List (Key × PV)} (hs : s[n]? = some (.dct l)) (h : Q (.ref s.length) (s ++ [.dct l])) : W (bltP .dict [.ref n]) s Q E := by
  refine W_ok (a := .ref s.length) (s' := s ++ [.dct l]) ?_ h
  show (match s[n]? with
    | some (.dct l) => RE.ok (PV.ref s.length) (s ++ [SO.dct l])
    | some (.lst l) => _
    | _ => .bad) = _
  rw [hs]
theorem w_dictL {n : Nat} {l : List PV} {kvs : List (Key × PV)} (hs : s[n]? = some (.lst l)) (hp : pairsOf l = some kvs) (h : Q (.ref s.length) (s ++ [.dct (mergeP [] kvs)])) : W (bltP .dict [.ref n]) s Q E := by
  refine W_ok (a := .ref s.length) (s' := s ++ [.dct (mergeP [] kvs)]) ?_ h
  show (match s[n]? with
    | some (.dct l) => _
    | some (.lst l) => match pairsOf l with
      | some kvs => RE.ok (PV.ref s.length) (s ++ [SO.dct (mergeP [] kvs)])
      | none => .bad
    | _ => .bad) = _
  rw [hs]
  dsimp only
  rw [hp]
theorem w_anyL {n : Nat} {l : List PV} {bs : List Bool} (hs : lstOf s n = some l) (hp : boolsOf l = some bs) (h : Q (.bl (bs.any id)) s) : W (bltP .any [.ref n]) s Q E := by
  refine W_ok (a := .bl (bs.any id)) (s' := s) ?_ h
  show (match (lstOf s n).bind boolsOf with
    | some l => RE.ok (PV.bl (l.any id)) s
    | none => .bad) = _
  rw [hs, Option.bind_some, hp]
theorem w_minL {n : Nat} {l : List PV} {is : List Int} {m : Int} (hs : lstOf s n = some l) (hp : intsOf l = some is) (hm : minL is = some m) (h : Q (.int m) s) : W (bltP .min [.ref n]) s Q E := by
  refine W_ok (a := .int m) (s' := s) ?_ h
  show (match (lstOf s n).bind intsOf with
    | some l => match minL l with
      | some m => RE.ok (PV.int m) s
      | none => .bad
    | none => .bad) = _
  rw [hs, Option.bind_some, hp]
  dsimp only
  rw [hm]
theorem w_tupL {n : Nat} {l : List PV} (hs : lstOf s n = some l) (h : Q (.tup l) s) : W (bltP .tuple [.ref n]) s Q E := by
  refine W_ok (a := .tup l) (s' := s) ?_ h
  show (match lstOf s n with
    | some l => RE.ok (PV.tup l) s
    | none => .bad) = _
  rw [hs]
theorem SW_forP' {b : SM} {a : PV → Sl → Option Sl} {src : Sc} (I : Nat → Sl → Store → Prop) (items : List PV)
    (hsrc : ∀ i ρ s, I i ρ s → getI s src i = some items[i]?)
    (step : ∀ i v ρ s, items[i]? = some v → I i ρ s → ∃ ρ1, a v ρ = some ρ1 ∧ SW b ρ1 s (fun f ρ' s' => match f with
      | .next => I (i + 1) ρ' s'
      | .cont => I (i + 1) ρ' s'
      | .brk => R .next ρ' s'
      | .ret v => R (.ret v) ρ' s') E)
    (hend : ∀ ρ s, I items.length ρ s → R .next ρ s) : ∀ (k i : Nat) (ρ : Sl) (s : Store), I i ρ s → i ≤ items.length → items.length < k + i → SW (forP b a src k i) ρ s R E
  | 0, i, ρ, s, h, h1, h2 => absurd h2 (by omega)
  | k + 1, i, ρ, s, h, h1, h2 => by
    unfold SW forP
    rw [hsrc i ρ s h]
    cases hv : items[i]? with
    | none =>
      have e : i = items.length := by have := List.getElem?_eq_none_iff.mp hv; omega
      subst e
      exact hend ρ s h
    | some v =>
      obtain ⟨ρ1, e1, hb⟩ := step i v ρ s hv h
      dsimp only
      rw [e1]
      dsimp only
      have hi : i < items.length := (List.getElem?_eq_some_iff.mp hv).1
      unfold SW at hb
      cases hq : b ρ1 s with
      | ok f ρ' s' =>
        rw [hq] at hb
        cases f with
        | next => with_unfolding_all exact SW_forP' I items hsrc step hend k (i + 1) ρ' s' hb hi (by omega)
        | cont => with_unfolding_all exact SW_forP' I items hsrc step hend k (i + 1) ρ' s' hb hi (by omega)
        | brk => exact hb
        | ret v => exact hb
      | exc c fs ρ' s' => rw [hq] at hb; exact hb
      | bad => rw [hq] at hb; exact hb
theorem k_for0' {b : SM} {a : PV → Sl → Option Sl} {l : List PV} {k i : Nat} (hv : l[i]? = none) (h : R .next ρ s) : SW (forP b a (.items l) (k + 1) i) ρ s R E := by
  unfold SW forP
  rw [show getI s (.items l) i = some none from congrArg some hv]
  exact h
theorem k_for1' {b : SM} {a : PV → Sl → Option Sl} {l : List PV} {k i : Nat} {v : PV} {ρ1 : Sl} (hv : l[i]? = some v) (ha : a v ρ = some ρ1) (h : SW b ρ1 s (fun f ρ' s' => match f with
      | .next => SW (forP b a (.items l) k (i + 1)) ρ' s' R E
      | .cont => SW (forP b a (.items l) k (i + 1)) ρ' s' R E
      | .brk => R .next ρ' s'
      | .ret v => R (.ret v) ρ' s') E) : SW (forP b a (.items l) (k + 1) i) ρ s R E := by
  unfold SW at h
  unfold SW forP
  rw [show getI s (.items l) i = some (some v) from congrArg some hv]
  dsimp only
  rw [ha]
  dsimp only
  cases hq : b ρ1 s with
  | ok f ρ' s' =>
    rw [hq] at h
    cases f <;> with_unfolding_all exact h
  | exc c fs ρ' s' => rw [hq] at h; exact h
  | bad => rw [hq] at h; exact h
theorem SW_while' {b : SM} {c : CT} (I : Nat → Sl → Store → Prop)
    (step : ∀ n ρ s, I n ρ s → W (c ρ) s (fun t s1 => if t = true then SW b ρ s1 (fun f ρ' s' => match f with
      | .next => ∃ m, m < n ∧ I m ρ' s'
      | .cont => ∃ m, m < n ∧ I m ρ' s'
      | .brk => R .next ρ' s'
      | .ret v => R (.ret v) ρ' s') E else R .next ρ s1) E) : ∀ (k n : Nat) (ρ : Sl) (s : Store), I n ρ s → n < k → SW (whl b c k) ρ s R E
  | 0, n, ρ, s, h, h1 => absurd h1 (by omega)
  | k + 1, n, ρ, s, h, h1 => by
    have hs := step n ρ s h
    unfold W at hs
    unfold SW whl
    cases hc : c ρ s with
    | bad => rw [hc] at hs; exact hs
    | exc cc fs s' => rw [hc] at hs; exact hs
    | ok t s1 =>
      rw [hc] at hs
      cases t with
      | false => exact hs
      | true =>
        have hs : SW b ρ s1 _ E := hs
        unfold SW at hs
        dsimp only
        cases hq : b ρ s1 with
        | ok f ρ' s' =>
          rw [hq] at hs
          cases f with
          | next => obtain ⟨m, hm, hI⟩ := hs; with_unfolding_all exact SW_while' I step k m ρ' s' hI (by omega)
          | cont => obtain ⟨m, hm, hI⟩ := hs; with_unfolding_all exact SW_while' I step k m ρ' s' hI (by omega)
          | brk => exact hs
          | ret v => exact hs
        | exc c fs ρ' s' => rw [hq] at hs; exact hs
        | bad => rw [hq] at hs; exact hs
/-- a comprehension: acc is what stands in the new list -/
theorem w_lcC' {elt : CE} {asg : PV → Sl → Option Sl} {ts : CT} {src : Sc} {D : Nat} {ρ : Sl} (I : Nat → List PV → Store → Prop) (items : List PV)
    (hsrc : ∀ i acc s, I i acc s → getI s src i = some items[i]?) (hl : items.length ≤ 100000)
    (step : ∀ i v acc s, items[i]? = some v → I i acc s → s[D]? = some (.lst acc) → ∃ ρ1, asg v ρ = some ρ1 ∧ W (ts ρ1) s (fun t s1 => if t = true then
        W (elt ρ1) s1 (fun y s2 => s2[D]? = some (.lst acc) ∧ I (i + 1) (acc ++ [y]) (s2.set D (.lst (acc ++ [y])))) (fun _ _ _ => False)
      else s1[D]? = some (.lst acc) ∧ I (i + 1) acc s1) (fun _ _ _ => False))
    (hend : ∀ acc s, I items.length acc s → s[D]? = some (.lst acc) → Q (.ref D) s) : ∀ (k i : Nat) (acc : List PV) (s : Store), I i acc s → s[D]? = some (.lst acc) → acc.length ≤ i → i ≤ items.length → items.length < k + i →
    W (lcC elt asg ts src D ρ k i) s Q E
  | 0, i, acc, s, _, _, _, h1, h2 => absurd h2 (by omega)
  | k + 1, i, acc, s, h, hD, ha, h1, h2 => by
    unfold W lcC
    try dsimp only
    rw [hsrc i acc s h]
    cases hv : items[i]? with
    | none =>
      have e : i = items.length := by have := List.getElem?_eq_none_iff.mp hv; omega
      subst e
      exact hend acc s h hD
    | some v =>
      have hi : i < items.length := (List.getElem?_eq_some_iff.mp hv).1
      obtain ⟨ρ1, e1, hb⟩ := step i v acc s hv h hD
      dsimp only
      rw [e1]
      dsimp only
      unfold W at hb
      cases ht : ts ρ1 s with
      | bad => rw [ht] at hb; exact hb.elim
      | exc c fs s' => rw [ht] at hb; exact hb.elim
      | ok t s1 =>
        rw [ht] at hb
        cases t with
        | false => with_unfolding_all exact w_lcC' I items hsrc hl step hend k (i + 1) acc s1 hb.2 hb.1 (by omega) hi (by omega)
        | true =>
          simp only [if_true] at hb
          dsimp only
          cases he : elt ρ1 s1 with
          | bad => rw [he] at hb; exact hb.elim
          | exc c fs s' => rw [he] at hb; exact hb.elim
          | ok y s2 =>
            rw [he] at hb
            dsimp only
            rw [hb.1]
            dsimp only
            rw [if_pos (Nat.lt_of_le_of_lt (show acc.length ≤ 100000 by omega) (by decide))]
            have hD2 : D < s2.length := (List.getElem?_eq_some_iff.mp hb.1).1
            with_unfolding_all exact w_lcC' I items hsrc hl step hend k (i + 1) (acc ++ [y]) _ hb.2 (by simp [List.getElem?_set, hD2]) (by simp; omega) hi (by omega)
theorem SW_forP {b : SM} {a : PV → Sl → Option Sl} {src : Sc} (I : Nat → Sl → Store → Prop) (items : List PV)
    (hsrc : ∀ i ρ s, I i ρ s → getI s src i = some items[i]?)
    (step : ∀ i v ρ s, items[i]? = some v → I i ρ s → ∃ ρ1, a v ρ = some ρ1 ∧ SW b ρ1 s (lp (fun _ ρ' s' => I (i + 1) ρ' s') R) E)
    (hend : ∀ ρ s, I items.length ρ s → R .next ρ s) (k i : Nat) (ρ : Sl) (s : Store) (h : I i ρ s) (h1 : i ≤ items.length) (h2 : items.length < k + i) : SW (forX b a src k i) ρ s R E := by
  rw [forX_eq]
  exact SW_forP' I items hsrc step hend k i ρ s h h1 h2
theorem k_for0 {b : SM} {a : PV → Sl → Option Sl} {l : List PV} {k i : Nat} (hv : l[i]? = none) (h : R .next ρ s) : SW (forX b a (.items l) (k + 1) i) ρ s R E := by
  rw [forX_eq]
  exact k_for0' hv h
theorem k_for1 {b : SM} {a : PV → Sl → Option Sl} {l : List PV} {k i : Nat} {v : PV} {ρ1 : Sl} (hv : l[i]? = some v) (ha : a v ρ = some ρ1) (h : SW b ρ1 s (lp (fun _ ρ' s' => SW (forX b a (.items l) k (i + 1)) ρ' s' R E) R) E) : SW (forX b a (.items l) (k + 1) i) ρ s R E := by
  rw [forX_eq]
  simp only [forX_eq] at h
  exact k_for1' hv ha h
theorem SW_while {b : SM} {c : CT} (I : Nat → Sl → Store → Prop)
    (step : ∀ n ρ s, I n ρ s → W (c ρ) s (fun t s1 => if t = true then SW b ρ s1 (lp (fun _ ρ' s' => ∃ m, m < n ∧ I m ρ' s') R) E else R .next ρ s1) E) (k n : Nat) (ρ : Sl) (s : Store) (h : I n ρ s) (h1 : n < k) : SW (whlX b c k) ρ s R E := by
  rw [whlX_eq]
  exact SW_while' I step k n ρ s h h1
theorem w_lcC {elt : CE} {asg : PV → Sl → Option Sl} {ts : CT} {src : Sc} {D : Nat} {ρ : Sl} (I : Nat → List PV → Store → Prop) (items : List PV)
    (hsrc : ∀ i acc s, I i acc s → getI s src i = some items[i]?) (hl : items.length ≤ 100000)
    (step : ∀ i v acc s, items[i]? = some v → I i acc s → s[D]? = some (.lst acc) → ∃ ρ1, asg v ρ = some ρ1 ∧ W (ts ρ1) s (fun t s1 => if t = true then
        W (elt ρ1) s1 (fun y s2 => s2[D]? = some (.lst acc) ∧ I (i + 1) (acc ++ [y]) (s2.set D (.lst (acc ++ [y])))) (fun _ _ _ => False)
      else s1[D]? = some (.lst acc) ∧ I (i + 1) acc s1) (fun _ _ _ => False))
    (hend : ∀ acc s, I items.length acc s → s[D]? = some (.lst acc) → Q (.ref D) s) (k i : Nat) (acc : List PV) (s : Store) (h : I i acc s) (hD : s[D]? = some (.lst acc)) (ha : acc.length ≤ i) (h1 : i ≤ items.length) (h2 : items.length < k + i) :
    W (lcX elt asg ts src D ρ k i) s Q E := by
  rw [lcX_eq]
  exact w_lcC' I items hsrc hl step hend k i acc s h hD ha h1 h2
end
/-- but for the object t nothing that stood has changed -/
structure Kp (t : Nat) (s s' : Store) : Prop where
  le : s.length ≤ s'.length
  at_ : ∀ n, n < s.length → n ≠ t → s'[n]? = s[n]?
theorem Kp.refl {t : Nat} {s : Store} : Kp t s s := ⟨Nat.le_refl _, fun _ _ _ => rfl⟩
theorem Kp.trans {t : Nat} {s s' s'' : Store} (h : Kp t s s') (h2 : Kp t s' s'') : Kp t s s'' :=
  ⟨Nat.le_trans h.le h2.le, fun n hn ht => (h2.at_ n (Nat.lt_of_lt_of_le hn h.le) ht).trans (h.at_ n hn ht)⟩
theorem Kp.get {t n : Nat} {s s' : Store} {o : SO} (h : Kp t s s') (hn : s[n]? = some o) (ht : n ≠ t) : s'[n]? = some o := by
  rw [h.at_ n (List.getElem?_eq_some_iff.mp hn).1 ht]
  exact hn
theorem Kp.push {t : Nat} {s : Store} {r : List SO} : Kp t s (s ++ r) :=
  ⟨by simp, fun n hn _ => List.getElem?_append_left hn⟩
theorem Kp.set {t : Nat} {s : Store} {o : SO} : Kp t s (s.set t o) :=
  ⟨by simp, fun n _ ht => by rw [List.getElem?_set, if_neg (Ne.symm ht)]⟩
theorem Kp.setN {t n : Nat} {s s' : Store} {o : SO} (h : Kp t s s') (hn : s.length ≤ n) : Kp t s (s'.set n o) :=
  ⟨by simpa using h.le, fun m hm ht => by rw [List.getElem?_set, if_neg (by omega)]; exact h.at_ m hm ht⟩
theorem lst_of {s : Store} {n : Nat} {l : List PV} (h : s[n]? = some (.lst l)) : lstOf s n = some l := by
  unfold lstOf
  rw [h]
theorem rol_of {s : Store} {n : Nat} {l : List PV} (h : s[n]? = some (.rol l)) : lstOf s n = some l := by
  unfold lstOf
  rw [h]
end Z

namespace Z
open PySem L2
local macro_rules | `(tactic| infer_instance) => `(tactic| first
  | with_reducible first
    | refine k_asg ?_ | refine k_exp ?_ | refine k_ret ?_ | refine k_pop ?_ | refine k_retN ?_ | refine k_ixSet ?_ | refine k_fldSet ?_ | refine k_aug ?_ | refine k_par ?_ | refine k_unp ?_ | refine k_pass ?_ | refine k_cont ?_ | refine k_break ?_ | refine k_rai0 ?_ | refine k_whl ?_ | refine k_in ?_ | refine k_end ?_
    | refine w_call ?_ | refine w_cons ?_ | refine w_nil ?_ | refine w_e2 ?_ | refine w_e1 ?_ | refine w_cmp ?_ | refine w_tcmp ?_ | refine w_ttru ?_ | refine w_sl ?_ | refine w_meth ?_ | refine w_dct ?_ | refine w_lc ?_ | refine w_part ?_ | refine w_walk ?_ | refine w_of ?_
    | refine lp_n ?_ | refine lp_c ?_ | refine lp_b ?_ | refine lp_r ?_ | refine sq_n ?_ | refine sq_r ?_ | refine fnR_n ?_ | refine fnR_r ?_ | refine if_ff ?_ | refine if_tt ?_
  | ((with_reducible apply k_if0); (case e => exact rfl))
  | ((with_reducible apply k_if1); (case e => exact rfl))
  | with_reducible refine k_if ?_
  | ((with_reducible apply w_if0); (case e => exact rfl))
  | ((with_reducible apply w_if1); (case e => exact rfl))
  | with_reducible first | refine w_if ?_ | refine w_tand ?_ | refine w_tor ?_ | refine w_tnot ?_ | refine k_for ?_
  | ((with_reducible apply w_tup); (case hl => exact Nat.le_of_ble_eq_true rfl))
  | ((with_reducible apply w_lst); (case hl => exact Nat.le_of_ble_eq_true rfl))
  | ((with_reducible apply k_rai); (case h1 => exact rfl); (case h2 => exact Nat.le_of_ble_eq_true rfl))
  | ((with_reducible apply if_r0); (case h => exact rfl))
  | ((with_reducible apply if_r1); (case h => exact rfl))
  | ((with_reducible apply W_ok); (case h => exact rfl)))
def tapeB1 : SM := cBlk [cAsg 2 (e2 (binP .Mod) (eCall (bltP .int) [e2 (binP .Add) (e2 (binP .Mult) (sl 2) (kst (.int 31))) (sl 3)]) (kst (.int 2147483647)))]
def tapeB : SM := cBlk [cAsg 1 (eLc (eCall (bltP .abs) [eCall (bltP .int) [sl 3]]) (Tgt.run (.nm 3)) (tYes) (sWalk (sl 0)) [3]),
  cAsg 2 (kst (.int 7)),
  cFor (sWalk (sl 1)) (Tgt.run (.nm 3)) tapeB1,
  cRet (eDct [.inr "cells", .inr "at", .inr "left", .inr "seed", .inr "salt"] [sl 1, kst (.int 0), kst (.int 0), sl 2, kst (.int 0)])]
def takeL : List SM := [cIf (tAnd (tCmp .Eq (e2 ixP (sl 0) (kst (.str "left"))) (kst (.int 0))) (tCmp .Lt (e2 ixP (sl 0) (kst (.str "at"))) (eCall (bltP .len) [e2 ixP (sl 0) (kst (.str "cells"))]))) (cBlk [cIxSet (sl 0) (kst (.str "left")) (e2 ixP (e2 ixP (sl 0) (kst (.str "cells"))) (e2 ixP (sl 0) (kst (.str "at")))), cIxSet (sl 0) (kst (.str "at")) (e2 (binP .Add) (e2 ixP (sl 0) (kst (.str "at"))) (kst (.int 1)))]) (cBlk []),
  cIf (tCmp .Gt (e2 ixP (sl 0) (kst (.str "left"))) (kst (.int 0))) (cBlk [cAsg 2 (e2 (binP .Mod) (eCall (bltP .int) [e2 ixP (sl 0) (kst (.str "left"))]) (sl 1)), cIxSet (sl 0) (kst (.str "left")) (e2 (binP .FloorDiv) (e2 ixP (sl 0) (kst (.str "left"))) (sl 1)), cRet (sl 2)]) (cBlk []),
  cIxSet (sl 0) (kst (.str "salt")) (e2 (binP .Add) (e2 ixP (sl 0) (kst (.str "salt"))) (kst (.int 1))),
  cAsg 3 (e2 (binP .Mod) (eCall (bltP .int) [e2 (binP .Add) (e2 (binP .Mult) (e2 ixP (sl 0) (kst (.str "seed"))) (kst (.int 48271))) (e2 (binP .Mult) (e2 ixP (sl 0) (kst (.str "salt"))) (kst (.int 69621)))]) (kst (.int 2147483647))),
  cAsg 3 (e2 (binP .Mod) (eCall (bltP .int) [e2 (binP .Add) (e2 (binP .Add) (e2 (binP .Mult) (sl 3) (sl 3)) (e2 (binP .Mult) (e2 ixP (sl 0) (kst (.str "salt"))) (kst (.int 40692)))) (kst (.int 12345))]) (kst (.int 2147483399))),
  cRet (e2 (binP .Mod) (eCall (bltP .int) [sl 3]) (sl 1))]
def takeB : SM := cBlk takeL
def tpD (c : Nat) (a l sd sa : Int) : List (Key × PV) := [(.inr "cells", .ref c), (.inr "at", .int a), (.inr "left", .int l), (.inr "seed", .int sd), (.inr "salt", .int sa)]
/-- a tape stands at t -/
structure Tp (s : Store) (t c : Nat) : Prop where
  ex : ∃ (a : Nat) (l sd sa : Int) (xs : List Int), s[t]? = some (.dct (tpD c a l sd sa)) ∧ s[c]? = some (.lst (xs.map .int)) ∧ c ≠ t ∧ a ≤ xs.length ∧ 0 ≤ l ∧ ∀ x ∈ xs, 0 ≤ x
theorem Tp.keep {s s' : Store} {t c : Nat} (h : Tp s t c) (k : ∀ (n : Nat) (o : SO), s[n]? = some o → s'[n]? = some o) : Tp s' t c := by
  obtain ⟨a, l, sd, sa, xs, h1, h2, h3⟩ := h.ex
  exact ⟨a, l, sd, sa, xs, k _ _ h1, k _ _ h2, h3⟩
section
variable {s : Store} {E : XP} {Q : PV → Store → Prop}

theorem mod_bd {x m : Int} (h : 0 < m) : 0 ≤ x % m ∧ x % m < m := ⟨Int.emod_nonneg _ (by omega), Int.emod_lt_of_pos _ h⟩
theorem ift {c : Prop} [Decidable c] {a b : Prop} (h : c) (x : a) : if c then a else b := by rw [if_pos h]; exact x
theorem iff_ {c : Prop} [Decidable c] {a b : Prop} (h : ¬c) (x : b) : if c then a else b := by rw [if_neg h]; exact x
theorem ifd {c : Prop} [Decidable c] {a b : Prop} (h : c → a) (h2 : ¬c → b) : if decide c = true then a else b := by
  by_cases q : c
  · rw [if_pos (decide_eq_true q)]; exact h q
  · rw [if_neg (by simpa using q)]; exact h2 q
theorem w_putA {n : Nat} {D D' : List (Key × PV)} {k : Str} {v : PV} (hs : s[n]? = some (.dct D)) (hl : D.length ≤ 1000) (hd : dput D (.inr k) v = D') (h : ∀ s1, s1[n]? = some (.dct D') → Kp n s s1 → s1.length = s.length → Q .non s1) : W (ixSet (.ref n) (.str k) v) s Q E := by
  refine w_put hs hl ?_
  rw [hd]
  have hn : n < s.length := (List.getElem?_eq_some_iff.mp hs).1
  exact h _ (by simp [List.getElem?_set, hn]) Kp.set (by simp)
theorem take_ok {t c : Nat} {m : Int} (hT : Tp s t c) (h0 : 0 < m) (h1 : m < 1073741824) (hq : ∀ r s', 0 ≤ r → r < m → Tp s' t c → Kp t s s' → s'.length = s.length → Q (.int r) s') : W (cFn 4 takeB [.ref t, .int m]) s Q E := by
  obtain ⟨a, l, sd, sa, xs, e1, e2, e3, e4, e5, e6⟩ := hT.ex
  -- behind the refill
  have main : ∀ (s : Store) (a : Nat) (l : Int) (ρ : Sl), s[t]? = some (.dct (tpD c a l sd sa)) → s[c]? = some (.lst (xs.map .int)) → a ≤ xs.length → 0 ≤ l → ρ = [some (.ref t), some (.int m), none, none] →
      (∀ r s', 0 ≤ r → r < m → Tp s' t c → Kp t s s' → s'.length = s.length → Q (.int r) s') →
      SW (cB [takeL.drop 1]) ρ s (fnR Q) E := by
    intro s a l ρ e1 e2 e4 e5 hρ hq
    subst hρ
    show SW (cB [[_, _, _, _, _]]) _ _ _ _
    refine k_if ?_
    refine w_tcmp ?_
    repeat infer_instance
    refine w_get e1 rfl ?_
    repeat infer_instance
    refine ifd (fun hl => ?_) fun hl => ?_
    · repeat infer_instance
      refine w_get e1 rfl ?_
      repeat infer_instance
      refine w_mod h0 ?_
      repeat infer_instance
      refine w_get e1 rfl ?_
      repeat infer_instance
      refine w_div h0 h1 ?_
      repeat infer_instance
      refine w_putA e1 (by show 5 ≤ 1000; decide) (by rfl) fun s1 g1 k1 l1 => ?_
      repeat infer_instance
      refine hq _ _ (mod_bd h0).1 (mod_bd h0).2 ⟨a, l / m, sd, sa, xs, g1, k1.get e2 e3, e3, e4, Int.ediv_nonneg e5 (by omega), e6⟩ k1 l1
    · repeat infer_instance
      refine w_get e1 rfl ?_
      repeat infer_instance
      refine w_putA e1 (by show 5 ≤ 1000; decide) (by rfl) fun s1 g1 k1 l1 => ?_
      have g1 : s1[t]? = some (.dct (tpD c a l sd (sa + 1))) := g1
      repeat infer_instance
      refine w_get g1 rfl ?_
      repeat infer_instance
      refine w_mul (by simp [mulB]) ?_
      repeat infer_instance
      refine w_get g1 rfl ?_
      repeat infer_instance
      refine w_mul (by simp [mulB]) ?_
      repeat infer_instance
      generalize hx : (sd * 48271 + (sa + 1) * 69621) % 2147483647 = x
      have hx1 := mod_bd (x := sd * 48271 + (sa + 1) * 69621) (m := 2147483647) (by decide)
      rw [hx] at hx1
      refine w_mul (by have : -(2 ^ 64) < x ∧ x < 2 ^ 64 := ⟨by omega, by omega⟩; simp only [mulB, this.1, this.2, decide_true, Bool.and_self, Bool.or_self]) ?_
      repeat infer_instance
      refine w_get g1 rfl ?_
      repeat infer_instance
      refine w_mul (by simp [mulB]) ?_
      repeat infer_instance
      refine w_mod h0 ?_
      repeat infer_instance
      exact hq _ _ (mod_bd h0).1 (mod_bd h0).2 ⟨a, l, sd, sa + 1, xs, g1, k1.get e2 e3, e3, e4, e5, e6⟩ k1 l1
  refine W_cFn ?_
  unfold takeB takeL
  refine k_in ?_
  refine k_if ?_
  refine w_tand ?_
  refine w_tcmp ?_
  repeat infer_instance
  refine w_get e1 rfl ?_
  repeat infer_instance
  refine ifd (fun hl => ?_) fun hl => ?_
  · repeat infer_instance
    refine w_get e1 rfl ?_
    repeat infer_instance
    refine w_get e1 rfl ?_
    repeat infer_instance
    refine w_lenL (lst_of e2) ?_
    repeat infer_instance
    refine ifd (fun hl => ?_) fun hl => ?_
    · have ha : a < xs.length := by
        rw [List.length_map] at hl
        omega
      repeat infer_instance
      refine w_get e1 rfl ?_
      repeat infer_instance
      refine w_get e1 rfl ?_
      repeat infer_instance
      refine w_at (lst_of e2) (atI_nat (v := .int xs[a]) (by rw [List.getElem?_map, List.getElem?_eq_getElem ha]; rfl)) ?_
      repeat infer_instance
      refine w_putA e1 (by show 5 ≤ 1000; decide) (by rfl) fun s1 g1 k1 l1 => ?_
      have g1 : s1[t]? = some (.dct (tpD c a xs[a] sd sa)) := g1
      repeat infer_instance
      refine w_get g1 rfl ?_
      repeat infer_instance
      refine w_putA g1 (by show 5 ≤ 1000; decide) (by rfl) fun s2 g2 k2 l2 => ?_
      have g2 : s2[t]? = some (.dct (tpD c (a + 1 : Nat) xs[a] sd sa)) := g2
      refine k_pop ?_
      exact main s2 (a + 1) xs[a] _ g2 (k2.get (k1.get e2 e3) e3) (by omega) (e6 _ (List.getElem_mem _)) rfl fun r s' q1 q2 q3 q4 q5 => hq r s' q1 q2 q3 (k1.trans (k2.trans q4)) (by omega)
    · refine k_pop ?_
      exact main s a l _ e1 e2 e4 e5 rfl hq
  · refine if_ff ?_
    refine k_pop ?_
    exact main s a l _ e1 e2 e4 e5 rfl hq
def absI (i : Int) : Int := if i < 0 then -i else i
theorem tape_ok {a : Nat} {ns : List Int} (h : lstOf s a = some (ns.map PV.int)) (hl : ns.length ≤ 63)
    (hq : ∀ (t c : Nat) (s' : Store), Tp s' t c → (∀ n, n < s.length → s'[n]? = s[n]?) → t < s'.length → s.length ≤ t → Q (.ref t) s') : W (cFn 4 tapeB [.ref a]) s Q E := by
  have ha : a < s.length := by
    unfold lstOf at h
    split at h
    · rename_i q; exact (List.getElem?_eq_some_iff.mp q).1
    · rename_i q; exact (List.getElem?_eq_some_iff.mp q).1
    · cases h
  have keepL : ∀ {s' : Store}, (∀ n, n < s.length → s'[n]? = s[n]?) → lstOf s' a = some (ns.map PV.int) := fun {s'} k => by
    unfold lstOf at h ⊢
    rw [k a ha]
    exact h
  refine W_cFn ?_
  unfold tapeB
  refine k_in ?_
  refine k_asg ?_
  refine w_lc ?_
  refine w_walk ?_
  refine W_ok rfl ?_
  refine w_walkL h ?_
  refine w_lcC (fun i acc s' => acc = (ns.take i).map (fun x => PV.int (absI x)) ∧ (∀ n, n < s.length → s'[n]? = s[n]?) ∧ s'.length = s.length + 1) (ns.map PV.int) ?_ (by rw [List.length_map]; omega) ?_ ?_ _ 0 [] _ ?_ ?_ (by simp) (by simp) ?_
  · intro i acc s' ⟨_, k, _⟩
    show (lstOf s' a).map (·[i]?) = _
    rw [keepL k]
    rfl
  · intro i v acc s' hv ⟨e1, k, e2⟩ hD
    obtain ⟨x, hx, rfl⟩ : ∃ x, ns[i]? = some x ∧ v = .int x := by
      rw [List.getElem?_map] at hv
      cases q : ns[i]? with
      | none => rw [q] at hv; cases hv
      | some x => rw [q] at hv; cases hv; exact ⟨x, rfl, rfl⟩
    refine ⟨_, rfl, ?_⟩
    refine W_ok (a := true) (s' := s') rfl ?_
    refine ift rfl ?_
    refine W_ok (a := .int (absI x)) (s' := s') rfl ?_
    refine ⟨hD, ?_, fun n hn => ?_, by simpa using e2⟩
    · rw [e1, List.take_add_one, hx]
      simp
    · rw [List.getElem?_set, if_neg (by omega)]
      exact k n hn
  · intro acc s1 ⟨e1, k, e2⟩ hD
    rw [List.length_map, List.take_length] at e1
    repeat infer_instance
    refine w_walkL (lst_of hD) ?_
    have hacc : acc.length = ns.length := by rw [e1, List.length_map]
    refine SW_forP (fun i ρ s' => ∃ (sd : Int) (c : Option PV), s' = s1 ∧ ρ = [some (.ref a), some (.ref s.length), some (.int sd), c]) acc ?_ ?_ ?_ _ 0 _ _ ⟨7, none, rfl, rfl⟩ (Nat.zero_le _) ?_
    · intro i ρ s' ⟨sd, c, e3, e4⟩
      show (lstOf s' s.length).map (·[i]?) = _
      rw [e3, lst_of hD]
      rfl
    · intro i v ρ s' hv ⟨sd, c, e3, e4⟩
      obtain ⟨x, rfl⟩ : ∃ x, v = .int x := by
        rw [e1, List.getElem?_map] at hv
        cases q : ns[i]? with
        | none => rw [q] at hv; cases hv
        | some x => rw [q] at hv; cases hv; exact ⟨_, rfl⟩
      subst e4
      refine ⟨_, rfl, ?_⟩
      unfold tapeB1
      repeat infer_instance
      refine w_mul (by simp [mulB]) ?_
      repeat infer_instance
      exact ⟨_, _, e3, rfl⟩
    · intro ρ s' ⟨sd, c, e3, e4⟩
      subst e3
      subst e4
      refine sq_n ?_
      refine k_ret ?_
      refine w_dct ?_
      repeat infer_instance
      refine ⟨by simp, ?_⟩
      have e5 : (mergeP [] (([Sum.inr "cells", Sum.inr "at", Sum.inr "left", Sum.inr "seed", Sum.inr "salt"] : List Key).zip [PV.ref s.length, .int 0, .int 0, .int sd, .int 0])) = tpD s.length 0 0 sd 0 := rfl
      refine hq s'.length s.length _ ⟨0, 0, sd, 0, ns.map absI, ?_, ?_, by omega, by simp, by decide, ?_⟩ ?_ (by simp) (by omega)
      · rw [List.getElem?_set, if_pos rfl]
        simp only [List.length_append, List.length_cons, List.length_nil]
        rw [if_pos (by omega)]
        exact congrArg (fun l => some (SO.dct l)) e5
      · rw [List.getElem?_set, if_neg (by omega), List.getElem?_append_left (by omega), hD, e1, List.map_map]
        rfl
      · intro x hx
        obtain ⟨y, _, rfl⟩ := List.mem_map.mp hx
        unfold absI
        split <;> omega
      · intro n hn
        rw [List.getElem?_set, if_neg (by omega), List.getElem?_append_left (by omega)]
        exact k n hn
    · have : lenI s1 (.live s.length) = acc.length := by
        show ((lstOf s1 s.length).getD []).length = _
        rw [lst_of hD]
        rfl
      omega
  · exact ⟨by simp, fun n hn => List.getElem?_append_left hn, by simp⟩
  · simp
  · have : lenI s (.live a) = ns.length := by
      show ((lstOf s a).getD []).length = _
      rw [h]
      simp
    rw [List.length_map]
    omega
end
end Z

namespace Z
open PySem L2
section
variable {α : Type} {s : Store} {E : XP} {ρ : Sl} {Q : PV → Store → Prop} {R : Fl → Sl → Store → Prop} {L : Lk} {l : List SM} {r : List (List SM)}
theorem w_fld {n c : Nat} {l : List (Str × PV)} {f : Str} {v : PV} {C : ClI} (hs : s[n]? = some (.ins c l)) (hC : L.T.cls[c]? = some C) (hf : C.fields.contains f = true) (hl : l.lookup f = some v) (h : Q v s) : W (fldP L (.ref n) f) s Q E := by
  refine W_ok (a := v) (s' := s) ?_ h
  show (match s[n]? with
    | some (.ins c l) => match L.T.cls[c]? with
      | some C => if C.fields.contains f then match l.lookup f with
        | some v => RE.ok v s
        | none => .bad
        else .bad
      | none => .bad
    | _ => .bad) = _
  rw [hs]
  dsimp only
  rw [hC]
  dsimp only
  rw [if_pos hf, hl]
theorem w_fldSet {n c : Nat} {l : List (Str × PV)} {f : Str} {v : PV} {C : ClI} (hs : s[n]? = some (.ins c l)) (hC : L.T.cls[c]? = some C) (hf : C.fields.contains f = true) (hl : l.length < 1000) (h : ∀ s1, s1[n]? = some (.ins c (putFP f v l)) → Kp n s s1 → s1.length = s.length → Q .non s1) : W (fldSet L (.ref n) f v) s Q E := by
  have hn : n < s.length := (List.getElem?_eq_some_iff.mp hs).1
  refine W_ok (a := .non) (s' := s.set n (.ins c (putFP f v l))) ?_ (h _ (by simp [List.getElem?_set, hn]) Kp.set (by simp))
  show (match s[n]? with
    | some (.ins c l) => match L.T.cls[c]? with
      | some C => if C.fields.contains f && decide (l.length < 1000) then RE.ok PV.non (s.set n (.ins c (putFP f v l))) else .bad
      | none => .bad
    | _ => .bad) = _
  rw [hs]
  dsimp only
  rw [hC]
  dsimp only
  rw [if_pos (by rw [hf, decide_eq_true hl]; rfl)]
theorem w_methP {n c f : Nat} {l : List (Str × PV)} {m : Str} {C : ClI} {args : M (List PV)} (hs : s[n]? = some (.ins c l)) (hC : L.T.cls[c]? = some C) (hl : l.lookup m = none) (hm : C.meths.lookup m = some f) (h : W args s (fun vs s' => W (L.call f (.ref n :: vs)) s' Q E) E) : W (methP L (.ref n) m args) s Q E := by
  have e : methP L (.ref n) m args s = bnd args (fun vs => L.call f (.ref n :: vs)) s := by
    show (match s[n]? with
    | some (.ins c l) => match L.T.cls[c]?, l.lookup m with
      | some C, none => match C.meths.lookup m with
        | some f => bnd args (fun vs => L.call f (PV.ref n :: vs)) s
        | none => .bad
      | _, _ => .bad
    | _ => .bad) = _
    rw [hs]
    dsimp only
    rw [hC, hl]
    dsimp only
    rw [hm]
  have q : W (bnd args (fun vs => L.call f (.ref n :: vs))) s Q E := by rw [W_bnd]; exact h
  unfold W at q ⊢
  rw [e]
  exact q
theorem w_makeP {c f : Nat} {vs : List PV} (hi : (L.T.cls[c]?).bind (·.init) = some f) (h : W (L.ini f (.ref s.length :: vs)) (s ++ [.ins c []]) (fun v s' => v = .non ∧ Q (.ref s.length) s') (fun _ _ _ => False)) : W (makeP L c vs) s Q E := by
  obtain ⟨v, s', e, rfl, q⟩ := W_get h
  refine W_ok (a := .ref s.length) (s' := s') ?_ q
  unfold makeP
  rw [hi]
  dsimp only
  rw [e]
theorem k_aug {o e : CE} {f : Str} {op : Int → Int → Int} (h : W (o ρ) s (fun x s1 => W (fldP L x f) s1 (fun v s2 => W (e ρ) s2 (fun w s3 => clsP s2 x = clsP s3 x ∧ ∃ i j, v = .int i ∧ w = .int j ∧ W (fldSet L x f (.int (op i j))) s3 (fun _ s4 => SW (cB (l :: r)) ρ s4 R E) E) E) E) E) : SW (cB ((cAug L o f op e :: l) :: r)) ρ s R E := by
  rw [SW_cB1]
  unfold SW cAug
  unfold W at h
  unfold bndS
  cases e1 : o ρ s with
  | bad => rw [e1] at h; exact (show False from h).elim
  | exc c fs s1 => rw [e1] at h; exact h
  | ok x s1 =>
    rw [e1] at h
    dsimp only at h ⊢
    cases e2 : fldP L x f s1 with
    | bad => rw [e2] at h; exact (show False from h).elim
    | exc c fs s1 => rw [e2] at h; exact h
    | ok v s2 =>
      rw [e2] at h
      dsimp only at h ⊢
      cases e3 : e ρ s2 with
      | bad => rw [e3] at h; exact (show False from h).elim
      | exc c fs s1 => rw [e3] at h; exact h
      | ok w s3 =>
        rw [e3] at h
        dsimp only at h ⊢
        obtain ⟨hc, i, j, rfl, rfl, h⟩ := h
        rw [if_pos hc]
        dsimp only
        cases e4 : fldSet L x f (.int (op i j)) s3 with
        | bad => rw [e4] at h; exact (show False from h).elim
        | exc c fs s1 => rw [e4] at h; exact h
        | ok u s4 => rw [e4] at h; with_unfolding_all exact h
theorem SW_goneI {i : Nat} {g : Fl} (h : i < ρ.length) (q : R g (ρ.set i none) s) : SW (fun ρ s => goneI i g ρ s) ρ s R E := by
  unfold SW goneI
  dsimp only
  rw [if_pos h]
  exact q
theorem SW_goneN {g : Fl} (q : R g ρ s) : SW (fun ρ s => goneN g ρ s) ρ s R E := by
  unfold SW goneN
  exact q
theorem exc_exp {e : CE} {c : Nat} {fs : List (Str × PV)} {ρ' : Sl} {s' : Store} (h : cBlk [cExp e] ρ s = .exc c fs ρ' s') : ρ' = ρ := by
  unfold cBlk cExp bndS at h
  cases e1 : e ρ s with
  | bad => rw [e1] at h; cases h
  | exc c fs s1 => rw [e1] at h; cases h; rfl
  | ok x s1 => rw [e1] at h; unfold cBlk at h; cases h
theorem exc_ret {e : CE} {c : Nat} {fs : List (Str × PV)} {ρ' : Sl} {s' : Store} (h : cBlk [cRet e] ρ s = .exc c fs ρ' s') : ρ' = ρ := by
  unfold cBlk cRet bndS at h
  cases e1 : e ρ s with
  | bad => rw [e1] at h; cases h
  | exc c fs s1 => rw [e1] at h; cases h; rfl
  | ok x s1 => rw [e1] at h; cases h
theorem dat_eq {x y : PV} {d e : PyData} (hx : dat x = some d) (hy : dat y = some e) (sd : SeqAt.shaped d = true) (se : SeqAt.shaped e = true) (nx : ∀ a, x ≠ .str a) (ni : ∀ a, x ≠ .int a) (nb : ∀ a, x ≠ .bl a) : eqP x y s = .ok (PyData.eqv d e) s := by
  cases x with
  | str a => exact absurd rfl (nx a)
  | int a => exact absurd rfl (ni a)
  | bl a => exact absurd rfl (nb a)
  | ref n => cases hx
  | non =>
    show (match datS s .non, datS s y with
    | some d, some e => if SeqAt.shaped d && SeqAt.shaped e then RE.ok (PyData.eqv d e) s else .bad
    | _, _ => .bad) = _
    have h2 : datS s y = some e := by
      cases y with
      | ref n => cases hy
      | _ => exact hy
    rw [h2]
    have h1 : datS s .non = some d := hx
    rw [h1]
    dsimp only
    rw [sd, se]
    rfl
  | tup l =>
    show (match datS s (.tup l), datS s y with
    | some d, some e => if SeqAt.shaped d && SeqAt.shaped e then RE.ok (PyData.eqv d e) s else .bad
    | _, _ => .bad) = _
    have h2 : datS s y = some e := by
      cases y with
      | ref n => cases hy
      | _ => exact hy
    rw [h2]
    have h1 : datS s (.tup l) = some d := hx
    rw [h1]
    dsimp only
    rw [sd, se]
    rfl
/-- None, or a path -/
inductive Pth : PV → Prop where
  | non : Pth .non
  | tup (l : List Int) : Pth (.tup (l.map .int))
theorem dat_ints : ∀ l : List Int, datL (l.map PV.int) = some (l.map PyData.int)
  | [] => by simp only [List.map_nil, datL]
  | i :: r => by simp only [List.map_cons, datL, dat, dat_ints r]
theorem lay_ints : ∀ l : List Int, PyData.canLayAll0 (l.map PyData.int) = true
  | [] => by simp only [List.map_nil, PyData.canLayAll0]
  | i :: r => by simp only [List.map_cons, PyData.canLayAll0, PyData.canLay0, lay_ints r, Bool.and_self]
theorem dep_ints : ∀ l : List Int, PyData.depthAll (l.map PyData.int) = 0
  | [] => by simp only [List.map_nil, PyData.depthAll]
  | i :: r => by simp only [List.map_cons, PyData.depthAll, PyData.depth, dep_ints r]; rfl
theorem shaped_ints (l : List Int) : SeqAt.shaped (.tuple (l.map PyData.int)) = true := by
  unfold SeqAt.shaped
  simp only [PyData.canLay0, PyData.depth, lay_ints, dep_ints]
  rfl
theorem shapedL_ints (l : List Int) : SeqAt.shaped (.list (l.map PyData.int)) = true := by
  unfold SeqAt.shaped
  simp only [PyData.canLay0, PyData.depth, lay_ints, dep_ints]
  rfl
theorem Pth.eq {x : PV} (h : Pth x) : eqP x x s = .ok true s := by
  cases h with
  | non =>
    rw [dat_eq (d := .none) (e := .none) (by simp only [dat]) (by simp only [dat]) (by decide) (by decide) (by intro a h; cases h) (by intro a h; cases h) (by intro a h; cases h)]
    rfl
  | tup l =>
    have hd : dat (.tup (l.map .int)) = some (.tuple (l.map PyData.int)) := by simp only [dat, dat_ints, Option.map_some]
    rw [dat_eq hd hd (shaped_ints l) (shaped_ints l) (by intro a h; cases h) (by intro a h; cases h) (by intro a h; cases h), SeqAt.eqv_refl _ (SeqAt.canLay_of_shaped (shaped_ints l))]
theorem w_nePth {P : Bool → Store → Prop} {x y : PV} (h : Pth x) (e : x = y) (q : P false s) : W (cmpP .NotEq x y) s P E := by
  subst e
  show W (bnd (eqP x x) fun b => ret (!b)) s P E
  rw [W_bnd]
  exact W_ok h.eq (by rw [W_ret]; exact q)
/-- a list of integers is compared with a list -/
theorem eq_intsL {m n : Nat} {l l' : List Int} (h1 : s[m]? = some (.lst (l.map .int))) (h2 : s[n]? = some (.lst (l'.map .int))) : eqP (.ref m) (.ref n) s = .ok (PyData.eqvAll (l.map PyData.int) (l'.map PyData.int)) s := by
  show (match s[m]?, s[n]? with
    | some (.dct l), some (.dct r) => _
    | _, _ => match datS s (.ref m), datS s (.ref n) with
      | some d, some e => if SeqAt.shaped d && SeqAt.shaped e then RE.ok (PyData.eqv d e) s else .bad
      | _, _ => .bad) = _
  have d1 : datS s (.ref m) = some (.list (l.map PyData.int)) := by unfold datS; dsimp only; rw [h1]; simp only [dat_ints, Option.map_some]
  have d2 : datS s (.ref n) = some (.list (l'.map PyData.int)) := by unfold datS; dsimp only; rw [h2]; simp only [dat_ints, Option.map_some]
  rw [d1, d2, h1, h2]
  dsimp only
  rw [shapedL_ints, shapedL_ints]
  rfl
end
end Z

namespace Z
open PySem L2
/-- nothing that stood has changed -/
def Gr (s s' : Store) : Prop := ∀ (n : Nat) (o : SO), s[n]? = some o → s'[n]? = some o
theorem Gr.refl {s : Store} : Gr s s := fun _ _ h => h
theorem Gr.trans {s s' s'' : Store} (h : Gr s s') (h2 : Gr s' s'') : Gr s s'' := fun n o e => h2 n o (h n o e)
theorem Gr.push {s : Store} {r : List SO} : Gr s (s ++ r) := fun n o e => by rw [List.getElem?_append_left (List.getElem?_eq_some_iff.mp e).1]; exact e
theorem Gr.kp {s s' s'' : Store} {t : Nat} (h : Gr s s') (k : Kp t s' s'') (ht : s.length ≤ t) : Gr s s'' := fun n o e => by
  have := (List.getElem?_eq_some_iff.mp e).1
  exact k.get (h n o e) (by omega)
theorem Kp.gr {s s' s'' : Store} {t : Nat} (k : Kp t s s') (g : Gr s' s'') (hl : s'.length ≤ s''.length) : Kp t s s'' := ⟨Nat.le_trans k.le hl, fun n hn ht => by
  have h1 := k.at_ n hn ht
  rw [List.getElem?_eq_getElem hn] at h1 ⊢
  exact g n _ h1⟩
theorem Gr.toKp {s s' : Store} {t : Nat} (g : Gr s s') (hl : s.length ≤ s'.length) : Kp t s s' := Kp.refl.gr g hl
theorem Kp.toGr {s s' : Store} {t : Nat} (k : Kp t s s') (ht : s.length ≤ t) : Gr s s' := Gr.refl.kp k ht
inductive F2 {α β : Type} (Y : α → β → Prop) : List α → List β → Prop where
  | nil : F2 Y [] []
  | cons {a : α} {b : β} {l : List α} {r : List β} (h : Y a b) (t : F2 Y l r) : F2 Y (a :: l) (b :: r)
theorem F2.app {α β : Type} {Y : α → β → Prop} {l l' : List α} {r r' : List β} (h : F2 Y l r) (h' : F2 Y l' r') : F2 Y (l ++ l') (r ++ r') := by
  induction h with
  | nil => exact h'
  | cons a _ ih => exact .cons a ih
theorem F2.map {α β : Type} {f : α → β} {l : List α} {r : List β} (h : F2 (fun a b => b = f a) l r) : r = l.map f := by
  induction h with
  | nil => rfl
  | cons a _ ih => rw [a, ih]; rfl
section
variable {s : Store} {E : XP} {ρ : Sl} {Q : PV → Store → Prop}
/-- a comprehension's turns: J stays, each item gives what Y says; but for the object t nothing changes -/
theorem w_lcR {elt : CE} {j t : Nat} {src : Sc} {D : Nat} {k : Nat} {items : List PV} (J : Store → Prop) (Y : PV → PV → Prop) (hD : s[D]? = some (.lst [])) (ht : D ≠ t) (h0 : J s)
    (hsrc : ∀ s1, J s1 → ∀ i, getI s1 src i = some items[i]?) (hJ : ∀ s1 s2, J s1 → Kp D s1 s2 → J s2) (hl : items.length ≤ 100000) (hk : items.length < k)
    (step : ∀ v ∈ items, ∀ (s1 : Store) (Q' : PV → Store → Prop), J s1 → (∀ y s2, Y v y → J s2 → Kp t s1 s2 → Q' y s2) → W (elt (ρ.set j (some v))) s1 Q' (fun _ _ _ => False))
    (hq : ∀ ys s', F2 Y items ys → s'[D]? = some (.lst ys) → J s' → (∀ n, n < s.length → n ≠ t → n ≠ D → s'[n]? = s[n]?) → s.length ≤ s'.length → Q (.ref D) s') : W (lcX elt (Tgt.run (.nm j)) tYes src D ρ k 0) s Q E := by
  refine w_lcC (fun i acc s' => J s' ∧ F2 Y (items.take i) acc ∧ (∀ n, n < s.length → n ≠ t → n ≠ D → s'[n]? = s[n]?) ∧ s.length ≤ s'.length) items (fun i acc s1 h => hsrc s1 h.1 i) hl ?_ (fun acc s1 h hD1 => hq acc s1 (by rw [List.take_length] at h; exact h.2.1) hD1 h.1 h.2.2.1 h.2.2.2) k 0 [] s ⟨h0, .nil, fun _ _ _ _ => rfl, Nat.le_refl _⟩ hD (Nat.le_refl _) (Nat.zero_le _) (by omega)
  intro i v acc s1 hv ⟨j1, f1, k1, l1⟩ hD1
  have hm : v ∈ items := List.mem_of_getElem? hv
  refine ⟨ρ.set j (some v), by simp only [Tgt.run], ?_⟩
  rw [W_tYes, if_pos rfl]
  refine step v hm s1 _ j1 fun y s2 hy j2 k2 => ?_
  have hD2 : s2[D]? = some (.lst acc) := k2.get hD1 ht
  refine ⟨hD2, hJ s2 _ j2 Kp.set, ?_, fun n hn h1 h2 => ?_, by have := k2.le; simp; omega⟩
  · rw [List.take_add_one, hv]
    exact f1.app (.cons hy .nil)
  · rw [List.getElem?_set, if_neg (Ne.symm h2), k2.at_ n (by omega) h1, k1 n hn h1 h2]
theorem w_addL {m n : Nat} {l r : List PV} (h1 : s[m]? = some (.lst l)) (h2 : s[n]? = some (.lst r)) (h : l.length + r.length ≤ 100000) (q : Q (.ref s.length) (s ++ [.lst (l ++ r)])) : W (binP .Add (.ref m) (.ref n)) s Q E := by
  refine W_ok (a := .ref s.length) (s' := s ++ [.lst (l ++ r)]) ?_ q
  show (match s[m]?, s[n]? with
    | some (.lst l), some (.lst r) => if l.length + r.length ≤ sizeLine then RE.ok (PV.ref s.length) (s ++ [SO.lst (l ++ r)]) else .bad
    | _, _ => .bad) = _
  rw [h1, h2]
  dsimp only
  rw [if_pos (Nat.le_trans h (by decide))]
theorem w_lc0 {elt : CE} {j : Nat} {D k i : Nat} {l : List PV} (hv : l[i]? = none) (h : Q (.ref D) s) : W (lcX elt (Tgt.run (.nm j)) tYes (.items l) D ρ (k + 1) i) s Q E := by
  refine W_ok (a := .ref D) (s' := s) ?_ h
  rw [lcX_eq]
  unfold lcC
  rw [show getI s (.items l) i = some none from congrArg some hv]
theorem w_lc1 {elt : CE} {j : Nat} {D k i : Nat} {l acc : List PV} {v : PV} (hv : l[i]? = some v) (hD : s[D]? = some (.lst acc)) (ha : acc.length < 1000)
    (h : W (elt (ρ.set j (some v))) s (fun y s2 => s2[D]? = some (.lst acc) ∧ ∀ s3, s3[D]? = some (.lst (acc ++ [y])) → Kp D s2 s3 → s3.length = s2.length → W (lcX elt (Tgt.run (.nm j)) tYes (.items l) D ρ k (i + 1)) s3 Q E) (fun _ _ _ => False)) : W (lcX elt (Tgt.run (.nm j)) tYes (.items l) D ρ (k + 1) i) s Q E := by
  obtain ⟨y, s2, e, hD2, h⟩ := W_get h
  have hl : D < s2.length := (List.getElem?_eq_some_iff.mp hD2).1
  have h3 := h (s2.set D (.lst (acc ++ [y]))) (by simp [List.getElem?_set, hl]) Kp.set (by simp)
  have e2 : lcX elt (Tgt.run (.nm j)) tYes (.items l) D ρ (k + 1) i s = lcX elt (Tgt.run (.nm j)) tYes (.items l) D ρ k (i + 1) (s2.set D (.lst (acc ++ [y]))) := by
    rw [lcX_eq, lcX_eq]
    conv => lhs; unfold lcC
    rw [show getI s (.items l) i = some (some v) from congrArg some hv]
    simp only [Tgt.run, tYes, ret]
    rw [e]
    dsimp only
    rw [hD2]
    dsimp only
    rw [if_pos (Nat.lt_trans ha (by decide))]
  unfold W at h3 ⊢
  rw [e2]
  exact h3
end
end Z

namespace Zk
open PySem L2 Z
def top (i : Nat) : Stmt := PySem.Challenge.pw_effecthouse_k49_whole_secrets_put_togeth.main.body.getD i (.Pass ⟨0, 0, 0, 0⟩)
def inClass (s : Stmt) (j : Nat) : Stmt := match s with
  | .ClassDef _ _ _ b _ _ _ _ _ _ _ => b.getD j (.Pass ⟨0, 0, 0, 0⟩)
  | _ => .Pass ⟨0, 0, 0, 0⟩
/-- reckon -/
def st0 : Stmt := top 6
def fn0 : FnI := ⟨["sign", "left", "right", "results"], ["sign", "left", "right"], defBody st0, defScope st0⟩
/-- expression_level -/
def st1 : Stmt := top 8
def fn1 : FnI := ⟨["term", "levels", "path", "first"], ["term", "levels", "path"], defBody st1, defScope st1⟩
/-- check -/
def st2 : Stmt := top 9
def fn2 : FnI := ⟨["program", "levels", "around", "path", "word", "own", "inner", "index", "part"], ["program", "levels", "around", "path"], defBody st2, defScope st2⟩
/-- keeps_secrets -/
def st3 : Stmt := top 10
def fn3 : FnI := ⟨["program", "levels", "e"], ["program", "levels"], defBody st3, defScope st3⟩
/-- least_levels -/
def st4 : Stmt := top 11
def fn4 : FnI := ⟨["program", "levels", "found", "changed", "before"], ["program", "levels"], defBody st4, defScope st4⟩
/-- raise_levels -/
def st5 : Stmt := top 12
def fn5 : FnI := ⟨["program", "levels", "around", "word", "need", "inner", "part"], ["program", "levels", "around"], defBody st5, defScope st5⟩
/-- reckoned -/
def st6 : Stmt := top 13
def fn6 : FnI := ⟨["term", "values"], ["term", "values"], defBody st6, defScope st6⟩
/-- SecretRun.__init__ -/
def st7 : Stmt := inClass (top 14) 0
def fn7 : FnI := ⟨["self", "values", "fuel"], ["self", "values", "fuel"], defBody st7, defScope st7⟩
/-- SecretRun.go -/
def st8 : Stmt := inClass (top 14) 1
def fn8 : FnI := ⟨["self", "program", "word"], ["self", "program"], defBody st8, defScope st8⟩
/-- run_secret -/
def st9 : Stmt := top 15
def fn9 : FnI := ⟨["program", "values", "fuel", "run"], ["program", "values", "fuel"], defBody st9, defScope st9⟩
/-- _law_tape -/
def st10 : Stmt := top 17
def fn10 : FnI := ⟨["script", "cells", "seed", "cell"], ["script"], defBody st10, defScope st10⟩
/-- _law_take -/
def st11 : Stmt := top 18
def fn11 : FnI := ⟨["tape", "many", "drawn", "mixed"], ["tape", "many"], defBody st11, defScope st11⟩
/-- _law_expression -/
def st12 : Stmt := top 22
def fn12 : FnI := ⟨["tape", "depth"], ["tape", "depth"], defBody st12, defScope st12⟩
/-- _law_program -/
def st13 : Stmt := top 23
def fn13 : FnI := ⟨["tape", "depth", "pick"], ["tape", "depth"], defBody st13, defScope st13⟩
/-- _law_sets -/
def st14 : Stmt := top 24
def fn14 : FnI := ⟨["p", "found", "part"], ["p"], defBody st14, defScope st14⟩
/-- _law_renamed -/
def st15 : Stmt := top 25
def fn15 : FnI := ⟨["p", "names", "part"], ["p", "names"], defBody st15, defScope st15⟩
/-- law -/
def st16 : Stmt := top 26
def fn16 : FnI := ⟨["script", "tape", "names", "turn", "p", "q", "levels", "one", "two", "both", "best", "higher", "together", "low", "name", "tested", "swap", "moved", "values", "end", "other", "twice", "first", "last"], ["script"], defBody st16, defScope st16⟩
def clsT : List ClI := [⟨"HouseError", none, [], [], some none⟩, ⟨"TypeProblem", none, [], [], some (some ["code", "path"])⟩, ⟨"Tired", none, [], [], some none⟩, ⟨"SecretRun", some 7, [("go", 8)], ["known", "fuel"], none⟩]
def globT : List (Str × GE) := [("HouseError", .cls 0), ("TypeProblem", .cls 1), ("Tired", .cls 2), ("WHOLE", .cst (.int 4294967296)), ("reckon", .fn 0), ("expression_level", .fn 1), ("check", .fn 2), ("keeps_secrets", .fn 3), ("least_levels", .fn 4), ("raise_levels", .fn 5), ("reckoned", .fn 6), ("SecretRun", .cls 3), ("run_secret", .fn 9), ("_law_tape", .fn 10), ("_law_take", .fn 11), ("_law_expression", .fn 12), ("_law_program", .fn 13), ("_law_sets", .fn 14), ("_law_renamed", .fn 15), ("law", .fn 16)]
def subT (a b : Nat) : Bool := [(0, 0), (1, 0), (1, 1), (2, 0), (2, 2)].contains (a, b)
def fnsT : List FnI := [fn0, fn1, fn2, fn3, fn4, fn5, fn6, fn7, fn8, fn9, fn10, fn11, fn12, fn13, fn14, fn15, fn16]
def tab : Tab := ⟨fnsT, clsT, globT, subT⟩
abbrev i_reckon : Nat := 0
abbrev i_expression_level : Nat := 1
abbrev i_check : Nat := 2
abbrev i_keeps_secrets : Nat := 3
abbrev i_least_levels : Nat := 4
abbrev i_raise_levels : Nat := 5
abbrev i_reckoned : Nat := 6
abbrev i_SecretRun___init__ : Nat := 7
abbrev i_SecretRun_go : Nat := 8
abbrev i_run_secret : Nat := 9
abbrev i__law_tape : Nat := 10
abbrev i__law_take : Nat := 11
abbrev i__law_expression : Nat := 12
abbrev i__law_program : Nat := 13
abbrev i__law_sets : Nat := 14
abbrev i__law_renamed : Nat := 15
abbrev i_law : Nat := 16
abbrev c_HouseError : Nat := 0
abbrev c_TypeProblem : Nat := 1
abbrev c_Tired : Nat := 2
abbrev c_SecretRun : Nat := 3
end Zk

namespace Zk
open PySem L2 Z
abbrev lk0 (call mk : Nat → List PV → M PV) : Lk := ⟨tab, call, mk, fn0.N⟩
def b_reckon (call mk : Nat → List PV → M PV) : SM := cBlk [cIf (tCmp .Eq (sl 0) (kst (.str "=="))) (cBlk [cRet (eTup [kst (.str "bool"), eCmp .Eq (sl 1) (sl 2)])]) (cBlk []),
  cIf (tCmp .Eq (sl 0) (kst (.str "<"))) (cBlk [cRet (eTup [kst (.str "bool"), eCmp .Lt (sl 1) (sl 2)])]) (cBlk []),
  cAsg 3 (eDct [.inr "+", .inr "-", .inr "*"] [e2 (binP .Add) (sl 1) (sl 2), e2 (binP .Sub) (sl 1) (sl 2), e2 (binP .Mult) (sl 1) (sl 2)]),
  cRet (eTup [kst (.str "int"), e2 (binP .Mod) (e2 ixP (sl 3) (sl 0)) (kst (.int 4294967296))])]
theorem q_reckon (call mk : Nat → List PV → M PV) : blk (evS (lk0 call mk) fn0.sc 20) fn0.body = b_reckon call mk := by
  with_unfolding_all rfl
theorem w_reckon (d : Nat) {vs : List PV} (h : vs.length = 3) : callN tab (d + 1) 0 vs = cFn 4 (b_reckon (callN tab d) (iniN tab d)) vs := callN_c (F := fn0) (by rfl) (q_reckon _ _) (by rfl) h
abbrev lk1 (call mk : Nat → List PV → M PV) : Lk := ⟨tab, call, mk, fn1.N⟩
def b_expression_level (call mk : Nat → List PV → M PV) : SM := cBlk [cIf (tCmp .Eq (e2 ixP (sl 0) (kst (.int 0))) (kst (.str "int"))) (cBlk [cRet (kst (.int 0))]) (cBlk []),
  cIf (tCmp .Eq (e2 ixP (sl 0) (kst (.int 0))) (kst (.str "var"))) (cBlk [cIf (tCmp .NotIn (e2 ixP (sl 0) (kst (.int 1))) (sl 1)) (cBlk [cRai 1 ["code", "path"] [kst (.str "name"), sl 2]]) (cBlk []), cRet (e2 ixP (sl 1) (e2 ixP (sl 0) (kst (.int 1))))]) (cBlk []),
  cAsg 3 (eCall (call 1) [e2 ixP (sl 0) (kst (.int 2)), sl 1, e2 (binP .Add) (sl 2) (eTup [kst (.int 0)])]),
  cRet (eCall (bltP .max) [sl 3, eCall (call 1) [e2 ixP (sl 0) (kst (.int 3)), sl 1, e2 (binP .Add) (sl 2) (eTup [kst (.int 1)])]])]
theorem q_expression_level (call mk : Nat → List PV → M PV) : blk (evS (lk1 call mk) fn1.sc 20) fn1.body = b_expression_level call mk := by
  with_unfolding_all rfl
theorem w_expression_level (d : Nat) {vs : List PV} (h : vs.length = 3) : callN tab (d + 1) 1 vs = cFn 4 (b_expression_level (callN tab d) (iniN tab d)) vs := callN_c (F := fn1) (by rfl) (q_expression_level _ _) (by rfl) h
abbrev lk2 (call mk : Nat → List PV → M PV) : Lk := ⟨tab, call, mk, fn2.N⟩
def b_check_1 (call mk : Nat → List PV → M PV) : SM := cBlk [cExp (eCall (call 2) [sl 8, sl 1, sl 6, e2 (binP .Add) (sl 3) (eTup [e2 (binP .Add) (kst (.int 1)) (sl 7)])])]
def b_check (call mk : Nat → List PV → M PV) : SM := cBlk [cAsg 4 (e2 ixP (sl 0) (kst (.int 0))),
  cIf (tCmp .Eq (sl 4) (kst (.str "set"))) (cBlk [cAsg 5 (eCall (call 1) [eTup [kst (.str "var"), e2 ixP (sl 0) (kst (.int 1))], sl 1, sl 3]), cIf (tCmp .Gt (eCall (bltP .max) [sl 2, eCall (call 1) [e2 ixP (sl 0) (kst (.int 2)), sl 1, e2 (binP .Add) (sl 3) (eTup [kst (.int 0)])]]) (sl 5)) (cBlk [cRai 1 ["code", "path"] [kst (.str "leak"), sl 3]]) (cBlk [])]) (cBlk [cIf (tCmp .Eq (sl 4) (kst (.str "then"))) (cBlk [cExp (eCall (call 2) [e2 ixP (sl 0) (kst (.int 1)), sl 1, sl 2, e2 (binP .Add) (sl 3) (eTup [kst (.int 0)])]), cExp (eCall (call 2) [e2 ixP (sl 0) (kst (.int 2)), sl 1, sl 2, e2 (binP .Add) (sl 3) (eTup [kst (.int 1)])])]) (cBlk [cIf (tCmp .In (sl 4) (eTup [kst (.str "if"), kst (.str "while")])) (cBlk [cAsg 6 (eCall (bltP .max) [sl 2, eCall (call 1) [e2 ixP (sl 0) (kst (.int 1)), sl 1, e2 (binP .Add) (sl 3) (eTup [kst (.int 0)])]]), cFor (sOf en1 [eSl (sl 0) (ePart (kst (.int 2))) eNo]) (Tgt.run (.tup [.nm 7, .nm 8])) (b_check_1 call mk)]) (cBlk [])])])]
theorem q_check (call mk : Nat → List PV → M PV) : blk (evS (lk2 call mk) fn2.sc 20) fn2.body = b_check call mk := by
  with_unfolding_all rfl
theorem w_check (d : Nat) {vs : List PV} (h : vs.length = 4) : callN tab (d + 1) 2 vs = cFn 9 (b_check (callN tab d) (iniN tab d)) vs := callN_c (F := fn2) (by rfl) (q_check _ _) (by rfl) h
abbrev lk3 (call mk : Nat → List PV → M PV) : Lk := ⟨tab, call, mk, fn3.N⟩
def b_keeps_secrets (call mk : Nat → List PV → M PV) : SM := cBlk [cTry tab (cBlk [cExp (eCall (call 2) [sl 0, sl 1, kst (.int 0), eTup []])]) 1 (suiF (some "e") "e" "path") (goneI 2),
  cRet (kst (.non))]
theorem q_keeps_secrets (call mk : Nat → List PV → M PV) : blk (evS (lk3 call mk) fn3.sc 20) fn3.body = b_keeps_secrets call mk := by
  with_unfolding_all rfl
theorem w_keeps_secrets (d : Nat) {vs : List PV} (h : vs.length = 2) : callN tab (d + 1) 3 vs = cFn 3 (b_keeps_secrets (callN tab d) (iniN tab d)) vs := callN_c (F := fn3) (by rfl) (q_keeps_secrets _ _) (by rfl) h
abbrev lk4 (call mk : Nat → List PV → M PV) : Lk := ⟨tab, call, mk, fn4.N⟩
def b_least_levels_1 (call mk : Nat → List PV → M PV) : SM := cBlk [cAsg 4 (eCall (bltP .dict) [sl 2]), cExp (eCall (call 5) [sl 0, sl 2, kst (.int 0)]), cAsg 3 (eCmp .NotEq (sl 2) (sl 4))]
def b_least_levels (call mk : Nat → List PV → M PV) : SM := cBlk [cAsg 2 (eCall (bltP .dict) [sl 1]),
  cAsg 3 (kst (.bl true)),
  cWhl (tTru (sl 3)) (b_least_levels_1 call mk),
  cRet (sl 2)]
theorem q_least_levels (call mk : Nat → List PV → M PV) : blk (evS (lk4 call mk) fn4.sc 20) fn4.body = b_least_levels call mk := by
  with_unfolding_all rfl
theorem w_least_levels (d : Nat) {vs : List PV} (h : vs.length = 2) : callN tab (d + 1) 4 vs = cFn 5 (b_least_levels (callN tab d) (iniN tab d)) vs := callN_c (F := fn4) (by rfl) (q_least_levels _ _) (by rfl) h
abbrev lk5 (call mk : Nat → List PV → M PV) : Lk := ⟨tab, call, mk, fn5.N⟩
def b_raise_levels_1 (call mk : Nat → List PV → M PV) : SM := cBlk [cExp (eCall (call 5) [sl 6, sl 1, sl 5])]
def b_raise_levels (call mk : Nat → List PV → M PV) : SM := cBlk [cAsg 3 (e2 ixP (sl 0) (kst (.int 0))),
  cIf (tCmp .Eq (sl 3) (kst (.str "set"))) (cBlk [cAsg 4 (eCall (bltP .max) [sl 2, eCall (call 1) [e2 ixP (sl 0) (kst (.int 2)), sl 1, eTup []]]), cIxSet (sl 1) (e2 ixP (sl 0) (kst (.int 1))) (eCall (bltP .max) [e2 ixP (sl 1) (e2 ixP (sl 0) (kst (.int 1))), sl 4])]) (cBlk [cIf (tCmp .Eq (sl 3) (kst (.str "then"))) (cBlk [cExp (eCall (call 5) [e2 ixP (sl 0) (kst (.int 1)), sl 1, sl 2]), cExp (eCall (call 5) [e2 ixP (sl 0) (kst (.int 2)), sl 1, sl 2])]) (cBlk [cIf (tCmp .In (sl 3) (eTup [kst (.str "if"), kst (.str "while")])) (cBlk [cAsg 5 (eCall (bltP .max) [sl 2, eCall (call 1) [e2 ixP (sl 0) (kst (.int 1)), sl 1, eTup []]]), cFor (sWalk (eSl (sl 0) (ePart (kst (.int 2))) eNo)) (Tgt.run (.nm 6)) (b_raise_levels_1 call mk)]) (cBlk [])])])]
theorem q_raise_levels (call mk : Nat → List PV → M PV) : blk (evS (lk5 call mk) fn5.sc 20) fn5.body = b_raise_levels call mk := by
  with_unfolding_all rfl
theorem w_raise_levels (d : Nat) {vs : List PV} (h : vs.length = 3) : callN tab (d + 1) 5 vs = cFn 7 (b_raise_levels (callN tab d) (iniN tab d)) vs := callN_c (F := fn5) (by rfl) (q_raise_levels _ _) (by rfl) h
abbrev lk6 (call mk : Nat → List PV → M PV) : Lk := ⟨tab, call, mk, fn6.N⟩
def b_reckoned (call mk : Nat → List PV → M PV) : SM := cBlk [cIf (tCmp .Eq (e2 ixP (sl 0) (kst (.int 0))) (kst (.str "int"))) (cBlk [cRet (e2 ixP (sl 0) (kst (.int 1)))]) (cBlk []),
  cIf (tCmp .Eq (e2 ixP (sl 0) (kst (.int 0))) (kst (.str "var"))) (cBlk [cRet (e2 ixP (sl 1) (e2 ixP (sl 0) (kst (.int 1))))]) (cBlk []),
  cRet (eCall (bltP .int) [e2 ixP (eCall (call 0) [e2 ixP (sl 0) (kst (.int 1)), eCall (call 6) [e2 ixP (sl 0) (kst (.int 2)), sl 1], eCall (call 6) [e2 ixP (sl 0) (kst (.int 3)), sl 1]]) (kst (.int 1))])]
theorem q_reckoned (call mk : Nat → List PV → M PV) : blk (evS (lk6 call mk) fn6.sc 20) fn6.body = b_reckoned call mk := by
  with_unfolding_all rfl
theorem w_reckoned (d : Nat) {vs : List PV} (h : vs.length = 2) : callN tab (d + 1) 6 vs = cFn 2 (b_reckoned (callN tab d) (iniN tab d)) vs := callN_c (F := fn6) (by rfl) (q_reckoned _ _) (by rfl) h
abbrev lk7 (call mk : Nat → List PV → M PV) : Lk := ⟨tab, call, mk, fn7.N⟩
def b_SecretRun___init__ (call mk : Nat → List PV → M PV) : SM := cBlk [cFldSet (lk7 call mk) (sl 0) "known" (eCall (bltP .dict) [sl 1]),
  cFldSet (lk7 call mk) (sl 0) "fuel" (sl 2)]
theorem q_SecretRun___init__ (call mk : Nat → List PV → M PV) : blk (evS (lk7 call mk) fn7.sc 20) fn7.body = b_SecretRun___init__ call mk := by
  with_unfolding_all rfl
theorem w_SecretRun___init__ (d : Nat) {vs : List PV} (h : vs.length = 3) : callN tab (d + 1) 7 vs = cFn 3 (b_SecretRun___init__ (callN tab d) (iniN tab d)) vs := callN_c (F := fn7) (by rfl) (q_SecretRun___init__ _ _) (by rfl) h
abbrev lk8 (call mk : Nat → List PV → M PV) : Lk := ⟨tab, call, mk, fn8.N⟩
def b_SecretRun_go (call mk : Nat → List PV → M PV) : SM := cBlk [cIf (tCmp .Eq (e1 (fun x => fldP (lk8 call mk) x "fuel") (sl 0)) (kst (.int 0))) (cBlk [cRai0 2]) (cBlk []),
  cAug (lk8 call mk) (sl 0) "fuel" (· - ·) (kst (.int 1)),
  cAsg 2 (e2 ixP (sl 1) (kst (.int 0))),
  cIf (tCmp .Eq (sl 2) (kst (.str "set"))) (cBlk [cIxSet (e1 (fun x => fldP (lk8 call mk) x "known") (sl 0)) (e2 ixP (sl 1) (kst (.int 1))) (eCall (call 6) [e2 ixP (sl 1) (kst (.int 2)), e1 (fun x => fldP (lk8 call mk) x "known") (sl 0)])]) (cBlk [cIf (tCmp .Eq (sl 2) (kst (.str "then"))) (cBlk [cExp (eMeth (lk8 call mk) (sl 0) "go" [e2 ixP (sl 1) (kst (.int 1))]), cExp (eMeth (lk8 call mk) (sl 0) "go" [e2 ixP (sl 1) (kst (.int 2))])]) (cBlk [cIf (tCmp .Eq (sl 2) (kst (.str "if"))) (cBlk [cExp (eMeth (lk8 call mk) (sl 0) "go" [eIf (tCmp .NotEq (eCall (call 6) [e2 ixP (sl 1) (kst (.int 1)), e1 (fun x => fldP (lk8 call mk) x "known") (sl 0)]) (kst (.int 0))) (e2 ixP (sl 1) (kst (.int 2))) (e2 ixP (sl 1) (kst (.int 3)))])]) (cBlk [cIf (tAnd (tCmp .Eq (sl 2) (kst (.str "while"))) (tCmp .NotEq (eCall (call 6) [e2 ixP (sl 1) (kst (.int 1)), e1 (fun x => fldP (lk8 call mk) x "known") (sl 0)]) (kst (.int 0)))) (cBlk [cExp (eMeth (lk8 call mk) (sl 0) "go" [e2 ixP (sl 1) (kst (.int 2))]), cExp (eMeth (lk8 call mk) (sl 0) "go" [sl 1])]) (cBlk [])])])])]
theorem q_SecretRun_go (call mk : Nat → List PV → M PV) : blk (evS (lk8 call mk) fn8.sc 20) fn8.body = b_SecretRun_go call mk := by
  with_unfolding_all rfl
theorem w_SecretRun_go (d : Nat) {vs : List PV} (h : vs.length = 2) : callN tab (d + 1) 8 vs = cFn 3 (b_SecretRun_go (callN tab d) (iniN tab d)) vs := callN_c (F := fn8) (by rfl) (q_SecretRun_go _ _) (by rfl) h
abbrev lk9 (call mk : Nat → List PV → M PV) : Lk := ⟨tab, call, mk, fn9.N⟩
def b_run_secret (call mk : Nat → List PV → M PV) : SM := cBlk [cAsg 3 (eCall (makeP (lk9 call mk) 3) [sl 1, sl 2]),
  cTry tab (cBlk [cExp (eMeth (lk9 call mk) (sl 3) "go" [sl 0])]) 2 (suiC (.ret (.non))) goneN,
  cRet (e1 (fun x => fldP (lk9 call mk) x "known") (sl 3))]
theorem q_run_secret (call mk : Nat → List PV → M PV) : blk (evS (lk9 call mk) fn9.sc 20) fn9.body = b_run_secret call mk := by
  with_unfolding_all rfl
theorem w_run_secret (d : Nat) {vs : List PV} (h : vs.length = 3) : callN tab (d + 1) 9 vs = cFn 4 (b_run_secret (callN tab d) (iniN tab d)) vs := callN_c (F := fn9) (by rfl) (q_run_secret _ _) (by rfl) h
abbrev lk10 (call mk : Nat → List PV → M PV) : Lk := ⟨tab, call, mk, fn10.N⟩
def b__law_tape_1 (call mk : Nat → List PV → M PV) : SM := cBlk [cAsg 2 (e2 (binP .Mod) (eCall (bltP .int) [e2 (binP .Add) (e2 (binP .Mult) (sl 2) (kst (.int 31))) (sl 3)]) (kst (.int 2147483647)))]
def b__law_tape (call mk : Nat → List PV → M PV) : SM := cBlk [cAsg 1 (eLc (eCall (bltP .abs) [eCall (bltP .int) [sl 3]]) (Tgt.run (.nm 3)) (tYes) (sWalk (sl 0)) [3]),
  cAsg 2 (kst (.int 7)),
  cFor (sWalk (sl 1)) (Tgt.run (.nm 3)) (b__law_tape_1 call mk),
  cRet (eDct [.inr "cells", .inr "at", .inr "left", .inr "seed", .inr "salt"] [sl 1, kst (.int 0), kst (.int 0), sl 2, kst (.int 0)])]
theorem q__law_tape (call mk : Nat → List PV → M PV) : blk (evS (lk10 call mk) fn10.sc 20) fn10.body = b__law_tape call mk := by
  with_unfolding_all rfl
theorem w__law_tape (d : Nat) {vs : List PV} (h : vs.length = 1) : callN tab (d + 1) 10 vs = cFn 4 (b__law_tape (callN tab d) (iniN tab d)) vs := callN_c (F := fn10) (by rfl) (q__law_tape _ _) (by rfl) h
abbrev lk11 (call mk : Nat → List PV → M PV) : Lk := ⟨tab, call, mk, fn11.N⟩
def b__law_take (call mk : Nat → List PV → M PV) : SM := cBlk [cIf (tAnd (tCmp .Eq (e2 ixP (sl 0) (kst (.str "left"))) (kst (.int 0))) (tCmp .Lt (e2 ixP (sl 0) (kst (.str "at"))) (eCall (bltP .len) [e2 ixP (sl 0) (kst (.str "cells"))]))) (cBlk [cIxSet (sl 0) (kst (.str "left")) (e2 ixP (e2 ixP (sl 0) (kst (.str "cells"))) (e2 ixP (sl 0) (kst (.str "at")))), cIxSet (sl 0) (kst (.str "at")) (e2 (binP .Add) (e2 ixP (sl 0) (kst (.str "at"))) (kst (.int 1)))]) (cBlk []),
  cIf (tCmp .Gt (e2 ixP (sl 0) (kst (.str "left"))) (kst (.int 0))) (cBlk [cAsg 2 (e2 (binP .Mod) (eCall (bltP .int) [e2 ixP (sl 0) (kst (.str "left"))]) (sl 1)), cIxSet (sl 0) (kst (.str "left")) (e2 (binP .FloorDiv) (e2 ixP (sl 0) (kst (.str "left"))) (sl 1)), cRet (sl 2)]) (cBlk []),
  cIxSet (sl 0) (kst (.str "salt")) (e2 (binP .Add) (e2 ixP (sl 0) (kst (.str "salt"))) (kst (.int 1))),
  cAsg 3 (e2 (binP .Mod) (eCall (bltP .int) [e2 (binP .Add) (e2 (binP .Mult) (e2 ixP (sl 0) (kst (.str "seed"))) (kst (.int 48271))) (e2 (binP .Mult) (e2 ixP (sl 0) (kst (.str "salt"))) (kst (.int 69621)))]) (kst (.int 2147483647))),
  cAsg 3 (e2 (binP .Mod) (eCall (bltP .int) [e2 (binP .Add) (e2 (binP .Add) (e2 (binP .Mult) (sl 3) (sl 3)) (e2 (binP .Mult) (e2 ixP (sl 0) (kst (.str "salt"))) (kst (.int 40692)))) (kst (.int 12345))]) (kst (.int 2147483399))),
  cRet (e2 (binP .Mod) (eCall (bltP .int) [sl 3]) (sl 1))]
theorem q__law_take (call mk : Nat → List PV → M PV) : blk (evS (lk11 call mk) fn11.sc 20) fn11.body = b__law_take call mk := by
  with_unfolding_all rfl
theorem w__law_take (d : Nat) {vs : List PV} (h : vs.length = 2) : callN tab (d + 1) 11 vs = cFn 4 (b__law_take (callN tab d) (iniN tab d)) vs := callN_c (F := fn11) (by rfl) (q__law_take _ _) (by rfl) h
abbrev lk12 (call mk : Nat → List PV → M PV) : Lk := ⟨tab, call, mk, fn12.N⟩
def b__law_expression (call mk : Nat → List PV → M PV) : SM := cBlk [cIf (tOr (tCmp .Eq (sl 1) (kst (.int 0))) (tCmp .Eq (eCall (call 11) [sl 0, kst (.int 3)]) (kst (.int 0)))) (cBlk [cRet (eIf (tCmp .Eq (eCall (call 11) [sl 0, kst (.int 3)]) (kst (.int 0))) (eTup [kst (.str "int"), eCall (call 11) [sl 0, kst (.int 4)]]) (eTup [kst (.str "var"), e2 ixP (eLst [kst (.str "a"), kst (.str "b"), kst (.str "c"), kst (.str "d")]) (eCall (call 11) [sl 0, kst (.int 4)])]))]) (cBlk []),
  cRet (eTup [kst (.str "op"), e2 ixP (eLst [kst (.str "+"), kst (.str "-"), kst (.str "=="), kst (.str "<")]) (eCall (call 11) [sl 0, kst (.int 4)]), eCall (call 12) [sl 0, e2 (binP .Sub) (sl 1) (kst (.int 1))], eCall (call 12) [sl 0, e2 (binP .Sub) (sl 1) (kst (.int 1))]])]
theorem q__law_expression (call mk : Nat → List PV → M PV) : blk (evS (lk12 call mk) fn12.sc 20) fn12.body = b__law_expression call mk := by
  with_unfolding_all rfl
theorem w__law_expression (d : Nat) {vs : List PV} (h : vs.length = 2) : callN tab (d + 1) 12 vs = cFn 2 (b__law_expression (callN tab d) (iniN tab d)) vs := callN_c (F := fn12) (by rfl) (q__law_expression _ _) (by rfl) h
abbrev lk13 (call mk : Nat → List PV → M PV) : Lk := ⟨tab, call, mk, fn13.N⟩
def b__law_program (call mk : Nat → List PV → M PV) : SM := cBlk [cIf (tOr (tCmp .Eq (sl 1) (kst (.int 0))) (tCmp .Eq (eCall (call 11) [sl 0, kst (.int 5)]) (kst (.int 0)))) (cBlk [cRet (eIf (tCmp .Gt (eCall (call 11) [sl 0, kst (.int 6)]) (kst (.int 0))) (eTup [kst (.str "set"), e2 ixP (eLst [kst (.str "a"), kst (.str "b"), kst (.str "c"), kst (.str "d")]) (eCall (call 11) [sl 0, kst (.int 4)]), eCall (call 12) [sl 0, kst (.int 2)]]) (eTup [kst (.str "skip")]))]) (cBlk []),
  cAsg 2 (eCall (call 11) [sl 0, kst (.int 5)]),
  cIf (tCmp .Lt (sl 2) (kst (.int 2))) (cBlk [cRet (eTup [kst (.str "then"), eCall (call 13) [sl 0, e2 (binP .Sub) (sl 1) (kst (.int 1))], eCall (call 13) [sl 0, e2 (binP .Sub) (sl 1) (kst (.int 1))]])]) (cBlk []),
  cIf (tCmp .Lt (sl 2) (kst (.int 4))) (cBlk [cRet (eTup [kst (.str "if"), eCall (call 12) [sl 0, kst (.int 1)], eCall (call 13) [sl 0, e2 (binP .Sub) (sl 1) (kst (.int 1))], eCall (call 13) [sl 0, e2 (binP .Sub) (sl 1) (kst (.int 1))]])]) (cBlk []),
  cRet (eTup [kst (.str "while"), eTup [kst (.str "op"), kst (.str "<"), eTup [kst (.str "var"), kst (.str "d")], eTup [kst (.str "int"), eCall (call 11) [sl 0, kst (.int 4)]]], eTup [kst (.str "then"), eCall (call 13) [sl 0, e2 (binP .Sub) (sl 1) (kst (.int 1))], eTup [kst (.str "set"), kst (.str "d"), eTup [kst (.str "op"), kst (.str "+"), eTup [kst (.str "var"), kst (.str "d")], eTup [kst (.str "int"), kst (.int 1)]]]]])]
theorem q__law_program (call mk : Nat → List PV → M PV) : blk (evS (lk13 call mk) fn13.sc 20) fn13.body = b__law_program call mk := by
  with_unfolding_all rfl
theorem w__law_program (d : Nat) {vs : List PV} (h : vs.length = 2) : callN tab (d + 1) 13 vs = cFn 3 (b__law_program (callN tab d) (iniN tab d)) vs := callN_c (F := fn13) (by rfl) (q__law_program _ _) (by rfl) h
abbrev lk14 (call mk : Nat → List PV → M PV) : Lk := ⟨tab, call, mk, fn14.N⟩
def b__law_sets_1 (call mk : Nat → List PV → M PV) : SM := cBlk [cAsg 1 (e2 (binP .Add) (sl 1) (eCall (call 14) [sl 2]))]
def b__law_sets (call mk : Nat → List PV → M PV) : SM := cBlk [cIf (tCmp .Eq (e2 ixP (sl 0) (kst (.int 0))) (kst (.str "set"))) (cBlk [cRet (eLst [e2 ixP (sl 0) (kst (.int 1))])]) (cBlk []),
  cAsg 1 (eLst []),
  cFor (sWalk (eIf (tCmp .Eq (e2 ixP (sl 0) (kst (.int 0))) (kst (.str "then"))) (eSl (sl 0) (ePart (kst (.int 1))) eNo) (eIf (tCmp .In (e2 ixP (sl 0) (kst (.int 0))) (eTup [kst (.str "if"), kst (.str "while")])) (eSl (sl 0) (ePart (kst (.int 2))) eNo) (eTup [])))) (Tgt.run (.nm 2)) (b__law_sets_1 call mk),
  cRet (sl 1)]
theorem q__law_sets (call mk : Nat → List PV → M PV) : blk (evS (lk14 call mk) fn14.sc 20) fn14.body = b__law_sets call mk := by
  with_unfolding_all rfl
theorem w__law_sets (d : Nat) {vs : List PV} (h : vs.length = 1) : callN tab (d + 1) 14 vs = cFn 3 (b__law_sets (callN tab d) (iniN tab d)) vs := callN_c (F := fn14) (by rfl) (q__law_sets _ _) (by rfl) h
abbrev lk15 (call mk : Nat → List PV → M PV) : Lk := ⟨tab, call, mk, fn15.N⟩
def b__law_renamed (call mk : Nat → List PV → M PV) : SM := cBlk [cIf (tCmp .Eq (e2 ixP (sl 0) (kst (.int 0))) (kst (.str "set"))) (cBlk [cRet (eTup [kst (.str "set"), e2 ixP (sl 1) (e2 ixP (sl 0) (kst (.int 1))), eCall (call 15) [e2 ixP (sl 0) (kst (.int 2)), sl 1]])]) (cBlk []),
  cIf (tCmp .Eq (e2 ixP (sl 0) (kst (.int 0))) (kst (.str "var"))) (cBlk [cRet (eTup [kst (.str "var"), e2 ixP (sl 1) (e2 ixP (sl 0) (kst (.int 1)))])]) (cBlk []),
  cRet (eCall (bltP .tuple) [eLc (eIf (tTru (e1 (fun x => isiP x "tuple") (sl 2))) (eCall (call 15) [sl 2, sl 1]) (sl 2)) (Tgt.run (.nm 2)) (tYes) (sWalk (sl 0)) [2]])]
theorem q__law_renamed (call mk : Nat → List PV → M PV) : blk (evS (lk15 call mk) fn15.sc 20) fn15.body = b__law_renamed call mk := by
  with_unfolding_all rfl
theorem w__law_renamed (d : Nat) {vs : List PV} (h : vs.length = 2) : callN tab (d + 1) 15 vs = cFn 3 (b__law_renamed (callN tab d) (iniN tab d)) vs := callN_c (F := fn15) (by rfl) (q__law_renamed _ _) (by rfl) h
abbrev lk16 (call mk : Nat → List PV → M PV) : Lk := ⟨tab, call, mk, fn16.N⟩
def b_law_2 (call mk : Nat → List PV → M PV) : SM := cBlk [cAsg 15 (eCall (call 3) [eTup [kst (.str "if"), eTup [kst (.str "var"), sl 14], sl 4, eTup [kst (.str "skip")]], sl 10]), cIf (tCmp .NotEq (eCmp .Is (sl 15) (kst (.non))) (eOr (eCmp .Eq (sl 13) (eLst [])) (eCmp .LtE (e2 ixP (sl 10) (sl 14)) (eCall (bltP .min) [sl 13])))) (cBlk [cRet (kst (.bl false))]) (cBlk [])]
def b_law_1 (call mk : Nat → List PV → M PV) : SM := cBlk [cPar [eCall (call 13) [sl 1, kst (.int 3)], eCall (call 13) [sl 1, kst (.int 3)]] (Tgt.run (.tup [.nm 4, .nm 5])), cAsg 6 (eCall (bltP .dict) [eLc (eTup [sl 14, eCall (call 11) [sl 1, kst (.int 4)]]) (Tgt.run (.nm 14)) (tYes) (sWalk (sl 2)) [14]]), cPar [eCall (call 3) [sl 4, sl 6], eCall (call 3) [sl 5, sl 6], eCall (call 3) [eTup [kst (.str "then"), sl 4, sl 5], sl 6]] (Tgt.run (.tup [.nm 7, .nm 8, .nm 9])), cIf (tCmp .NotEq (sl 9) (eIf (tCmp .IsNot (sl 7) (kst (.non))) (e2 (binP .Add) (eTup [kst (.int 0)]) (sl 7)) (eIf (tCmp .IsNot (sl 8) (kst (.non))) (e2 (binP .Add) (eTup [kst (.int 1)]) (sl 8)) (kst (.non))))) (cBlk [cRet (kst (.bl false))]) (cBlk []), cIf (tCmp .IsNot (eCall (call 3) [sl 4, eCall (bltP .dict) [eLc (eTup [sl 14, kst (.int 2)]) (Tgt.run (.nm 14)) (tYes) (sWalk (sl 2)) [14]]]) (kst (.non))) (cBlk [cRet (kst (.bl false))]) (cBlk []), cAsg 10 (eCall (call 4) [sl 4, sl 6]), cIf (tCmp .NotEq (eCall (call 4) [sl 4, sl 10]) (sl 10)) (cBlk [cRet (kst (.bl false))]) (cBlk []), cAsg 11 (eCall (bltP .dict) [eLc (eTup [sl 14, eCall (bltP .max) [e2 ixP (sl 6) (sl 14), eCall (call 11) [sl 1, kst (.int 4)]]]) (Tgt.run (.nm 14)) (tYes) (sWalk (sl 2)) [14]]), cIf (tTru (eCall (bltP .any) [eLc (eCmp .Lt (e2 ixP (eCall (call 4) [sl 4, sl 11]) (sl 14)) (e2 ixP (sl 10) (sl 14))) (Tgt.run (.nm 14)) (tYes) (sWalk (sl 2)) [14]])) (cBlk [cRet (kst (.bl false))]) (cBlk []), cAsg 12 (eCall (call 4) [eTup [kst (.str "then"), sl 4, sl 5], sl 6]), cIf (tOr3 (tTru (eCall (bltP .any) [eLc (eCmp .Lt (e2 ixP (sl 12) (sl 14)) (eCall (bltP .max) [e2 ixP (sl 10) (sl 14), e2 ixP (eCall (call 4) [sl 5, sl 6]) (sl 14)])) (Tgt.run (.nm 14)) (tYes) (sWalk (sl 2)) [14]])) (tCmp .IsNot (eCall (call 3) [sl 4, sl 12]) (kst (.non))) (tCmp .IsNot (eCall (call 3) [sl 5, sl 12]) (kst (.non)))) (cBlk [cRet (kst (.bl false))]) (cBlk []), cAsg 13 (eLc (e2 ixP (sl 10) (sl 14)) (Tgt.run (.nm 14)) (tYes) (sWalk (eCall (call 14) [sl 4])) [14]), cFor (sWalk (sl 2)) (Tgt.run (.nm 14)) (b_law_2 call mk), cAsg 16 (eDct [.inr "a", .inr "b", .inr "c", .inr "d"] [kst (.str "c"), kst (.str "a"), kst (.str "d"), kst (.str "b")]), cAsg 17 (eCall (bltP .dict) [eLc (eTup [e2 ixP (sl 16) (sl 14), e2 ixP (sl 6) (sl 14)]) (Tgt.run (.nm 14)) (tYes) (sWalk (sl 2)) [14]]), cIf (tCmp .NotEq (eCall (call 3) [eCall (call 15) [sl 4, sl 16], sl 17]) (sl 7)) (cBlk [cRet (kst (.bl false))]) (cBlk []), cAsg 18 (eCall (bltP .dict) [eLc (eTup [sl 14, eCall (call 11) [sl 1, kst (.int 4)]]) (Tgt.run (.nm 14)) (tYes) (sWalk (sl 2)) [14]]), cPar [eCall (call 9) [sl 4, sl 18, kst (.int 150)], eCall (call 9) [eCall (call 15) [sl 4, sl 16], eCall (bltP .dict) [eLc (eTup [e2 ixP (sl 16) (sl 14), e2 ixP (sl 18) (sl 14)]) (Tgt.run (.nm 14)) (tYes) (sWalk (sl 2)) [14]], kst (.int 150)]] (Tgt.run (.tup [.nm 19, .nm 20])), cIf (tOr (tCmp .NotEq (eCmp .Is (sl 19) (kst (.non))) (eCmp .Is (sl 20) (kst (.non)))) (tAnd (tCmp .IsNot (sl 19) (kst (.non))) (tCmp .NotEq (sl 20) (eCall (bltP .dict) [eLc (eTup [e2 ixP (sl 16) (sl 14), e2 ixP (sl 19) (sl 14)]) (Tgt.run (.nm 14)) (tYes) (sWalk (sl 2)) [14]])))) (cBlk [cRet (kst (.bl false))]) (cBlk []), cAsg 21 (eCall (call 9) [eTup [kst (.str "then"), sl 4, sl 5], sl 18, kst (.int 150)]), cAsg 22 (eCall (call 9) [sl 4, sl 18, kst (.int 150)]), cAsg 23 (eIf (tCmp .IsNot (sl 22) (kst (.non))) (eCall (call 9) [sl 5, sl 22, kst (.int 150)]) (kst (.non))), cIf (tAnd (tCmp .IsNot (sl 21) (kst (.non))) (tCmp .NotEq (sl 21) (sl 23))) (cBlk [cRet (kst (.bl false))]) (cBlk [])]
def b_law (call mk : Nat → List PV → M PV) : SM := cBlk [cAsg 1 (eCall (call 10) [sl 0]),
  cAsg 2 (eLst [kst (.str "a"), kst (.str "b"), kst (.str "c"), kst (.str "d")]),
  cFor (sOf rg1 [kst (.int 5)]) (Tgt.run (.nm 3)) (b_law_1 call mk),
  cRet (kst (.bl true))]
theorem q_law (call mk : Nat → List PV → M PV) : blk (evS (lk16 call mk) fn16.sc 20) fn16.body = b_law call mk := by
  with_unfolding_all rfl
theorem w_law (d : Nat) {vs : List PV} (h : vs.length = 1) : callN tab (d + 1) 16 vs = cFn 24 (b_law (callN tab d) (iniN tab d)) vs := callN_c (F := fn16) (by rfl) (q_law _ _) (by rfl) h
end Zk

namespace Zk
open PySem L2 Z
inductive Nm where
  | a | b | c | d
  deriving DecidableEq
def Nm.s : Nm → Str
  | .a => "a" | .b => "b" | .c => "c" | .d => "d"
theorem Nm.inj {x y : Nm} (h : x.s = y.s) : x = y := by
  cases x <;> cases y <;> first | rfl | exact absurd h (by decide)
inductive Sg where
  | add | sub | eq | lt
def Sg.s : Sg → Str
  | .add => "+" | .sub => "-" | .eq => "==" | .lt => "<"
inductive Ex where
  | int (n : Int) | var (x : Nm) | op (o : Sg) (l r : Ex)
def Ex.pv : Ex → PV
  | .int n => .tup [.str "int", .int n]
  | .var x => .tup [.str "var", .str x.s]
  | .op o l r => .tup [.str "op", .str o.s, l.pv, r.pv]
def Ex.dp : Ex → Nat
  | .int _ => 1
  | .var _ => 1
  | .op _ l r => max l.dp r.dp + 1
inductive Pr where
  | skip | set (x : Nm) (e : Ex) | seq (p q : Pr) | ite (e : Ex) (p q : Pr) | whl (e : Ex) (p : Pr)
def Pr.pv : Pr → PV
  | .skip => .tup [.str "skip"]
  | .set x e => .tup [.str "set", .str x.s, e.pv]
  | .seq p q => .tup [.str "then", p.pv, q.pv]
  | .ite e p q => .tup [.str "if", e.pv, p.pv, q.pv]
  | .whl e p => .tup [.str "while", e.pv, p.pv]
def Pr.dp : Pr → Nat
  | .skip => 1
  | .set _ e => e.dp + 1
  | .seq p q => max p.dp q.dp + 1
  | .ite e p q => max e.dp (max p.dp q.dp) + 1
  | .whl e p => max e.dp p.dp + 1
abbrev Env := Nm → Int
def mx (i j : Int) : Int := if j > i then j else i
theorem mx_le {i j k : Int} : mx i j ≤ k ↔ i ≤ k ∧ j ≤ k := by unfold mx; split <;> omega
theorem le_mx {i j k : Int} : k ≤ mx i j ↔ k ≤ i ∨ k ≤ j := by unfold mx; split <;> omega
theorem mx_l {i j : Int} : i ≤ mx i j := le_mx.mpr (.inl (Int.le_refl _))
theorem mx_r {i j : Int} : j ≤ mx i j := le_mx.mpr (.inr (Int.le_refl _))
def lev (f : Env) : Ex → Int
  | .int _ => 0
  | .var x => f x
  | .op _ l r => mx (lev f l) (lev f r)
def upd (f : Env) (x : Nm) (v : Int) : Env := fun y => if y = x then v else f y
/-- the path of the first leak -/
def chk : Pr → Env → Int → Option (List PV)
  | .skip, _, _ => none
  | .set x e, f, a => if mx a (lev f e) > f x then some [] else none
  | .seq p q, f, a => match chk p f a with
    | some r => some (.int 0 :: r)
    | none => (chk q f a).map (.int 1 :: ·)
  | .ite e p q, f, a => match chk p f (mx a (lev f e)) with
    | some r => some (.int 1 :: r)
    | none => (chk q f (mx a (lev f e))).map (.int 2 :: ·)
  | .whl e p, f, a => (chk p f (mx a (lev f e))).map (.int 1 :: ·)
def rai : Pr → Env → Int → Env
  | .skip, f, _ => f
  | .set x e, f, a => upd f x (mx (f x) (mx a (lev f e)))
  | .seq p q, f, a => rai q (rai p f a) a
  | .ite e p q, f, a => rai q (rai p f (mx a (lev f e))) (mx a (lev f e))
  | .whl e p, f, a => rai p f (mx a (lev f e))
def Le (f g : Env) : Prop := ∀ x, f x ≤ g x
theorem lev_mono {f g : Env} (h : Le f g) : ∀ e, lev f e ≤ lev g e
  | .int _ => Int.le_refl _
  | .var x => h x
  | .op _ l r => mx_le.mpr ⟨Int.le_trans (lev_mono h l) mx_l, Int.le_trans (lev_mono h r) mx_r⟩
theorem lev_nn {f : Env} (h : ∀ x, 0 ≤ f x) : ∀ e, 0 ≤ lev f e
  | .int _ => Int.le_refl _
  | .var x => h x
  | .op _ l r => Int.le_trans (lev_nn h l) mx_l
theorem lev_bd {f : Env} {B : Int} (h0 : 0 ≤ B) (h : ∀ x, f x ≤ B) : ∀ e, lev f e ≤ B
  | .int _ => h0
  | .var x => h x
  | .op _ l r => mx_le.mpr ⟨lev_bd h0 h l, lev_bd h0 h r⟩
/-- no leak, said with no path -/
def Ok : Pr → Env → Int → Prop
  | .skip, _, _ => True
  | .set x e, f, a => a ≤ f x ∧ lev f e ≤ f x
  | .seq p q, f, a => Ok p f a ∧ Ok q f a
  | .ite e p q, f, a => Ok p f (mx a (lev f e)) ∧ Ok q f (mx a (lev f e))
  | .whl e p, f, a => Ok p f (mx a (lev f e))
theorem chk_ok : ∀ {p : Pr} {f : Env} {a : Int}, chk p f a = none ↔ Ok p f a
  | .skip, f, a => by simp [chk, Ok]
  | .set x e, f, a => by
    unfold chk Ok
    rw [← mx_le]
    split
    · rename_i h; constructor
      · intro q; cases q
      · intro q; omega
    · rename_i h; constructor
      · intro _; omega
      · intro _; rfl
  | .seq p q, f, a => by
    unfold chk Ok
    rw [← chk_ok (p := p), ← chk_ok (p := q)]
    cases chk p f a <;> simp
  | .ite e p q, f, a => by
    unfold chk Ok
    rw [← chk_ok (p := p), ← chk_ok (p := q)]
    cases chk p f (mx a (lev f e)) <;> simp
  | .whl e p, f, a => by
    unfold chk Ok
    rw [← chk_ok (p := p)]
    simp
theorem Le.refl {f : Env} : Le f f := fun _ => Int.le_refl _
theorem Le.trans {f g h : Env} (h1 : Le f g) (h2 : Le g h) : Le f h := fun x => Int.le_trans (h1 x) (h2 x)
theorem upd_same {f : Env} {x : Nm} {v : Int} : upd f x v x = v := by simp [upd]
theorem upd_ne {f : Env} {x y : Nm} {v : Int} (h : y ≠ x) : upd f x v y = f y := by simp [upd, h]
theorem rai_le : ∀ (p : Pr) (f : Env) (a : Int), Le f (rai p f a)
  | .skip, f, a => .refl
  | .set x e, f, a => fun y => by
    unfold rai upd
    split
    · rename_i q; subst q; exact mx_l
    · exact Int.le_refl _
  | .seq p q, f, a => (rai_le p f a).trans (rai_le q _ a)
  | .ite e p q, f, a => (rai_le p f _).trans (rai_le q _ _)
  | .whl e p, f, a => rai_le p f _
/-- what leaks nothing stays -/
theorem rai_fix : ∀ {p : Pr} {f : Env} {a : Int}, Ok p f a → rai p f a = f
  | .skip, f, a, _ => rfl
  | .set x e, f, a, h => by
    funext y
    unfold rai upd
    split
    · rename_i q
      subst q
      have := mx_le.mpr ⟨Int.le_refl (f y), mx_le.mpr h⟩
      exact Int.le_antisymm this mx_l
    · rfl
  | .seq p q, f, a, h => by
    unfold rai
    rw [rai_fix h.1, rai_fix h.2]
  | .ite e p q, f, a, h => by
    unfold rai
    rw [rai_fix h.1, rai_fix h.2]
  | .whl e p, f, a, h => rai_fix (p := p) h
theorem fix_ok : ∀ {p : Pr} {f : Env} {a : Int}, rai p f a = f → Ok p f a
  | .skip, f, a, _ => trivial
  | .set x e, f, a, h => by
    have q := congrFun h x
    unfold rai at q
    rw [upd_same] at q
    have q2 : mx (f x) (mx a (lev f e)) ≤ f x := Int.le_of_eq q
    exact mx_le.mp (mx_le.mp q2).2
  | .seq p q, f, a, h => by
    have h1 : rai p f a = f := funext fun x => Int.le_antisymm (by have := rai_le q (rai p f a) a x; rw [show rai q (rai p f a) a = f from h] at this; exact this) (rai_le p f a x)
    refine ⟨fix_ok h1, fix_ok ?_⟩
    have h : rai q (rai p f a) a = f := h
    rwa [h1] at h
  | .ite e p q, f, a, h => by
    have h1 : rai p f (mx a (lev f e)) = f := funext fun x => Int.le_antisymm (by have := rai_le q (rai p f (mx a (lev f e))) (mx a (lev f e)) x; rw [show rai q (rai p f (mx a (lev f e))) (mx a (lev f e)) = f from h] at this; exact this) (rai_le p f _ x)
    refine ⟨fix_ok h1, fix_ok ?_⟩
    have h : rai q (rai p f (mx a (lev f e))) (mx a (lev f e)) = f := h
    rwa [h1] at h
  | .whl e p, f, a, h => fix_ok (p := p) h
theorem mx_mono {a a' b b' : Int} (h : a ≤ a') (h2 : b ≤ b') : mx a b ≤ mx a' b' := mx_le.mpr ⟨Int.le_trans h mx_l, Int.le_trans h2 mx_r⟩
/-- what is raised stays below what leaks nothing -/
theorem rai_below : ∀ {p : Pr} {f g : Env} {a a' : Int}, Le f g → a ≤ a' → Ok p g a' → Le (rai p f a) g
  | .skip, f, g, a, a', h, _, _ => h
  | .set x e, f, g, a, a', h, ha, ok => fun y => by
    unfold rai upd
    split
    · rename_i q
      subst q
      exact mx_le.mpr ⟨h y, mx_le.mpr ⟨Int.le_trans ha ok.1, Int.le_trans (lev_mono h e) ok.2⟩⟩
    · exact h y
  | .seq p q, f, g, a, a', h, ha, ok => rai_below (p := q) (rai_below (p := p) h ha ok.1) ha ok.2
  | .ite e p q, f, g, a, a', h, ha, ok => rai_below (p := q) (rai_below (p := p) h (mx_mono ha (lev_mono h e)) ok.1) (mx_mono ha (lev_mono h e)) ok.2
  | .whl e p, f, g, a, a', h, ha, ok => rai_below (p := p) h (mx_mono ha (lev_mono h e)) ok
theorem rai_bd : ∀ {p : Pr} {f : Env} {a B : Int}, 0 ≤ B → (∀ x, f x ≤ B) → a ≤ B → ∀ x, rai p f a x ≤ B
  | .skip, f, a, B, _, h, _ => h
  | .set y e, f, a, B, h0, h, ha => fun x => by
    unfold rai upd
    split
    · exact mx_le.mpr ⟨h _, mx_le.mpr ⟨ha, lev_bd h0 h e⟩⟩
    · exact h x
  | .seq p q, f, a, B, h0, h, ha => rai_bd (p := q) h0 (rai_bd (p := p) h0 h ha) ha
  | .ite e p q, f, a, B, h0, h, ha => rai_bd (p := q) h0 (rai_bd (p := p) h0 h (mx_le.mpr ⟨ha, lev_bd h0 h e⟩)) (mx_le.mpr ⟨ha, lev_bd h0 h e⟩)
  | .whl e p, f, a, B, h0, h, ha => rai_bd (p := p) h0 h (mx_le.mpr ⟨ha, lev_bd h0 h e⟩)
/-- the least levels -/
structure Lst (p : Pr) (f g : Env) : Prop where
  le : Le f g
  ok : Ok p g 0
  least : ∀ h, Le f h → Ok p h 0 → Le g h
theorem Lst.uniq {p : Pr} {f g g' : Env} (h : Lst p f g) (h' : Lst p f g') : g = g' :=
  funext fun x => Int.le_antisymm (h.least _ h'.le h'.ok x) (h'.least _ h.le h.ok x)
def sets : Pr → List Nm
  | .skip => []
  | .set x _ => [x]
  | .seq p q => sets p ++ sets q
  | .ite _ p q => sets p ++ sets q
  | .whl _ p => sets p
theorem mx_assoc {a b c : Int} : mx (mx a b) c = mx (mx a c) b := by
  unfold mx
  repeat' split
  all_goals omega
theorem Ok_up : ∀ {p : Pr} {f : Env} {a b : Int}, Ok p f (mx a b) ↔ Ok p f a ∧ ∀ x ∈ sets p, b ≤ f x
  | .skip, f, a, b => by simp [Ok, sets]
  | .set x e, f, a, b => by
    simp only [Ok, sets, List.mem_singleton, forall_eq, mx_le]
    constructor
    · rintro ⟨⟨h1, h2⟩, h3⟩; exact ⟨⟨h1, h3⟩, h2⟩
    · rintro ⟨⟨h1, h3⟩, h2⟩; exact ⟨⟨h1, h2⟩, h3⟩
  | .seq p q, f, a, b => by
    simp only [Ok, sets, List.mem_append, Ok_up (p := p), Ok_up (p := q)]
    constructor
    · rintro ⟨⟨h1, h2⟩, h3, h4⟩; exact ⟨⟨h1, h3⟩, fun x hx => hx.elim (h2 x) (h4 x)⟩
    · rintro ⟨⟨h1, h3⟩, h⟩; exact ⟨⟨h1, fun x hx => h x (.inl hx)⟩, h3, fun x hx => h x (.inr hx)⟩
  | .ite e p q, f, a, b => by
    simp only [Ok, sets, List.mem_append]
    rw [mx_assoc, Ok_up (p := p), Ok_up (p := q)]
    constructor
    · rintro ⟨⟨h1, h2⟩, h3, h4⟩; exact ⟨⟨h1, h3⟩, fun x hx => hx.elim (h2 x) (h4 x)⟩
    · rintro ⟨⟨h1, h3⟩, h⟩; exact ⟨⟨h1, fun x hx => h x (.inl hx)⟩, h3, fun x hx => h x (.inr hx)⟩
  | .whl e p, f, a, b => by
    simp only [Ok, sets]
    rw [mx_assoc, Ok_up (p := p)]
theorem Ok_const : ∀ {p : Pr} {f : Env} {a B : Int}, 0 ≤ B → (∀ x, f x = B) → a ≤ B → Ok p f a
  | .skip, _, _, _, _, _, _ => trivial
  | .set x e, f, a, B, h0, h, ha => ⟨by rw [h x]; exact ha, by rw [h x]; exact lev_bd h0 (fun y => Int.le_of_eq (h y)) e⟩
  | .seq p q, f, a, B, h0, h, ha => ⟨Ok_const h0 h ha, Ok_const h0 h ha⟩
  | .ite e p q, f, a, B, h0, h, ha => ⟨Ok_const h0 h (mx_le.mpr ⟨ha, lev_bd h0 (fun y => Int.le_of_eq (h y)) e⟩), Ok_const h0 h (mx_le.mpr ⟨ha, lev_bd h0 (fun y => Int.le_of_eq (h y)) e⟩)⟩
  | .whl e p, f, a, B, h0, h, ha => Ok_const (p := p) h0 h (mx_le.mpr ⟨ha, lev_bd h0 (fun y => Int.le_of_eq (h y)) e⟩)
def sw : Nm → Nm
  | .a => .c | .b => .a | .c => .d | .d => .b
theorem sw_inj {x y : Nm} (h : sw x = sw y) : x = y := by cases x <;> cases y <;> first | rfl | cases h
def Ex.ren : Ex → Ex
  | .int n => .int n
  | .var x => .var (sw x)
  | .op o l r => .op o l.ren r.ren
def Pr.ren : Pr → Pr
  | .skip => .skip
  | .set x e => .set (sw x) e.ren
  | .seq p q => .seq p.ren q.ren
  | .ite e p q => .ite e.ren p.ren q.ren
  | .whl e p => .whl e.ren p.ren
theorem lev_ren {f g : Env} (h : ∀ x, g (sw x) = f x) : ∀ e, lev g (Ex.ren e) = lev f e
  | .int _ => rfl
  | .var x => h x
  | .op _ l r => by unfold Ex.ren lev; rw [lev_ren h l, lev_ren h r]
theorem chk_ren {f g : Env} (h : ∀ x, g (sw x) = f x) : ∀ p a, chk (Pr.ren p) g a = chk p f a
  | .skip, a => rfl
  | .set x e, a => by unfold Pr.ren chk; rw [lev_ren h, h]
  | .seq p q, a => by unfold Pr.ren chk; rw [chk_ren h p, chk_ren h q]
  | .ite e p q, a => by unfold Pr.ren chk; rw [lev_ren h, chk_ren h p, chk_ren h q]
  | .whl e p, a => by unfold Pr.ren chk; rw [lev_ren h, chk_ren h p]
def rek : Sg → Int → Int → Int
  | .add, l, r => (l + r) % 4294967296
  | .sub, l, r => (l - r) % 4294967296
  | .eq, l, r => if l = r then 1 else 0
  | .lt, l, r => if l < r then 1 else 0
def rk (v : Env) : Ex → Int
  | .int n => n
  | .var x => v x
  | .op o l r => rek o (rk v l) (rk v r)
/-- a run with so much fuel, so deep: what is left of the fuel, and the values -/
def runD : Nat → Nat → Pr → Env → Option (Nat × Env)
  | 0, _, _, _ => none
  | _ + 1, 0, _, _ => none
  | D + 1, n + 1, p, v => match p with
    | .skip => some (n, v)
    | .set x e => some (n, upd v x (rk v e))
    | .seq p q => match runD D n p v with
      | some (m, w) => runD D m q w
      | none => none
    | .ite e p q => if rk v e ≠ 0 then runD D n p v else runD D n q v
    | .whl e p => if rk v e ≠ 0 then match runD D n p v with
        | some (m, w) => runD D m (.whl e p) w
        | none => none
      else some (n, v)
theorem runD_le : ∀ {D n m : Nat} {p : Pr} {v w : Env}, runD D n p v = some (m, w) → m < n
  | 0, n, m, p, v, w, h => by cases h
  | D + 1, 0, m, p, v, w, h => by cases h
  | D + 1, n + 1, m, p, v, w, h => by
    cases p with
    | skip => cases h; omega
    | set x e => cases h; omega
    | seq p q =>
      simp only [runD] at h
      cases h1 : runD D n p v with
      | none => rw [h1] at h; cases h
      | some r =>
        rw [h1] at h
        have := runD_le h1
        have := runD_le h
        omega
    | ite e p q =>
      simp only [runD] at h
      split at h
      · have := runD_le h; omega
      · have := runD_le h; omega
    | whl e p =>
      simp only [runD] at h
      split at h
      · cases h1 : runD D n p v with
        | none => rw [h1] at h; cases h
        | some r =>
          rw [h1] at h
          have := runD_le h1
          have := runD_le h
          omega
      · cases h; omega
theorem runD_more : ∀ {D n m : Nat} {p : Pr} {v w : Env}, runD D n p v = some (m, w) → ∀ D' k, D ≤ D' → runD D' (n + k) p v = some (m + k, w)
  | 0, n, m, p, v, w, h, _, _, _ => by cases h
  | D + 1, 0, m, p, v, w, h, _, _, _ => by cases h
  | D + 1, n + 1, m, p, v, w, h, 0, k, hD => absurd hD (by omega)
  | D + 1, n + 1, m, p, v, w, h, D' + 1, k, hD => by
    rw [show n + 1 + k = (n + k) + 1 by omega]
    have hD' : D ≤ D' := by omega
    cases p with
    | skip => cases h; rfl
    | set x e => cases h; rfl
    | seq p q =>
      simp only [runD] at h ⊢
      cases h1 : runD D n p v with
      | none => rw [h1] at h; cases h
      | some r =>
        rw [h1] at h
        rw [runD_more h1 D' k hD']
        exact runD_more h D' k hD'
    | ite e p q =>
      simp only [runD] at h ⊢
      split at h
      · rename_i hc; rw [if_pos hc]; exact runD_more h D' k hD'
      · rename_i hc; rw [if_neg hc]; exact runD_more h D' k hD'
    | whl e p =>
      simp only [runD] at h ⊢
      split at h
      · rename_i hc
        rw [if_pos hc]
        cases h1 : runD D n p v with
        | none => rw [h1] at h; cases h
        | some r =>
          rw [h1] at h
          rw [runD_more h1 D' k hD']
          exact runD_more h D' k hD'
      · rename_i hc; rw [if_neg hc]; cases h; rfl
theorem rk_ren {v w : Env} (h : ∀ x, w (sw x) = v x) : ∀ e, rk w (Ex.ren e) = rk v e
  | .int _ => rfl
  | .var x => h x
  | .op _ l r => by unfold Ex.ren rk; rw [rk_ren h l, rk_ren h r]
/-- the same, or nothing, of runs of renamed ones -/
def RSame : Option (Nat × Env) → Option (Nat × Env) → Prop
  | none, none => True
  | some (m, v), some (m', w) => m = m' ∧ ∀ x, w (sw x) = v x
  | _, _ => False
theorem run_ren : ∀ (D n : Nat) (p : Pr) (v w : Env), (∀ x, w (sw x) = v x) → RSame (runD D n p v) (runD D n p.ren w)
  | 0, n, p, v, w, h => trivial
  | D + 1, 0, p, v, w, h => trivial
  | D + 1, n + 1, p, v, w, h => by
    cases p with
    | skip => exact ⟨rfl, h⟩
    | set x e =>
      refine ⟨rfl, fun y => ?_⟩
      unfold upd
      rw [rk_ren h]
      by_cases q : y = x
      · subst q; simp
      · rw [if_neg q, if_neg fun z => q (sw_inj z)]; exact h y
    | seq p q =>
      simp only [runD, Pr.ren]
      have h1 := run_ren D n p v w h
      cases e1 : runD D n p v with
      | none => cases e2 : runD D n p.ren w with
        | none => trivial
        | some r => rw [e1, e2] at h1; exact h1.elim
      | some r => cases e2 : runD D n p.ren w with
        | none => rw [e1, e2] at h1; exact h1.elim
        | some r' =>
          rw [e1, e2] at h1
          obtain ⟨m, v1⟩ := r
          obtain ⟨m', w1⟩ := r'
          obtain ⟨q1, q2⟩ := h1
          subst q1
          exact run_ren D m q v1 w1 q2
    | ite e p q =>
      simp only [runD, Pr.ren, rk_ren h]
      split
      · exact run_ren D n p v w h
      · exact run_ren D n q v w h
    | whl e p =>
      simp only [runD, Pr.ren, rk_ren h]
      split
      · have h1 := run_ren D n p v w h
        cases e1 : runD D n p v with
        | none => cases e2 : runD D n p.ren w with
          | none => trivial
          | some r => rw [e1, e2] at h1; exact h1.elim
        | some r => cases e2 : runD D n p.ren w with
          | none => rw [e1, e2] at h1; exact h1.elim
          | some r' =>
            rw [e1, e2] at h1
            obtain ⟨m, v1⟩ := r
            obtain ⟨m', w1⟩ := r'
            obtain ⟨q1, q2⟩ := h1
            subst q1
            exact run_ren D m (.whl e p) v1 w1 q2
      · exact ⟨rfl, h⟩
end Zk

section
set_option maxHeartbeats 4000000
namespace Zk
open PySem L2 Z
local macro_rules | `(tactic| infer_instance) => `(tactic| first
  | with_reducible first
    | refine k_asg ?_ | refine k_exp ?_ | refine k_ret ?_ | refine k_pop ?_ | refine k_retN ?_ | refine k_ixSet ?_ | refine k_fldSet ?_ | refine k_aug ?_ | refine k_par ?_ | refine k_unp ?_ | refine k_pass ?_ | refine k_cont ?_ | refine k_break ?_ | refine k_rai0 ?_ | refine k_whl ?_ | refine k_in ?_ | refine k_end ?_
    | refine w_call ?_ | refine w_cons ?_ | refine w_nil ?_ | refine w_e2 ?_ | refine w_e1 ?_ | refine w_cmp ?_ | refine w_tcmp ?_ | refine w_ttru ?_ | refine w_sl ?_ | refine w_meth ?_ | refine w_dct ?_ | refine w_lc ?_ | refine w_part ?_ | refine w_walk ?_ | refine w_of ?_
    | refine lp_n ?_ | refine lp_c ?_ | refine lp_b ?_ | refine lp_r ?_ | refine sq_n ?_ | refine sq_r ?_ | refine fnR_n ?_ | refine fnR_r ?_ | refine if_ff ?_ | refine if_tt ?_
  | ((with_reducible apply k_if0); (case e => exact rfl))
  | ((with_reducible apply k_if1); (case e => exact rfl))
  | with_reducible refine k_if ?_
  | ((with_reducible apply w_if0); (case e => exact rfl))
  | ((with_reducible apply w_if1); (case e => exact rfl))
  | with_reducible first | refine w_if ?_ | refine w_tand ?_ | refine w_tor ?_ | refine w_tnot ?_ | refine k_for ?_
  | ((with_reducible apply w_tup); (case hl => exact Nat.le_of_ble_eq_true rfl))
  | ((with_reducible apply w_lst); (case hl => exact Nat.le_of_ble_eq_true rfl))
  | ((with_reducible apply k_rai); (case h1 => exact rfl); (case h2 => exact Nat.le_of_ble_eq_true rfl))
  | ((with_reducible apply if_r0); (case h => exact rfl))
  | ((with_reducible apply if_r1); (case h => exact rfl))
  | ((with_reducible apply W_ok); (case h => exact rfl)))
section
variable {s : Store} {E : XP} {Q : PV → Store → Prop}
/-- a dict over the four names, in some order -/
def mkD (ord : List Nm) (f : Env) : List (Key × PV) := ord.map fun x => (.inr x.s, .int (f x))
structure Full (ord : List Nm) : Prop where
  all : ∀ x, x ∈ ord
  nd : ord.Nodup
  len : ord.length = 4
theorem key_ne {x y : Nm} (e : ¬x = y) : ¬((Sum.inr x.s : Key) = .inr y.s) := fun q => e (Nm.inj (Sum.inr.inj q))
theorem dget_mk {ord : List Nm} {f : Env} {x : Nm} (h : x ∈ ord) : dget (mkD ord f) (.inr x.s) = some (.int (f x)) := by
  unfold dget mkD
  induction ord with
  | nil => cases h
  | cons y r ih =>
    rw [List.map_cons, List.find?_cons]
    by_cases e : y = x
    · subst e
      simp
    · have ne : (decide ((Sum.inr y.s : Key) = .inr x.s)) = false := decide_eq_false (key_ne e)
      simp only [ne]
      rcases List.mem_cons.mp h with q | q
      · exact absurd q.symm e
      · exact ih q
theorem dput_mk {ord : List Nm} {f : Env} {x : Nm} {v : Int} (h : x ∈ ord) : dput (mkD ord f) (.inr x.s) (.int v) = mkD ord (upd f x v) := by
  have h1 : ((mkD ord f).any fun p => decide (p.1 = (.inr x.s : Key))) = true := by
    rw [List.any_eq_true]
    exact ⟨_, List.mem_map.mpr ⟨x, h, rfl⟩, by simp⟩
  unfold dput
  rw [if_pos h1]
  unfold mkD
  rw [List.map_map]
  refine List.map_congr_left fun y _ => ?_
  show (if (Sum.inr y.s : Key) = .inr x.s then ((Sum.inr y.s : Key), PV.int v) else (.inr y.s, .int (f y))) = (.inr y.s, .int (upd f x v y))
  by_cases e : y = x
  · subst e
    rw [if_pos rfl, upd_same]
  · rw [if_neg (key_ne e), upd_ne e]
theorem level_ok {ord : List Nm} {f : Env} {n : Nat} (hF : Full ord) (hs : s[n]? = some (.dct (mkD ord f))) : ∀ (e : Ex) (d : Nat) (p : List PV) (Q : PV → Store → Prop), e.dp ≤ d → p.length + e.dp ≤ 1000 → Q (.int (lev f e)) s → W (callN tab d 1 [e.pv, .ref n, .tup p]) s Q E
  | .int k, 0, p, Q, h, _, q => by cases h
  | .var x, 0, p, Q, h, _, q => by cases h
  | .op o l r, 0, p, Q, h, _, q => by cases h
  | .int k, d + 1, p, Q, h, hp, q => by
    rw [w_expression_level d rfl]
    refine W_cFn ?_
    unfold b_expression_level Ex.pv
    repeat infer_instance
    exact q
  | .var x, d + 1, p, Q, h, hp, q => by
    rw [w_expression_level d rfl]
    refine W_cFn ?_
    unfold b_expression_level Ex.pv
    repeat infer_instance
    refine w_nin hs ?_
    rw [dget_mk (hF.all x)]
    refine iff_ (by simp) ?_
    repeat infer_instance
    refine w_get hs (dget_mk (hF.all x)) ?_
    exact q
  | .op o l r, d + 1, p, Q, h, hp, q => by
    simp only [Ex.dp] at h hp
    rw [w_expression_level d rfl]
    refine W_cFn ?_
    unfold b_expression_level Ex.pv
    repeat infer_instance
    refine w_addT (by simp only [List.length_cons, List.length_nil]; omega) ?_
    repeat infer_instance
    refine level_ok hF hs l d (p ++ [.int 0]) _ (by omega) (by rw [List.length_append, List.length_cons, List.length_nil]; omega) ?_
    repeat infer_instance
    refine w_addT (by simp only [List.length_cons, List.length_nil]; omega) ?_
    repeat infer_instance
    refine level_ok hF hs r d (p ++ [.int 1]) _ (by omega) (by rw [List.length_append, List.length_cons, List.length_nil]; omega) ?_
    repeat infer_instance
    exact q
theorem Ex_dp : ∀ e : Ex, 0 < e.dp
  | .int _ => by simp [Ex.dp]
  | .var _ => by simp [Ex.dp]
  | .op _ _ _ => by simp [Ex.dp]
theorem Ok_dp : ∀ p : Pr, 0 < p.dp
  | .skip => by simp [Pr.dp]
  | .set _ _ => by simp [Pr.dp]
  | .seq _ _ => by simp [Pr.dp]
  | .ite _ _ _ => by simp [Pr.dp]
  | .whl _ _ => by simp [Pr.dp]
abbrev leakE (p : List PV) : List (Str × PV) := [("code", .str "leak"), ("path", .tup p)]
theorem if_gt {i j : Int} {a b : Prop} (h : j < i → a) (h2 : ¬j < i → b) : if decide (j < i) = true then a else b := ifd h h2
theorem check_ok {ord : List Nm} {f : Env} {n : Nat} (hF : Full ord) (hs : s[n]? = some (.dct (mkD ord f))) : ∀ (p : Pr) (d : Nat) (a : Int) (t : List PV) (Q : PV → Store → Prop) (E : XP), p.dp ≤ d → t.length + p.dp ≤ 900 → (chk p f a = none → Q .non s) → (∀ r, chk p f a = some r → E 1 (leakE (t ++ r)) s) → W (callN tab d 2 [p.pv, .ref n, .int a, .tup t]) s Q E
  | p, 0, a, t, Q, E, h, _, _, _ => absurd h (by have := Ok_dp p; omega)
  | .skip, d + 1, a, t, Q, E, h, hp, q, qe => by
    rw [w_check d rfl]
    refine W_cFn ?_
    unfold b_check b_check_1 Pr.pv
    repeat infer_instance
    exact q rfl
  | .set x e, d + 1, a, t, Q, E, h, hp, q, qe => by
    simp only [Pr.dp] at h hp
    have := Ex_dp e
    rw [w_check d rfl]
    refine W_cFn ?_
    unfold b_check b_check_1 Pr.pv
    repeat infer_instance
    refine level_ok hF hs (.var x) d t _ (by simp only [Ex.dp]; omega) (by simp only [Ex.dp]; omega) ?_
    repeat infer_instance
    refine w_addT (by simp only [List.length_cons, List.length_nil]; omega) ?_
    repeat infer_instance
    refine level_ok hF hs e d (t ++ [.int 0]) _ (by omega) (by rw [List.length_append, List.length_cons, List.length_nil]; omega) ?_
    repeat infer_instance
    have e1 : chk (.set x e) f a = if mx a (lev f e) > f x then some [] else none := rfl
    refine if_gt (fun hc => ?_) fun hc => ?_
    · repeat infer_instance
      have hc : mx a (lev f e) > f x := hc
      rw [if_pos hc] at e1
      have := qe [] e1
      rw [List.append_nil] at this
      exact this
    · repeat infer_instance
      have hc : ¬mx a (lev f e) > f x := hc
      rw [if_neg hc] at e1
      exact q e1
  | .seq p1 p2, d + 1, a, t, Q, E, h, hp, q, qe => by
    simp only [Pr.dp] at h hp
    have e1 : chk (.seq p1 p2) f a = match chk p1 f a with
      | some r => some (.int 0 :: r)
      | none => (chk p2 f a).map (.int 1 :: ·) := rfl
    rw [w_check d rfl]
    refine W_cFn ?_
    unfold b_check b_check_1 Pr.pv
    repeat infer_instance
    refine w_addT (by simp only [List.length_cons, List.length_nil]; omega) ?_
    repeat infer_instance
    refine check_ok hF hs p1 d a (t ++ [.int 0]) _ _ (by omega) (by rw [List.length_append, List.length_cons, List.length_nil]; omega) (fun c1 => ?_) fun r c1 => ?_
    · repeat infer_instance
      refine w_addT (by simp only [List.length_cons, List.length_nil]; omega) ?_
      repeat infer_instance
      refine check_ok hF hs p2 d a (t ++ [.int 1]) _ _ (by omega) (by rw [List.length_append, List.length_cons, List.length_nil]; omega) (fun c2 => ?_) fun r c2 => ?_
      · repeat infer_instance
        exact q (by rw [e1, c1, c2]; rfl)
      · have := qe (.int 1 :: r) (by rw [e1, c1, c2]; rfl)
        rwa [List.append_assoc]
    · have := qe (.int 0 :: r) (by rw [e1, c1])
      rwa [List.append_assoc]
  | .ite e p1 p2, d + 1, a, t, Q, E, h, hp, q, qe => by
    simp only [Pr.dp] at h hp
    have e1 : chk (.ite e p1 p2) f a = match chk p1 f (mx a (lev f e)) with
      | some r => some (.int 1 :: r)
      | none => (chk p2 f (mx a (lev f e))).map (.int 2 :: ·) := rfl
    rw [w_check d rfl]
    refine W_cFn ?_
    unfold b_check b_check_1 Pr.pv
    repeat infer_instance
    refine w_addT (by simp only [List.length_cons, List.length_nil]; omega) ?_
    repeat infer_instance
    refine level_ok hF hs e d (t ++ [.int 0]) _ (by omega) (by rw [List.length_append, List.length_cons, List.length_nil]; omega) ?_
    repeat infer_instance
    refine k_for1 rfl rfl ?_
    repeat infer_instance
    refine w_addT (by simp only [List.length_cons, List.length_nil]; omega) ?_
    repeat infer_instance
    refine check_ok hF hs p1 d (mx a (lev f e)) (t ++ [.int 1]) _ _ (by omega) (by rw [List.length_append, List.length_cons, List.length_nil]; omega) (fun c1 => ?_) fun r c1 => ?_
    · repeat infer_instance
      refine k_for1 rfl rfl ?_
      repeat infer_instance
      refine w_addT (by simp only [List.length_cons, List.length_nil]; omega) ?_
      repeat infer_instance
      refine check_ok hF hs p2 d (mx a (lev f e)) (t ++ [.int 2]) _ _ (by omega) (by rw [List.length_append, List.length_cons, List.length_nil]; omega) (fun c2 => ?_) fun r c2 => ?_
      · repeat infer_instance
        refine k_for0 rfl ?_
        repeat infer_instance
        exact q (by rw [e1, c1, c2]; rfl)
      · have := qe (.int 2 :: r) (by rw [e1, c1, c2]; rfl)
        rwa [List.append_assoc]
    · have := qe (.int 1 :: r) (by rw [e1, c1])
      rwa [List.append_assoc]
  | .whl e p1, d + 1, a, t, Q, E, h, hp, q, qe => by
    simp only [Pr.dp] at h hp
    have e1 : chk (.whl e p1) f a = (chk p1 f (mx a (lev f e))).map (.int 1 :: ·) := rfl
    rw [w_check d rfl]
    refine W_cFn ?_
    unfold b_check b_check_1 Pr.pv
    repeat infer_instance
    refine w_addT (by simp only [List.length_cons, List.length_nil]; omega) ?_
    repeat infer_instance
    refine level_ok hF hs e d (t ++ [.int 0]) _ (by omega) (by rw [List.length_append, List.length_cons, List.length_nil]; omega) ?_
    repeat infer_instance
    refine k_for1 rfl rfl ?_
    repeat infer_instance
    refine w_addT (by simp only [List.length_cons, List.length_nil]; omega) ?_
    repeat infer_instance
    refine check_ok hF hs p1 d (mx a (lev f e)) (t ++ [.int 1]) _ _ (by omega) (by rw [List.length_append, List.length_cons, List.length_nil]; omega) (fun c1 => ?_) fun r c1 => ?_
    · repeat infer_instance
      refine k_for0 rfl ?_
      repeat infer_instance
      exact q (by rw [e1, c1]; rfl)
    · have := qe (.int 1 :: r) (by rw [e1, c1]; rfl)
      rwa [List.append_assoc]
/-- what keeps_secrets gives -/
def kpV (p : Pr) (f : Env) : PV := match chk p f 0 with
  | none => .non
  | some r => .tup r
theorem keeps_ok {ord : List Nm} {f : Env} {n d : Nat} {p : Pr} (hF : Full ord) (hs : s[n]? = some (.dct (mkD ord f))) (hd : p.dp ≤ d) (hd2 : p.dp ≤ 900) (q : Q (kpV p f) s) : W (callN tab (d + 1) 3 [p.pv, .ref n]) s Q E := by
  rw [w_keeps_secrets d rfl]
  refine W_cFn ?_
  unfold b_keeps_secrets
  refine k_in ?_
  refine k_try (fl0 := ["code", "path"]) (by rfl) ?_ fun c fs ρ' s' h => by rw [exc_exp h]
  unfold kpV at q
  repeat infer_instance
  refine check_ok hF hs p d 0 [] _ _ hd (by simpa using hd2) (fun c1 => ?_) fun r c1 => ?_
  · repeat infer_instance
    rw [c1] at q
    exact q
  · refine ⟨["code", "path"], rfl, ift (by decide) fun ρ' hρ => ⟨.ret (.tup r), rfl, ?_⟩⟩
    rw [c1] at q
    exact SW_goneI (by rw [hρ]; exact (by decide : 2 < 3)) q
theorem raise_ok {ord : List Nm} {n : Nat} (hF : Full ord) : ∀ (p : Pr) (d : Nat) (f : Env) (a : Int) (s : Store) (Q : PV → Store → Prop) (E : XP), s[n]? = some (.dct (mkD ord f)) → p.dp ≤ d → p.dp ≤ 900 → (∀ s', s'[n]? = some (.dct (mkD ord (rai p f a))) → Kp n s s' → s'.length = s.length → Q .non s') → W (callN tab d 5 [p.pv, .ref n, .int a]) s Q E
  | p, 0, f, a, s, Q, E, hs, h, _, _ => absurd h (by have := Ok_dp p; omega)
  | .skip, d + 1, f, a, s, Q, E, hs, h, hp, q => by
    rw [w_raise_levels d rfl]
    refine W_cFn ?_
    unfold b_raise_levels b_raise_levels_1 Pr.pv
    repeat infer_instance
    exact q s hs .refl rfl
  | .set x e, d + 1, f, a, s, Q, E, hs, h, hp, q => by
    simp only [Pr.dp] at h hp
    rw [w_raise_levels d rfl]
    refine W_cFn ?_
    unfold b_raise_levels b_raise_levels_1 Pr.pv
    repeat infer_instance
    refine level_ok hF hs e d [] _ (by omega) (by simp only [List.length_nil]; omega) ?_
    repeat infer_instance
    refine w_get hs (dget_mk (hF.all x)) ?_
    repeat infer_instance
    refine w_putA hs (by unfold mkD; rw [List.length_map, hF.len]; decide) (dput_mk (hF.all x)) fun s1 g1 k1 l1 => ?_
    repeat infer_instance
    exact q s1 g1 k1 l1
  | .seq p1 p2, d + 1, f, a, s, Q, E, hs, h, hp, q => by
    simp only [Pr.dp] at h hp
    rw [w_raise_levels d rfl]
    refine W_cFn ?_
    unfold b_raise_levels b_raise_levels_1 Pr.pv
    repeat infer_instance
    refine raise_ok hF p1 d f a _ _ _ hs (by omega) (by omega) fun s1 g1 k1 l1 => ?_
    repeat infer_instance
    refine raise_ok hF p2 d _ a _ _ _ g1 (by omega) (by omega) fun s2 g2 k2 l2 => ?_
    repeat infer_instance
    exact q s2 g2 (k1.trans k2) (by omega)
  | .ite e p1 p2, d + 1, f, a, s, Q, E, hs, h, hp, q => by
    simp only [Pr.dp] at h hp
    rw [w_raise_levels d rfl]
    refine W_cFn ?_
    unfold b_raise_levels b_raise_levels_1 Pr.pv
    repeat infer_instance
    refine level_ok hF hs e d [] _ (by omega) (by simp only [List.length_nil]; omega) ?_
    repeat infer_instance
    refine k_for1 rfl rfl ?_
    repeat infer_instance
    refine raise_ok hF p1 d f (mx a (lev f e)) _ _ _ hs (by omega) (by omega) fun s1 g1 k1 l1 => ?_
    repeat infer_instance
    refine k_for1 rfl rfl ?_
    repeat infer_instance
    refine raise_ok hF p2 d _ (mx a (lev f e)) _ _ _ g1 (by omega) (by omega) fun s2 g2 k2 l2 => ?_
    repeat infer_instance
    refine k_for0 rfl ?_
    repeat infer_instance
    exact q s2 g2 (k1.trans k2) (by omega)
  | .whl e p1, d + 1, f, a, s, Q, E, hs, h, hp, q => by
    simp only [Pr.dp] at h hp
    rw [w_raise_levels d rfl]
    refine W_cFn ?_
    unfold b_raise_levels b_raise_levels_1 Pr.pv
    repeat infer_instance
    refine level_ok hF hs e d [] _ (by omega) (by simp only [List.length_nil]; omega) ?_
    repeat infer_instance
    refine k_for1 rfl rfl ?_
    repeat infer_instance
    refine raise_ok hF p1 d f (mx a (lev f e)) _ _ _ hs (by omega) (by omega) fun s1 g1 k1 l1 => ?_
    repeat infer_instance
    refine k_for0 rfl ?_
    repeat infer_instance
    exact q s1 g1 k1 l1
def eqE (f g : Env) : Bool := decide (f .a = g .a) && (decide (f .b = g .b) && (decide (f .c = g .c) && decide (f .d = g .d)))
theorem eqE_iff {f g : Env} : eqE f g = true ↔ f = g := by
  unfold eqE
  simp only [Bool.and_eq_true, decide_eq_true_eq]
  constructor
  · rintro ⟨h1, h2, h3, h4⟩
    funext x
    cases x <;> assumption
  · rintro rfl
    exact ⟨rfl, rfl, rfl, rfl⟩
theorem dictEq_mk {o o' : List Nm} {f g : Env} (h : Full o) (h' : Full o') : dictEq (mkD o f) (mkD o' g) = some (eqE f g) := by
  have fl : ∀ (o : List Nm) (f : Env), ((mkD o f).all fun p => flatP p.2) = true := fun o f => by
    unfold mkD
    rw [List.all_map, List.all_eq_true]
    intro x _
    rfl
  unfold dictEq
  rw [fl, fl]
  simp only [Bool.and_self, if_true, Option.some.injEq]
  have hl : ((mkD o f).length == (mkD o' g).length) = true := by
    unfold mkD
    rw [List.length_map, List.length_map, h.len, h'.len]
    rfl
  rw [hl, Bool.true_and, Bool.eq_iff_iff, eqE_iff, List.all_eq_true]
  constructor
  · intro q
    funext x
    have := q (.inr x.s, .int (f x)) (List.mem_map.mpr ⟨x, h.all x, rfl⟩)
    rw [dget_mk (h'.all x)] at this
    simpa [Z.pv, eqV] using this
  · rintro rfl p hp
    obtain ⟨x, _, rfl⟩ := List.mem_map.mp hp
    rw [dget_mk (h'.all x)]
    simp [Z.pv, eqV]
theorem w_neD {o o' : List Nm} {f g : Env} {m n : Nat} {P : Bool → Store → Prop} (h : Full o) (h' : Full o') (h1 : s[m]? = some (.dct (mkD o f))) (h2 : s[n]? = some (.dct (mkD o' g))) (q : P (!eqE f g) s) : W (cmpP .NotEq (.ref m) (.ref n)) s P E := by
  show W (bnd (eqP (.ref m) (.ref n)) fun b => ret (!b)) s P E
  rw [W_bnd]
  refine W_ok (a := eqE f g) (s' := s) ?_ (by rw [W_ret]; exact q)
  show (match s[m]?, s[n]? with
    | some (.dct l), some (.dct r) => match dictEq l r with
      | some b => RE.ok b s
      | none => .bad
    | _, _ => _) = _
  rw [h1, h2]
  dsimp only
  rw [dictEq_mk h h']
def mea (g : Env) : Nat := (3 - g .a).toNat + (3 - g .b).toNat + (3 - g .c).toNat + (3 - g .d).toNat
theorem mea_lt {g h : Env} (hl : Le g h) (hne : h ≠ g) (hb : ∀ x, h x ≤ 3) : mea h < mea g := by
  have la := hl .a
  have lb := hl .b
  have lc := hl .c
  have ld := hl .d
  have ba := hb .a
  have bb := hb .b
  have bc := hb .c
  have bd := hb .d
  unfold mea
  by_cases q : h .a = g .a ∧ h .b = g .b ∧ h .c = g .c ∧ h .d = g .d
  · obtain ⟨q1, q2, q3, q4⟩ := q
    exact absurd (funext fun x => by cases x <;> assumption) hne
  · omega
theorem least_ok {ord : List Nm} {f : Env} {n d : Nat} {p : Pr} (hF : Full ord) (hs : s[n]? = some (.dct (mkD ord f))) (hd : p.dp ≤ d) (hd2 : p.dp ≤ 900) (h0 : ∀ x, 0 ≤ f x) (h3 : ∀ x, f x ≤ 3)
    (q : ∀ (D : Nat) (g : Env) (s' : Store), Lst p f g → (∀ x, 0 ≤ g x) → (∀ x, g x ≤ 3) → s'[D]? = some (.dct (mkD ord g)) → Gr s s' → s.length ≤ D → s.length ≤ s'.length → Q (.ref D) s') : W (callN tab (d + 1) 4 [p.pv, .ref n]) s Q E := by
  rw [w_least_levels d rfl]
  refine W_cFn ?_
  unfold b_least_levels b_least_levels_1
  refine k_in ?_
  refine k_asg ?_
  refine w_call ?_
  refine w_cons ?_
  refine W_ok rfl ?_
  refine w_nil ?_
  refine w_dictD hs ?_
  repeat infer_instance
  refine SW_while (fun m ρ s' => ∃ (g : Env) (ch : Bool) (c4 : Option PV), ρ = [some p.pv, some (.ref n), some (.ref s.length), some (.bl ch), c4] ∧ s'[s.length]? = some (.dct (mkD ord g)) ∧ Gr s s' ∧ Le f g ∧ (∀ x, g x ≤ 3) ∧ (∀ h, Le f h → Ok p h 0 → Le g h) ∧ (ch = false → rai p g 0 = g) ∧ m = 2 * mea g + (if ch = true then 1 else 0)) ?_ _ (2 * mea f + 1) _ _ ⟨f, true, none, rfl, by simp, Gr.push, .refl, h3, fun h q _ => q, (fun h => by cases h), rfl⟩ ?_
  · rintro m ρ s' ⟨g, ch, c4, rfl, e1, e2, e3, e4, e5, e6, e7⟩
    repeat infer_instance
    cases ch with
    | false =>
      refine if_ff ?_
      repeat infer_instance
      have ok := fix_ok (e6 rfl)
      have hlt : s.length < s'.length := (List.getElem?_eq_some_iff.mp e1).1
      exact q _ g s' ⟨e3, ok, e5⟩ (fun x => Int.le_trans (h0 x) (e3 x)) e4 e1 e2 (Nat.le_refl _) (by omega)
    | true =>
      refine if_tt ?_
      refine k_in ?_
      refine k_asg ?_
      refine w_call ?_
      refine w_cons ?_
      refine W_ok rfl ?_
      refine w_nil ?_
      refine w_dictD e1 ?_
      have hlt : s.length < s'.length := (List.getElem?_eq_some_iff.mp e1).1
      repeat infer_instance
      refine raise_ok hF p d g 0 _ _ _ (Gr.push _ _ e1) hd hd2 fun s2 g2 k2 l2 => ?_
      repeat infer_instance
      refine w_neD hF hF g2 (k2.get (o := .dct (mkD ord g)) (by simp) (by omega)) ?_
      repeat infer_instance
      refine ⟨_, ?_, rai p g 0, !eqE (rai p g 0) g, some (.ref s'.length), rfl, g2, ?_, e3.trans (rai_le p g 0), rai_bd (by decide) e4 (by decide), fun h hl ok => rai_below (e5 h hl ok) (Int.le_refl _) ok, ?_, rfl⟩
      · rw [e7]
        by_cases hc : rai p g 0 = g
        · rw [eqE_iff.mpr hc, hc]; simp
        · have hf : eqE (rai p g 0) g = false := by
            cases hh : eqE (rai p g 0) g with
            | false => rfl
            | true => exact absurd (eqE_iff.mp hh) hc
          have := mea_lt (rai_le p g 0) hc (rai_bd (by decide) e4 (by decide))
          rw [hf]
          simp
          omega
      · exact (e2.trans Gr.push).kp k2 (Nat.le_refl _)
      · intro hc
        have : eqE (rai p g 0) g = true := by simpa using hc
        have := eqE_iff.mp this
        rw [this, this]
  · have : mea f ≤ 12 := by
      have a1 := h0 .a
      have a2 := h0 .b
      have a3 := h0 .c
      have a4 := h0 .d
      unfold mea
      omega
    omega
end
end Zk

end
section
set_option maxHeartbeats 4000000
namespace Zk
open PySem L2 Z
local macro_rules | `(tactic| infer_instance) => `(tactic| first
  | with_reducible first
    | refine k_asg ?_ | refine k_exp ?_ | refine k_ret ?_ | refine k_pop ?_ | refine k_retN ?_ | refine k_ixSet ?_ | refine k_fldSet ?_ | refine k_aug ?_ | refine k_par ?_ | refine k_unp ?_ | refine k_pass ?_ | refine k_cont ?_ | refine k_break ?_ | refine k_rai0 ?_ | refine k_whl ?_ | refine k_in ?_ | refine k_end ?_
    | refine w_call ?_ | refine w_cons ?_ | refine w_nil ?_ | refine w_e2 ?_ | refine w_e1 ?_ | refine w_cmp ?_ | refine w_tcmp ?_ | refine w_ttru ?_ | refine w_sl ?_ | refine w_meth ?_ | refine w_dct ?_ | refine w_lc ?_ | refine w_part ?_ | refine w_walk ?_ | refine w_of ?_
    | refine lp_n ?_ | refine lp_c ?_ | refine lp_b ?_ | refine lp_r ?_ | refine sq_n ?_ | refine sq_r ?_ | refine fnR_n ?_ | refine fnR_r ?_ | refine if_ff ?_ | refine if_tt ?_
  | ((with_reducible apply k_if0); (case e => exact rfl))
  | ((with_reducible apply k_if1); (case e => exact rfl))
  | with_reducible refine k_if ?_
  | ((with_reducible apply w_if0); (case e => exact rfl))
  | ((with_reducible apply w_if1); (case e => exact rfl))
  | with_reducible first | refine w_if ?_ | refine w_tand ?_ | refine w_tor ?_ | refine w_tnot ?_ | refine k_for ?_
  | ((with_reducible apply w_tup); (case hl => exact Nat.le_of_ble_eq_true rfl))
  | ((with_reducible apply w_lst); (case hl => exact Nat.le_of_ble_eq_true rfl))
  | ((with_reducible apply k_rai); (case h1 => exact rfl); (case h2 => exact Nat.le_of_ble_eq_true rfl))
  | ((with_reducible apply if_r0); (case h => exact rfl))
  | ((with_reducible apply if_r1); (case h => exact rfl))
  | ((with_reducible apply W_ok); (case h => exact rfl)))
section
variable {s : Store} {E : XP} {Q : PV → Store → Prop}
abbrev W32 : Int := 4294967296
structure Bd (v : Int) : Prop where
  lo : 0 ≤ v
  hi : v < W32
/-- what reckon gives, behind its word -/
def rekV : Sg → Int → Int → PV
  | .add, l, r => .tup [.str "int", .int ((l + r) % 4294967296)]
  | .sub, l, r => .tup [.str "int", .int ((l - r) % 4294967296)]
  | .eq, l, r => .tup [.str "bool", .bl (decide (l = r))]
  | .lt, l, r => .tup [.str "bool", .bl (decide (l < r))]
theorem mulB_bd {l r : Int} (hl : Bd l) : mulB l r = true := by
  have h1 := hl.lo
  have h2 := hl.hi
  have : -(2 ^ 64) < l ∧ l < 2 ^ 64 := ⟨by omega, by unfold W32 at h2; omega⟩
  unfold mulB
  rw [decide_eq_true this.1, decide_eq_true this.2]
  rfl
theorem reckon_ok {d : Nat} {o : Sg} {l r : Int} (hl : Bd l) (q : ∀ s', Gr s s' → s.length ≤ s'.length → Q (rekV o l r) s') : W (callN tab (d + 1) 0 [.str o.s, .int l, .int r]) s Q E := by
  rw [w_reckon d rfl]
  refine W_cFn ?_
  unfold b_reckon
  cases o with
  | eq =>
    unfold Sg.s
    repeat infer_instance
    exact q s .refl (Nat.le_refl _)
  | lt =>
    unfold Sg.s
    repeat infer_instance
    exact q s .refl (Nat.le_refl _)
  | add =>
    unfold Sg.s
    repeat infer_instance
    refine w_mul (mulB_bd hl) ?_
    repeat infer_instance
    refine ⟨by simp, ?_⟩
    repeat infer_instance
    refine w_get (l := [(.inr "+", .int (l + r)), (.inr "-", .int (l - r)), (.inr "*", .int (l * r))]) (by simp [List.getElem?_set]; rfl) (by rfl) ?_
    repeat infer_instance
    exact q _ (fun n o e => by
      have := (List.getElem?_eq_some_iff.mp e).1
      rw [List.getElem?_set, if_neg (by omega)]
      exact Gr.push n o e) (by simp)
  | sub =>
    unfold Sg.s
    repeat infer_instance
    refine w_mul (mulB_bd hl) ?_
    repeat infer_instance
    refine ⟨by simp, ?_⟩
    repeat infer_instance
    refine w_get (l := [(.inr "+", .int (l + r)), (.inr "-", .int (l - r)), (.inr "*", .int (l * r))]) (by simp [List.getElem?_set]; rfl) (by rfl) ?_
    repeat infer_instance
    exact q _ (fun n o e => by
      have := (List.getElem?_eq_some_iff.mp e).1
      rw [List.getElem?_set, if_neg (by omega)]
      exact Gr.push n o e) (by simp)
/-- the numbers of an expression are small -/
def Ex.ok : Ex → Prop
  | .int n => Bd n
  | .var _ => True
  | .op _ l r => l.ok ∧ r.ok
def Ex.fine (e : Ex) : Prop := e.ok ∧ e.dp ≤ 3
def Pr.ok : Pr → Prop
  | .skip => True
  | .set _ e => e.fine
  | .seq p q => p.ok ∧ q.ok
  | .ite e p q => e.fine ∧ p.ok ∧ q.ok
  | .whl e p => e.fine ∧ p.ok
theorem rk_bd {v : Env} (hv : ∀ x, Bd (v x)) : ∀ e : Ex, e.ok → Bd (rk v e)
  | .int n, h => h
  | .var x, _ => hv x
  | .op o l r, h => by
    unfold rk rek
    cases o with
    | add => exact ⟨Int.emod_nonneg _ (by decide), Int.emod_lt_of_pos _ (by decide)⟩
    | sub => exact ⟨Int.emod_nonneg _ (by decide), Int.emod_lt_of_pos _ (by decide)⟩
    | eq => dsimp only; split <;> exact ⟨by decide, by decide⟩
    | lt => dsimp only; split <;> exact ⟨by decide, by decide⟩
theorem reckoned_ok {ord : List Nm} {v : Env} {n : Nat} (hF : Full ord) (hv : ∀ x, Bd (v x)) : ∀ (e : Ex) (d : Nat) (s : Store) (Q : PV → Store → Prop) (E : XP), s[n]? = some (.dct (mkD ord v)) → e.dp ≤ d → e.ok → (∀ s', Gr s s' → s.length ≤ s'.length → Q (.int (rk v e)) s') → W (callN tab (d + 1) 6 [e.pv, .ref n]) s Q E
  | e, 0, s, Q, E, hs, h, _, _ => absurd h (by have := Ex_dp e; omega)
  | .int k, d + 1, s, Q, E, hs, h, ok, q => by
    rw [w_reckoned (d + 1) rfl]
    refine W_cFn ?_
    unfold b_reckoned Ex.pv
    repeat infer_instance
    exact q s .refl (Nat.le_refl _)
  | .var x, d + 1, s, Q, E, hs, h, ok, q => by
    rw [w_reckoned (d + 1) rfl]
    refine W_cFn ?_
    unfold b_reckoned Ex.pv
    repeat infer_instance
    refine w_get hs (dget_mk (hF.all x)) ?_
    repeat infer_instance
    exact q s .refl (Nat.le_refl _)
  | .op o l r, d + 1, s, Q, E, hs, h, ok, q => by
    simp only [Ex.dp] at h
    rw [w_reckoned (d + 1) rfl]
    refine W_cFn ?_
    unfold b_reckoned Ex.pv
    repeat infer_instance
    refine reckoned_ok hF hv l d _ _ _ hs (by omega) ok.1 fun s1 g1 l1 => ?_
    repeat infer_instance
    refine reckoned_ok hF hv r d _ _ _ (g1 _ _ hs) (by omega) ok.2 fun s2 g2 l2 => ?_
    repeat infer_instance
    refine reckon_ok (rk_bd hv l ok.1) fun s3 g3 l3 => ?_
    have key : Q (.int (rk v (.op o l r))) s3 := q s3 (g1.trans (g2.trans g3)) (by omega)
    unfold rk rek at key
    cases o with
    | add => unfold rekV; (repeat infer_instance); exact key
    | sub => unfold rekV; (repeat infer_instance); exact key
    | eq => unfold rekV; (repeat infer_instance); simpa using key
    | lt => unfold rekV; (repeat infer_instance); simpa using key
/-- the run's object -/
structure Run (s : Store) (o k : Nat) (ord : List Nm) (fuel : Nat) (v : Env) : Prop where
  ins : s[o]? = some (.ins 3 [("known", .ref k), ("fuel", .int fuel)])
  dct : s[k]? = some (.dct (mkD ord v))
/-- but for the run's own objects nothing has changed -/
def Kr (o k : Nat) (s s' : Store) : Prop := s.length ≤ s'.length ∧ ∀ (n : Nat) (x : SO), n ≠ o → n ≠ k → s[n]? = some x → s'[n]? = some x
theorem Kr.refl {o k : Nat} {s : Store} : Kr o k s s := ⟨Nat.le_refl _, fun _ _ _ _ h => h⟩
theorem Kr.trans {o k : Nat} {s s' s'' : Store} (h : Kr o k s s') (h2 : Kr o k s' s'') : Kr o k s s'' := ⟨Nat.le_trans h.1 h2.1, fun n x a b c => h2.2 n x a b (h.2 n x a b c)⟩
theorem _root_.Z.Gr.kr {o k : Nat} {s s' : Store} (h : Gr s s') (hl : s.length ≤ s'.length) : Kr o k s s' := ⟨hl, fun n x _ _ e => h n x e⟩
theorem _root_.Z.Kp.kro {o k : Nat} {s s' : Store} (h : Kp o s s') : Kr o k s s' := ⟨h.le, fun n x a _ e => h.get e a⟩
theorem _root_.Z.Kp.krk {o k : Nat} {s s' : Store} (h : Kp k s s') : Kr o k s s' := ⟨h.le, fun n x _ a e => h.get e a⟩
theorem go_ok {ord : List Nm} {o k : Nat} (hF : Full ord) (hok : o ≠ k) : ∀ (d n : Nat) (p : Pr) (v : Env) (s : Store) (Q : PV → Store → Prop) (E : XP), Run s o k ord n v → n < d → p.ok → (∀ x, Bd (v x)) →
    (∀ m w s', runD d n p v = some (m, w) → Run s' o k ord m w → Kr o k s s' → (∀ x, Bd (w x)) → Q .non s') → (∀ s', runD d n p v = none → Kr o k s s' → E 2 [] s') → W (callN tab (d + 5) 8 [.ref o, p.pv]) s Q E
  | 0, n, p, v, s, Q, E, hR, h, _, _, _, _ => absurd h (by omega)
  | d + 1, 0, p, v, s, Q, E, hR, h, ok, hv, q, qe => by
    rw [show d + 1 + 5 = (d + 5) + 1 by omega, w_SecretRun_go (d + 5) rfl]
    refine W_cFn ?_
    unfold b_SecretRun_go
    repeat infer_instance
    refine w_fld hR.ins (by rfl) (by rfl) (by rfl) ?_
    repeat infer_instance
    exact qe s rfl .refl
  | d + 1, n + 1, p, v, s, Q, E, hR, h, ok, hv, q, qe => by
    rw [show d + 1 + 5 = (d + 5) + 1 by omega, w_SecretRun_go (d + 5) rfl]
    refine W_cFn ?_
    unfold b_SecretRun_go
    repeat infer_instance
    refine w_fld hR.ins (by rfl) (by rfl) (by rfl) ?_
    repeat infer_instance
    refine w_fld hR.ins (by rfl) (by rfl) (by rfl) ?_
    repeat infer_instance
    refine ⟨rfl, _, _, rfl, rfl, ?_⟩
    refine w_fldSet hR.ins (by rfl) (by rfl) (Nat.le_of_ble_eq_true rfl) fun s1 i1 k1 l1 => ?_
    have R1 : Run s1 o k ord n v := ⟨by rw [i1]; exact congrArg (fun z => some (SO.ins 3 [("known", PV.ref k), ("fuel", PV.int z)])) (show ((n + 1 : Nat) : Int) - 1 = n by omega), k1.get hR.dct (Ne.symm hok)⟩
    cases p with
    | skip =>
      unfold Pr.pv
      repeat infer_instance
      exact q n v s1 rfl R1 k1.kro hv
    | set x e =>
      unfold Pr.pv
      repeat infer_instance
      refine w_fld R1.ins (by rfl) (by rfl) (by rfl) ?_
      repeat infer_instance
      refine reckoned_ok (d := d + 4) hF hv e _ _ _ R1.dct (by have := ok.2; omega) ok.1 fun s2 g2 l2 => ?_
      repeat infer_instance
      refine w_fld (g2 _ _ R1.ins) (by rfl) (by rfl) (by rfl) ?_
      repeat infer_instance
      refine w_putA (g2 _ _ R1.dct) (by unfold mkD; rw [List.length_map, hF.len]; decide) (dput_mk (hF.all x)) fun s3 g3 k3 l3 => ?_
      repeat infer_instance
      refine q n (upd v x (rk v e)) s3 rfl ⟨k3.get (g2 _ _ R1.ins) hok, g3⟩ (k1.kro.trans ((g2.kr l2).trans k3.krk)) fun y => ?_
      unfold upd
      split
      · exact rk_bd hv e ok.1
      · exact hv y
    | seq p1 p2 =>
      unfold Pr.pv
      repeat infer_instance
      refine w_methP R1.ins (by rfl) (by rfl) (by rfl) ?_
      repeat infer_instance
      refine go_ok hF hok d n p1 v s1 _ _ R1 (by omega) ok.1 hv (fun m w s2 c2 R2 k2 hw => ?_) fun s2 c2 k2 => ?_
      · repeat infer_instance
        refine w_methP R2.ins (by rfl) (by rfl) (by rfl) ?_
        repeat infer_instance
        have hm := runD_le c2
        refine go_ok hF hok d m p2 w s2 _ _ R2 (by omega) ok.2 hw (fun m' w' s3 c3 R3 k3 hw' => ?_) fun s3 c3 k3 => ?_
        · repeat infer_instance
          exact q m' w' s3 (by simp only [runD]; rw [c2]; exact c3) R3 (k1.kro.trans (k2.trans k3)) hw'
        · exact qe s3 (by simp only [runD]; rw [c2]; exact c3) (k1.kro.trans (k2.trans k3))
      · exact qe s2 (by simp only [runD]; rw [c2]) (k1.kro.trans k2)
    | ite e p1 p2 =>
      unfold Pr.pv
      repeat infer_instance
      refine w_methP R1.ins (by rfl) (by rfl) (by rfl) ?_
      repeat infer_instance
      refine w_fld R1.ins (by rfl) (by rfl) (by rfl) ?_
      repeat infer_instance
      refine reckoned_ok (d := d + 4) hF hv e _ _ _ R1.dct (by have := ok.1.2; omega) ok.1.1 fun s2 g2 l2 => ?_
      repeat infer_instance
      have R2 : Run s2 o k ord n v := ⟨g2 _ _ R1.ins, g2 _ _ R1.dct⟩
      by_cases hc : rk v e = 0
      · refine iff_ (by simp [hc]) ?_
        repeat infer_instance
        refine go_ok hF hok d n p2 v s2 _ _ R2 (by omega) ok.2.2 hv (fun m w s3 c3 R3 k3 hw => ?_) fun s3 c3 k3 => ?_
        · repeat infer_instance
          exact q m w s3 (by simp only [runD]; rw [if_neg (by simpa using hc)]; exact c3) R3 (k1.kro.trans ((g2.kr l2).trans k3)) hw
        · exact qe s3 (by simp only [runD]; rw [if_neg (by simpa using hc)]; exact c3) (k1.kro.trans ((g2.kr l2).trans k3))
      · refine ift (by simp [hc]) ?_
        repeat infer_instance
        refine go_ok hF hok d n p1 v s2 _ _ R2 (by omega) ok.2.1 hv (fun m w s3 c3 R3 k3 hw => ?_) fun s3 c3 k3 => ?_
        · repeat infer_instance
          exact q m w s3 (by simp only [runD]; rw [if_pos hc]; exact c3) R3 (k1.kro.trans ((g2.kr l2).trans k3)) hw
        · exact qe s3 (by simp only [runD]; rw [if_pos hc]; exact c3) (k1.kro.trans ((g2.kr l2).trans k3))
    | whl e p1 =>
      have hw0 : (Pr.whl e p1).pv = .tup [.str "while", e.pv, p1.pv] := rfl
      rw [hw0]
      repeat infer_instance
      refine w_fld R1.ins (by rfl) (by rfl) (by rfl) ?_
      repeat infer_instance
      refine reckoned_ok (d := d + 4) hF hv e _ _ _ R1.dct (by have := ok.1.2; omega) ok.1.1 fun s2 g2 l2 => ?_
      repeat infer_instance
      have R2 : Run s2 o k ord n v := ⟨g2 _ _ R1.ins, g2 _ _ R1.dct⟩
      by_cases hc : rk v e = 0
      · refine iff_ (by simp [hc]) ?_
        repeat infer_instance
        exact q n v s2 (by simp only [runD]; rw [if_neg (by simpa using hc)]) R2 (k1.kro.trans (g2.kr l2)) hv
      · refine ift (by simp [hc]) ?_
        repeat infer_instance
        refine w_methP R2.ins (by rfl) (by rfl) (by rfl) ?_
        repeat infer_instance
        refine go_ok hF hok d n p1 v s2 _ _ R2 (by omega) ok.2 hv (fun m w s3 c3 R3 k3 hw => ?_) fun s3 c3 k3 => ?_
        · repeat infer_instance
          refine w_methP R3.ins (by rfl) (by rfl) (by rfl) ?_
          repeat infer_instance
          have hm := runD_le c3
          rw [← hw0]
          refine go_ok hF hok d m (.whl e p1) w s3 _ _ R3 (by omega) ok hw (fun m' w' s4 c4 R4 k4 hw' => ?_) fun s4 c4 k4 => ?_
          · repeat infer_instance
            exact q m' w' s4 (by simp only [runD]; rw [if_pos hc, c3]; exact c4) R4 (k1.kro.trans ((g2.kr l2).trans (k3.trans k4))) hw'
          · exact qe s4 (by simp only [runD]; rw [if_pos hc, c3]; exact c4) (k1.kro.trans ((g2.kr l2).trans (k3.trans k4)))
        · exact qe s3 (by simp only [runD]; rw [if_pos hc, c3]) (k1.kro.trans ((g2.kr l2).trans k3))
end
end Zk

end
section
set_option maxHeartbeats 4000000
namespace Zk
open PySem L2 Z
local macro_rules | `(tactic| infer_instance) => `(tactic| first
  | with_reducible first
    | refine k_asg ?_ | refine k_exp ?_ | refine k_ret ?_ | refine k_pop ?_ | refine k_retN ?_ | refine k_ixSet ?_ | refine k_fldSet ?_ | refine k_aug ?_ | refine k_par ?_ | refine k_unp ?_ | refine k_pass ?_ | refine k_cont ?_ | refine k_break ?_ | refine k_rai0 ?_ | refine k_whl ?_ | refine k_in ?_ | refine k_end ?_
    | refine w_call ?_ | refine w_cons ?_ | refine w_nil ?_ | refine w_e2 ?_ | refine w_e1 ?_ | refine w_cmp ?_ | refine w_tcmp ?_ | refine w_ttru ?_ | refine w_sl ?_ | refine w_meth ?_ | refine w_dct ?_ | refine w_lc ?_ | refine w_part ?_ | refine w_walk ?_ | refine w_of ?_
    | refine lp_n ?_ | refine lp_c ?_ | refine lp_b ?_ | refine lp_r ?_ | refine sq_n ?_ | refine sq_r ?_ | refine fnR_n ?_ | refine fnR_r ?_ | refine if_ff ?_ | refine if_tt ?_
  | ((with_reducible apply k_if0); (case e => exact rfl))
  | ((with_reducible apply k_if1); (case e => exact rfl))
  | with_reducible refine k_if ?_
  | ((with_reducible apply w_if0); (case e => exact rfl))
  | ((with_reducible apply w_if1); (case e => exact rfl))
  | with_reducible first | refine w_if ?_ | refine w_tand ?_ | refine w_tor ?_ | refine w_tnot ?_ | refine k_for ?_
  | ((with_reducible apply w_tup); (case hl => exact Nat.le_of_ble_eq_true rfl))
  | ((with_reducible apply w_lst); (case hl => exact Nat.le_of_ble_eq_true rfl))
  | ((with_reducible apply k_rai); (case h1 => exact rfl); (case h2 => exact Nat.le_of_ble_eq_true rfl))
  | ((with_reducible apply if_r0); (case h => exact rfl))
  | ((with_reducible apply if_r1); (case h => exact rfl))
  | ((with_reducible apply W_ok); (case h => exact rfl)))

section
variable {s : Store} {E : XP} {Q : PV → Store → Prop}
theorem run_ok {ord : List Nm} {v : Env} {n d : Nat} {p : Pr} {fu : Nat} (hF : Full ord) (hs : s[n]? = some (.dct (mkD ord v))) (ok : p.ok) (hv : ∀ x, Bd (v x)) (hd : fu < d)
    (q : ∀ m w s' k, runD d fu p v = some (m, w) → s'[k]? = some (.dct (mkD ord w)) → (∀ x, Bd (w x)) → Gr s s' → s.length ≤ s'.length → Q (.ref k) s') (qn : ∀ s', runD d fu p v = none → Gr s s' → s.length ≤ s'.length → Q .non s') : W (callN tab (d + 6) 9 [p.pv, .ref n, .int fu]) s Q E := by
  rw [w_run_secret (d + 5) rfl]
  refine W_cFn ?_
  unfold b_run_secret
  refine k_in ?_
  refine k_asg ?_
  refine w_call ?_
  repeat infer_instance
  refine w_makeP (f := 7) (by rfl) ?_
  rw [show (lk9 (callN tab (d + 5)) (iniN tab (d + 5))).ini = callN tab (d + 4) from rfl]
  rw [w_SecretRun___init__ (d + 3) rfl]
  refine W_cFn ?_
  unfold b_SecretRun___init__
  repeat infer_instance
  refine w_dictD (Gr.push _ _ hs) ?_
  repeat infer_instance
  refine w_fldSet (c := 3) (l := []) (by simp) (by rfl) (by rfl) (Nat.le_of_ble_eq_true rfl) fun s1 i1 k1 l1 => ?_
  repeat infer_instance
  refine w_fldSet i1 (by rfl) (by rfl) (Nat.le_of_ble_eq_true rfl) fun s2 i2 k2 l2 => ?_
  repeat infer_instance
  refine ⟨rfl, ?_⟩
  have hl : s2.length = s.length + 2 := by rw [l2, l1]; simp
  have R2 : Run s2 s.length (s.length + 1) ord fu v := by
    refine ⟨?_, ?_⟩
    · rw [i2]
      simp
      rfl
    · refine k2.get (k1.get (o := .dct (mkD ord v)) ?_ (by omega)) (by omega)
      simp
  have gr2 : Gr s s2 := ((Gr.push.trans Gr.push).kp k1 (Nat.le_refl _)).kp k2 (Nat.le_refl _)
  refine k_try (fl0 := []) (by rfl) ?_ fun c fs ρ' s' h => by rw [exc_exp h]
  repeat infer_instance
  refine w_methP R2.ins (by rfl) (by rfl) (by rfl) ?_
  repeat infer_instance
  refine go_ok hF (by omega) d fu p v s2 _ _ R2 hd ok hv (fun m w s3 c3 R3 k3 hw => ?_) fun s3 c3 k3 => ?_
  · repeat infer_instance
    refine w_fld R3.ins (by rfl) (by rfl) (by rfl) ?_
    repeat infer_instance
    refine q m w s3 _ c3 R3.dct hw (fun i x e => ?_) (by have := k3.1; omega)
    have hi := (List.getElem?_eq_some_iff.mp e).1
    exact k3.2 i x (by omega) (by omega) (gr2 i x e)
  · refine ⟨[], rfl, ift (by decide) fun ρ' hρ => ⟨.ret .non, rfl, SW_goneN ?_⟩⟩
    repeat infer_instance
    refine qn s3 c3 (fun i x e => ?_) (by have := k3.1; omega)
    have hi := (List.getElem?_eq_some_iff.mp e).1
    exact k3.2 i x (by omega) (by omega) (gr2 i x e)
theorem tk {d t c : Nat} {m : Int} (hT : Tp s t c) (h0 : 0 < m) (h1 : m < 1073741824) (hq : ∀ r s', 0 ≤ r → r < m → Tp s' t c → Kp t s s' → s'.length = s.length → Q (.int r) s') : W (callN tab (d + 1) 11 [.ref t, .int m]) s Q E := by
  rw [w__law_take d rfl]
  exact take_ok hT h0 h1 hq
theorem _root_.Z.Tp.lt {t c : Nat} (h : Tp s t c) : t < s.length := by
  obtain ⟨a, l, sd, sa, xs, e1, _⟩ := h.ex
  exact (List.getElem?_eq_some_iff.mp e1).1
theorem _root_.Z.Tp.push {t c : Nat} {r : List SO} (h : Tp s t c) : Tp (s ++ r) t c := h.keep fun _ _ e => Gr.push _ _ e
theorem pickN {r : Int} (h0 : 0 ≤ r) (h1 : r < 4) : ∃ x : Nm, atI [PV.str "a", .str "b", .str "c", .str "d"] r = some (.str x.s) := by
  have : r = 0 ∨ r = 1 ∨ r = 2 ∨ r = 3 := by omega
  rcases this with rfl | rfl | rfl | rfl
  · exact ⟨.a, rfl⟩
  · exact ⟨.b, rfl⟩
  · exact ⟨.c, rfl⟩
  · exact ⟨.d, rfl⟩
theorem pickS {r : Int} (h0 : 0 ≤ r) (h1 : r < 4) : ∃ x : Sg, atI [PV.str "+", .str "-", .str "==", .str "<"] r = some (.str x.s) := by
  have : r = 0 ∨ r = 1 ∨ r = 2 ∨ r = 3 := by omega
  rcases this with rfl | rfl | rfl | rfl
  · exact ⟨.add, rfl⟩
  · exact ⟨.sub, rfl⟩
  · exact ⟨.eq, rfl⟩
  · exact ⟨.lt, rfl⟩
theorem bd4 {r : Int} (h0 : 0 ≤ r) (h1 : r < 4) : Bd r := ⟨h0, by unfold W32; omega⟩
theorem expr_ok {t c : Nat} : ∀ (n d : Nat) (s : Store) (Q : PV → Store → Prop) (E : XP), Tp s t c → n < d → (∀ e s', Ex.ok e → e.dp ≤ n + 1 → Tp s' t c → Kp t s s' → Q e.pv s') → W (callN tab (d + 1) 12 [.ref t, .int n]) s Q E
  | n, 0, s, Q, E, _, h, _ => absurd h (by omega)
  | n, d + 1, s, Q, E, hT, h, q => by
    rw [w__law_expression (d + 1) rfl]
    refine W_cFn ?_
    unfold b__law_expression
    have leaf : ∀ (s1 : Store) (Q1 : PV → Store → Prop), Tp s1 t c → (∀ e s', Ex.ok e → e.dp ≤ 1 → Tp s' t c → Kp t s1 s' → Q1 e.pv s') →
        W (eIf (tCmp .Eq (eCall (callN tab (d + 1) 11) [sl 0, kst (.int 3)]) (kst (.int 0))) (eTup [kst (.str "int"), eCall (callN tab (d + 1) 11) [sl 0, kst (.int 4)]]) (eTup [kst (.str "var"), e2 ixP (eLst [kst (.str "a"), kst (.str "b"), kst (.str "c"), kst (.str "d")]) (eCall (callN tab (d + 1) 11) [sl 0, kst (.int 4)])]) [some (.ref t), some (.int n)]) s1 Q1 E := by
      intro s1 Q1 hT1 q1
      repeat infer_instance
      refine tk hT1 (by decide) (by decide) fun r s2 a1 a2 T2 k2 l2 => ?_
      repeat infer_instance
      refine ifd (fun _ => ?_) fun _ => ?_
      · repeat infer_instance
        refine tk T2 (by decide) (by decide) fun r s3 a1 a2 T3 k3 l3 => ?_
        repeat infer_instance
        exact q1 (.int r) s3 (bd4 a1 a2) (Nat.le_refl _) T3 (k2.trans k3)
      · repeat infer_instance
        refine tk T2.push (by decide) (by decide) fun r s3 a1 a2 T3 k3 l3 => ?_
        repeat infer_instance
        obtain ⟨x, hx⟩ := pickN a1 a2
        have ht2 := Tp.lt T2
        refine w_at (lst_of (k3.get (o := .lst [PV.str "a", .str "b", .str "c", .str "d"]) (by simp) (by omega))) hx ?_
        repeat infer_instance
        exact q1 (.var x) s3 trivial (Nat.le_refl _) T3 (k2.trans (Kp.push.trans k3))
    refine k_in ?_
    refine k_if ?_
    refine w_tor ?_
    have next : ∀ s1, Tp s1 t c → Kp t s s1 → n ≠ 0 → SW (cB [[cRet (eTup [kst (.str "op"), e2 ixP (eLst [kst (.str "+"), kst (.str "-"), kst (.str "=="), kst (.str "<")]) (eCall (callN tab (d + 1) 11) [sl 0, kst (.int 4)]), eCall (callN tab (d + 1) 12) [sl 0, e2 (binP .Sub) (sl 1) (kst (.int 1))], eCall (callN tab (d + 1) 12) [sl 0, e2 (binP .Sub) (sl 1) (kst (.int 1))]])]]) [some (.ref t), some (.int n)] s1 (fnR Q) E := by
      intro s1 T1 k1 hn
      repeat infer_instance
      refine tk T1.push (by decide) (by decide) fun r s2 a1 a2 T2 k2 l2 => ?_
      repeat infer_instance
      obtain ⟨x, hx⟩ := pickS a1 a2
      have ht1 := Tp.lt T1
      refine w_at (lst_of (k2.get (o := .lst [PV.str "+", .str "-", .str "==", .str "<"]) (by simp) (by omega))) hx ?_
      repeat infer_instance
      have hn1 : ((n : Int) - 1) = ((n - 1 : Nat) : Int) := by omega
      rw [hn1]
      refine expr_ok (n - 1) d s2 _ _ T2 (by omega) fun e1 s3 o1 d1 T3 k3 => ?_
      repeat infer_instance
      rw [hn1]
      refine expr_ok (n - 1) d s3 _ _ T3 (by omega) fun e2 s4 o2 d2 T4 k4 => ?_
      repeat infer_instance
      exact q (.op x e1 e2) s4 ⟨o1, o2⟩ (by simp only [Ex.dp]; omega) T4 (k1.trans (Kp.push.trans (k2.trans (k3.trans k4))))
    repeat infer_instance
    refine ifd (fun h0 => ?_) fun h0 => ?_
    · refine if_tt ?_
      refine k_ret ?_
      exact leaf s _ hT fun e s' o1 d1 T1 k1 => q e s' o1 (by omega) T1 k1
    · repeat infer_instance
      refine tk hT (by decide) (by decide) fun r s1 a1 a2 T1 k1 l1 => ?_
      repeat infer_instance
      refine ifd (fun _ => ?_) fun _ => ?_
      · refine k_ret ?_
        exact leaf s1 _ T1 fun e s' o1 d1 T2 k2 => q e s' o1 (by omega) T2 (k1.trans k2)
      · refine k_pop ?_
        exact next s1 T1 k1 (by omega)
end
end Zk

end
section
set_option maxHeartbeats 4000000
namespace Zk
open PySem L2 Z
local macro_rules | `(tactic| infer_instance) => `(tactic| first
  | with_reducible first
    | refine k_asg ?_ | refine k_exp ?_ | refine k_ret ?_ | refine k_pop ?_ | refine k_retN ?_ | refine k_ixSet ?_ | refine k_fldSet ?_ | refine k_aug ?_ | refine k_par ?_ | refine k_unp ?_ | refine k_pass ?_ | refine k_cont ?_ | refine k_break ?_ | refine k_rai0 ?_ | refine k_whl ?_ | refine k_in ?_ | refine k_end ?_
    | refine w_call ?_ | refine w_cons ?_ | refine w_nil ?_ | refine w_e2 ?_ | refine w_e1 ?_ | refine w_cmp ?_ | refine w_tcmp ?_ | refine w_ttru ?_ | refine w_sl ?_ | refine w_meth ?_ | refine w_dct ?_ | refine w_lc ?_ | refine w_part ?_ | refine w_walk ?_ | refine w_of ?_
    | refine lp_n ?_ | refine lp_c ?_ | refine lp_b ?_ | refine lp_r ?_ | refine sq_n ?_ | refine sq_r ?_ | refine fnR_n ?_ | refine fnR_r ?_ | refine if_ff ?_ | refine if_tt ?_
  | ((with_reducible apply k_if0); (case e => exact rfl))
  | ((with_reducible apply k_if1); (case e => exact rfl))
  | with_reducible refine k_if ?_
  | ((with_reducible apply w_if0); (case e => exact rfl))
  | ((with_reducible apply w_if1); (case e => exact rfl))
  | with_reducible first | refine w_if ?_ | refine w_tand ?_ | refine w_tor ?_ | refine w_tnot ?_ | refine k_for ?_
  | ((with_reducible apply w_tup); (case hl => exact Nat.le_of_ble_eq_true rfl))
  | ((with_reducible apply w_lst); (case hl => exact Nat.le_of_ble_eq_true rfl))
  | ((with_reducible apply k_rai); (case h1 => exact rfl); (case h2 => exact Nat.le_of_ble_eq_true rfl))
  | ((with_reducible apply if_r0); (case h => exact rfl))
  | ((with_reducible apply if_r1); (case h => exact rfl))
  | ((with_reducible apply W_ok); (case h => exact rfl)))

section
variable {s : Store} {E : XP} {Q : PV → Store → Prop}
theorem prog_ok {t c : Nat} : ∀ (n d : Nat) (s : Store) (Q : PV → Store → Prop) (E : XP), Tp s t c → n + 4 ≤ d → (∀ p s', Pr.ok p → p.dp ≤ 2 * n + 5 → Tp s' t c → Kp t s s' → Q p.pv s') → W (callN tab (d + 1) 13 [.ref t, .int n]) s Q E
  | n, 0, s, Q, E, _, h, _ => absurd h (by omega)
  | n, d + 1, s, Q, E, hT, h, q => by
    rw [w__law_program (d + 1) rfl]
    refine W_cFn ?_
    unfold b__law_program
    have leaf : ∀ (s1 : Store) (Q1 : PV → Store → Prop), Tp s1 t c → (∀ p s', Pr.ok p → p.dp ≤ 5 → Tp s' t c → Kp t s1 s' → Q1 p.pv s') →
        W (eIf (tCmp .Gt (eCall (callN tab (d + 1) 11) [sl 0, kst (.int 6)]) (kst (.int 0))) (eTup [kst (.str "set"), e2 ixP (eLst [kst (.str "a"), kst (.str "b"), kst (.str "c"), kst (.str "d")]) (eCall (callN tab (d + 1) 11) [sl 0, kst (.int 4)]), eCall (callN tab (d + 1) 12) [sl 0, kst (.int 2)]]) (eTup [kst (.str "skip")]) [some (.ref t), some (.int n), none]) s1 Q1 E := by
      intro s1 Q1 hT1 q1
      repeat infer_instance
      refine tk hT1 (by decide) (by decide) fun r s2 a1 a2 T2 k2 l2 => ?_
      repeat infer_instance
      refine ifd (fun _ => ?_) fun _ => ?_
      · repeat infer_instance
        refine tk T2.push (by decide) (by decide) fun r s3 a1 a2 T3 k3 l3 => ?_
        repeat infer_instance
        obtain ⟨x, hx⟩ := pickN a1 a2
        have ht2 := T2.lt
        refine w_at (lst_of (k3.get (o := .lst [PV.str "a", .str "b", .str "c", .str "d"]) (by simp) (by omega))) hx ?_
        repeat infer_instance
        refine expr_ok 2 d s3 _ _ T3 (by omega) fun e s4 o4 d4 T4 k4 => ?_
        repeat infer_instance
        exact q1 (.set x e) s4 ⟨o4, d4⟩ (by simp only [Pr.dp]; omega) T4 (k2.trans (Kp.push.trans (k3.trans k4)))
      · repeat infer_instance
        exact q1 .skip s2 trivial (by decide) T2 k2
    have next : ∀ s1, Tp s1 t c → Kp t s s1 → n ≠ 0 → SW (cB [[cAsg 2 (eCall (callN tab (d + 1) 11) [sl 0, kst (.int 5)]),
        cIf (tCmp .Lt (sl 2) (kst (.int 2))) (cBlk [cRet (eTup [kst (.str "then"), eCall (callN tab (d + 1) 13) [sl 0, e2 (binP .Sub) (sl 1) (kst (.int 1))], eCall (callN tab (d + 1) 13) [sl 0, e2 (binP .Sub) (sl 1) (kst (.int 1))]])]) (cBlk []),
        cIf (tCmp .Lt (sl 2) (kst (.int 4))) (cBlk [cRet (eTup [kst (.str "if"), eCall (callN tab (d + 1) 12) [sl 0, kst (.int 1)], eCall (callN tab (d + 1) 13) [sl 0, e2 (binP .Sub) (sl 1) (kst (.int 1))], eCall (callN tab (d + 1) 13) [sl 0, e2 (binP .Sub) (sl 1) (kst (.int 1))]])]) (cBlk []),
        cRet (eTup [kst (.str "while"), eTup [kst (.str "op"), kst (.str "<"), eTup [kst (.str "var"), kst (.str "d")], eTup [kst (.str "int"), eCall (callN tab (d + 1) 11) [sl 0, kst (.int 4)]]], eTup [kst (.str "then"), eCall (callN tab (d + 1) 13) [sl 0, e2 (binP .Sub) (sl 1) (kst (.int 1))], eTup [kst (.str "set"), kst (.str "d"), eTup [kst (.str "op"), kst (.str "+"), eTup [kst (.str "var"), kst (.str "d")], eTup [kst (.str "int"), kst (.int 1)]]]]])]]) [some (.ref t), some (.int n), none] s1 (fnR Q) E := by
      intro s1 T1 k1 hn
      have hn1 : ((n : Int) - 1) = ((n - 1 : Nat) : Int) := by omega
      repeat infer_instance
      refine tk T1 (by decide) (by decide) fun r s2 a1 a2 T2 k2 l2 => ?_
      repeat infer_instance
      refine ifd (fun _ => ?_) fun _ => ?_
      · repeat infer_instance
        rw [hn1]
        refine prog_ok (n - 1) d s2 _ _ T2 (by omega) fun p1 s3 o1 d1 T3 k3 => ?_
        repeat infer_instance
        rw [hn1]
        refine prog_ok (n - 1) d s3 _ _ T3 (by omega) fun p2 s4 o2 d2 T4 k4 => ?_
        repeat infer_instance
        exact q (.seq p1 p2) s4 ⟨o1, o2⟩ (by simp only [Pr.dp]; omega) T4 (k1.trans (k2.trans (k3.trans k4)))
      · repeat infer_instance
        refine ifd (fun _ => ?_) fun _ => ?_
        · repeat infer_instance
          refine expr_ok 1 d s2 _ _ T2 (by omega) fun e s3 oe de T3 k3 => ?_
          repeat infer_instance
          rw [hn1]
          refine prog_ok (n - 1) d s3 _ _ T3 (by omega) fun p1 s4 o1 d1 T4 k4 => ?_
          repeat infer_instance
          rw [hn1]
          refine prog_ok (n - 1) d s4 _ _ T4 (by omega) fun p2 s5 o2 d2 T5 k5 => ?_
          repeat infer_instance
          exact q (.ite e p1 p2) s5 ⟨⟨oe, by omega⟩, o1, o2⟩ (by simp only [Pr.dp]; omega) T5 (k1.trans (k2.trans (k3.trans (k4.trans k5))))
        · repeat infer_instance
          refine tk T2 (by decide) (by decide) fun r3 s3 b1 b2 T3 k3 l3 => ?_
          repeat infer_instance
          rw [hn1]
          refine prog_ok (n - 1) d s3 _ _ T3 (by omega) fun p1 s4 o1 d1 T4 k4 => ?_
          repeat infer_instance
          exact q (.whl (.op .lt (.var .d) (.int r3)) (.seq p1 (.set .d (.op .add (.var .d) (.int 1))))) s4 ⟨⟨⟨trivial, bd4 b1 b2⟩, by simp [Ex.dp]⟩, o1, ⟨trivial, ⟨by decide, by decide⟩⟩, by decide⟩ (by simp only [Pr.dp, Ex.dp]; omega) T4 (k1.trans (k2.trans (k3.trans k4)))
    refine k_in ?_
    refine k_if ?_
    refine w_tor ?_
    repeat infer_instance
    refine ifd (fun h0 => ?_) fun h0 => ?_
    · refine if_tt ?_
      refine k_ret ?_
      exact leaf s _ hT fun e s' o1 d1 T1 k1 => q e s' o1 (by omega) T1 k1
    · repeat infer_instance
      refine tk hT (by decide) (by decide) fun r s1 a1 a2 T1 k1 l1 => ?_
      repeat infer_instance
      refine ifd (fun _ => ?_) fun _ => ?_
      · refine k_ret ?_
        exact leaf s1 _ T1 fun e s' o1 d1 T2 k2 => q e s' o1 (by omega) T2 (k1.trans k2)
      · refine k_pop ?_
        exact next s1 T1 k1 (by omega)
def stL (p : Pr) : List PV := (sets p).map fun x => .str x.s
theorem sets_len : ∀ p : Pr, (sets p).length ≤ 2 ^ p.dp
  | .skip => by simp [sets]
  | .set _ e => by simp [sets]; exact Nat.one_le_two_pow
  | .seq p q => by
    have h1 := sets_len p
    have h2 := sets_len q
    have a1 : 2 ^ p.dp ≤ 2 ^ (max p.dp q.dp) := Nat.pow_le_pow_right (by decide) (by omega)
    have a2 : 2 ^ q.dp ≤ 2 ^ (max p.dp q.dp) := Nat.pow_le_pow_right (by decide) (by omega)
    simp only [sets, Pr.dp, List.length_append, Nat.pow_succ]
    omega
  | .ite e p q => by
    have h1 := sets_len p
    have h2 := sets_len q
    have a1 : 2 ^ p.dp ≤ 2 ^ (max e.dp (max p.dp q.dp)) := Nat.pow_le_pow_right (by decide) (by omega)
    have a2 : 2 ^ q.dp ≤ 2 ^ (max e.dp (max p.dp q.dp)) := Nat.pow_le_pow_right (by decide) (by omega)
    simp only [sets, Pr.dp, List.length_append, Nat.pow_succ]
    omega
  | .whl e p => by
    have h1 := sets_len p
    have a1 : 2 ^ p.dp ≤ 2 ^ (max e.dp p.dp) := Nat.pow_le_pow_right (by decide) (by omega)
    simp only [sets, Pr.dp, Nat.pow_succ]
    omega
theorem sets_ok : ∀ (p : Pr) (d : Nat) (s : Store) (Q : PV → Store → Prop) (E : XP), p.dp ≤ d → p.dp ≤ 12 → (∀ m s', s'[m]? = some (.lst (stL p)) → Gr s s' → s.length ≤ s'.length → Q (.ref m) s') → W (callN tab d 14 [p.pv]) s Q E
  | p, 0, s, Q, E, h, _, _ => absurd h (by have := Ok_dp p; omega)
  | .skip, d + 1, s, Q, E, h, hp, q => by
    rw [w__law_sets d rfl]
    refine W_cFn ?_
    unfold b__law_sets b__law_sets_1 Pr.pv
    repeat infer_instance
    refine k_for0 rfl ?_
    repeat infer_instance
    exact q _ _ (by simp; rfl) Gr.push (by simp)
  | .set x e, d + 1, s, Q, E, h, hp, q => by
    rw [w__law_sets d rfl]
    refine W_cFn ?_
    unfold b__law_sets b__law_sets_1 Pr.pv
    repeat infer_instance
    exact q _ _ (by simp; rfl) Gr.push (by simp)
  | .seq p1 p2, d + 1, s, Q, E, h, hp, q => by
    simp only [Pr.dp] at h hp
    have z1 := sets_len p1
    have z2 := sets_len p2
    have y1 : 2 ^ p1.dp ≤ 2 ^ 12 := Nat.pow_le_pow_right (by decide) (by omega)
    have y2 : 2 ^ p2.dp ≤ 2 ^ 12 := Nat.pow_le_pow_right (by decide) (by omega)
    rw [w__law_sets d rfl]
    refine W_cFn ?_
    unfold b__law_sets b__law_sets_1 Pr.pv
    repeat infer_instance
    refine k_for1 rfl rfl ?_
    repeat infer_instance
    refine sets_ok p1 d _ _ _ (by omega) (by omega) fun m1 s1 e1 g1 l1 => ?_
    repeat infer_instance
    refine w_addL (g1 _ (.lst []) (by simp)) e1 (by unfold stL; simp only [List.length_map, List.length_nil]; omega) ?_
    repeat infer_instance
    refine k_for1 rfl rfl ?_
    repeat infer_instance
    refine sets_ok p2 d _ _ _ (by omega) (by omega) fun m2 s2 e2 g2 l2 => ?_
    repeat infer_instance
    refine w_addL (g2 _ (.lst ([] ++ stL p1)) (by simp)) e2 (by unfold stL; simp only [List.length_map, List.nil_append]; omega) ?_
    repeat infer_instance
    refine k_for0 rfl ?_
    repeat infer_instance
    refine q _ _ (by simp [stL, sets]) (Gr.push.trans (g1.trans (Gr.push.trans (g2.trans Gr.push)))) (by simp at l1 l2 ⊢; omega)
  | .ite e p1 p2, d + 1, s, Q, E, h, hp, q => by
    simp only [Pr.dp] at h hp
    have z1 := sets_len p1
    have z2 := sets_len p2
    have y1 : 2 ^ p1.dp ≤ 2 ^ 12 := Nat.pow_le_pow_right (by decide) (by omega)
    have y2 : 2 ^ p2.dp ≤ 2 ^ 12 := Nat.pow_le_pow_right (by decide) (by omega)
    rw [w__law_sets d rfl]
    refine W_cFn ?_
    unfold b__law_sets b__law_sets_1 Pr.pv
    repeat infer_instance
    refine k_for1 rfl rfl ?_
    repeat infer_instance
    refine sets_ok p1 d _ _ _ (by omega) (by omega) fun m1 s1 e1 g1 l1 => ?_
    repeat infer_instance
    refine w_addL (g1 _ (.lst []) (by simp)) e1 (by unfold stL; simp only [List.length_map, List.length_nil]; omega) ?_
    repeat infer_instance
    refine k_for1 rfl rfl ?_
    repeat infer_instance
    refine sets_ok p2 d _ _ _ (by omega) (by omega) fun m2 s2 e2 g2 l2 => ?_
    repeat infer_instance
    refine w_addL (g2 _ (.lst ([] ++ stL p1)) (by simp)) e2 (by unfold stL; simp only [List.length_map, List.nil_append]; omega) ?_
    repeat infer_instance
    refine k_for0 rfl ?_
    repeat infer_instance
    refine q _ _ (by simp [stL, sets]) (Gr.push.trans (g1.trans (Gr.push.trans (g2.trans Gr.push)))) (by simp at l1 l2 ⊢; omega)
  | .whl e p1, d + 1, s, Q, E, h, hp, q => by
    simp only [Pr.dp] at h hp
    have z1 := sets_len p1
    have y1 : 2 ^ p1.dp ≤ 2 ^ 12 := Nat.pow_le_pow_right (by decide) (by omega)
    rw [w__law_sets d rfl]
    refine W_cFn ?_
    unfold b__law_sets b__law_sets_1 Pr.pv
    repeat infer_instance
    refine k_for1 rfl rfl ?_
    repeat infer_instance
    refine sets_ok p1 d _ _ _ (by omega) (by omega) fun m1 s1 e1 g1 l1 => ?_
    repeat infer_instance
    refine w_addL (g1 _ (.lst []) (by simp)) e1 (by unfold stL; simp only [List.length_map, List.length_nil]; omega) ?_
    repeat infer_instance
    refine k_for0 rfl ?_
    repeat infer_instance
    refine q _ _ (by simp [stL, sets]) (Gr.push.trans (g1.trans Gr.push)) (by simp at l1 ⊢; omega)
end
end Zk

end
section
set_option maxHeartbeats 4000000
namespace Zk
open PySem L2 Z
local macro_rules | `(tactic| infer_instance) => `(tactic| first
  | with_reducible first
    | refine k_asg ?_ | refine k_exp ?_ | refine k_ret ?_ | refine k_pop ?_ | refine k_retN ?_ | refine k_ixSet ?_ | refine k_fldSet ?_ | refine k_aug ?_ | refine k_par ?_ | refine k_unp ?_ | refine k_pass ?_ | refine k_cont ?_ | refine k_break ?_ | refine k_rai0 ?_ | refine k_whl ?_ | refine k_in ?_ | refine k_end ?_
    | refine w_call ?_ | refine w_cons ?_ | refine w_nil ?_ | refine w_e2 ?_ | refine w_e1 ?_ | refine w_cmp ?_ | refine w_tcmp ?_ | refine w_ttru ?_ | refine w_sl ?_ | refine w_meth ?_ | refine w_dct ?_ | refine w_lc ?_ | refine w_part ?_ | refine w_walk ?_ | refine w_of ?_
    | refine lp_n ?_ | refine lp_c ?_ | refine lp_b ?_ | refine lp_r ?_ | refine sq_n ?_ | refine sq_r ?_ | refine fnR_n ?_ | refine fnR_r ?_ | refine if_ff ?_ | refine if_tt ?_
  | ((with_reducible apply k_if0); (case e => exact rfl))
  | ((with_reducible apply k_if1); (case e => exact rfl))
  | with_reducible refine k_if ?_
  | ((with_reducible apply w_if0); (case e => exact rfl))
  | ((with_reducible apply w_if1); (case e => exact rfl))
  | with_reducible first | refine w_if ?_ | refine w_tand ?_ | refine w_tor ?_ | refine w_tnot ?_ | refine k_for ?_
  | ((with_reducible apply w_tup); (case hl => exact Nat.le_of_ble_eq_true rfl))
  | ((with_reducible apply w_lst); (case hl => exact Nat.le_of_ble_eq_true rfl))
  | ((with_reducible apply k_rai); (case h1 => exact rfl); (case h2 => exact Nat.le_of_ble_eq_true rfl))
  | ((with_reducible apply if_r0); (case h => exact rfl))
  | ((with_reducible apply if_r1); (case h => exact rfl))
  | ((with_reducible apply W_ok); (case h => exact rfl)))

section
variable {s : Store} {E : XP} {Q : PV → Store → Prop}
def swD : List (Key × PV) := [(.inr "a", .str "c"), (.inr "b", .str "a"), (.inr "c", .str "d"), (.inr "d", .str "b")]
theorem dget_sw (x : Nm) : dget swD (.inr x.s) = some (.str (sw x).s) := by cases x <;> rfl
theorem isT_ex (e : Ex) : isiP e.pv "tuple" s = .ok (.bl true) s := by cases e <;> rfl
theorem isT_pr (p : Pr) : isiP p.pv "tuple" s = .ok (.bl true) s := by cases p <;> rfl
/-- how a part is renamed -/
def PartOk (d m : Nat) (v y : PV) : Prop := ∀ (s : Store) (Q : PV → Store → Prop) (x : Option PV), s[m]? = some (.dct swD) → (∀ s', Gr s s' → s.length ≤ s'.length → Q y s') →
  W (eIf (tTru (e1 (fun x => isiP x "tuple") (sl 2))) (eCall (callN tab d 15) [sl 2, sl 1]) (sl 2) [x, some (.ref m), some v]) s Q (fun _ _ _ => False)
theorem part_str {d m : Nat} {x : Str} : PartOk d m (.str x) (.str x) := fun s Q y hs q => by
  repeat infer_instance
  exact q s .refl (Nat.le_refl _)
theorem part_int {d m : Nat} {x : Int} : PartOk d m (.int x) (.int x) := fun s Q y hs q => by
  repeat infer_instance
  exact q s .refl (Nat.le_refl _)
theorem _root_.Z.F2.get {α β : Type} {Y : α → β → Prop} {l : List α} {r : List β} (h : F2 Y l r) : ∀ {i : Nat} {a : α}, l[i]? = some a → ∃ b, r[i]? = some b ∧ Y a b := by
  induction h with
  | nil => intro i a h; simp at h
  | cons h _ ih =>
    intro i a e
    cases i with
    | zero => simp at e; subst e; exact ⟨_, rfl, h⟩
    | succ i => simpa using ih (by simpa using e)
theorem w_ix0 {v : PV} {r : List PV} (h : Q v s) : W (ixP (.tup (v :: r)) (.int 0)) s Q E := by
  refine W_ok (a := v) (s' := s) ?_ h
  show atP (v :: r) 0 s = _
  unfold atP
  rw [show atI (v :: r) 0 = some v from atI_nat (j := 0) rfl]
  rfl
theorem gen_ok {d m : Nat} {w : Str} {items ys : List PV} (h1 : (w = ("set" : Str)) = False) (h2 : (w = ("var" : Str)) = False) (hl : items.length ≤ 10) (hs : s[m]? = some (.dct swD)) (hF : F2 (PartOk d m) items ys)
    (q : ∀ s', Gr s s' → s.length ≤ s'.length → Q (.tup (.str w :: ys)) s') : W (callN tab (d + 1) 15 [.tup (.str w :: items), .ref m]) s Q E := by
  have hf : ∀ (u : Str), (w = u) = False → decide (w = u) = false := fun u h => by simp [h]
  rw [w__law_renamed d rfl]
  refine W_cFn ?_
  unfold b__law_renamed
  repeat infer_instance
  refine w_ix0 ?_
  repeat infer_instance
  refine if_r0 (hf _ h1) ?_
  repeat infer_instance
  refine w_ix0 ?_
  repeat infer_instance
  refine if_r0 (hf _ h2) ?_
  repeat infer_instance
  have hF' : F2 (PartOk d m) (.str w :: items) (.str w :: ys) := .cons part_str hF
  refine w_lcC (fun i acc s' => acc = (PV.str w :: ys).take i ∧ Gr s s' ∧ s.length + 1 ≤ s'.length) (.str w :: items) (fun i acc s1 _ => rfl) (by simp only [List.length_cons]; omega) ?_ ?_ _ 0 [] _ ⟨by simp, Gr.push, by simp⟩ (by simp) (Nat.zero_le _) (Nat.zero_le _) (by show _ < List.length _ + 1 + 0; omega)
  · intro i v acc s1 hv ⟨e1, g1, l1⟩ hD
    obtain ⟨y, hy, py⟩ := hF'.get hv
    refine ⟨_, rfl, ?_⟩
    rw [W_tYes]
    refine if_tt ?_
    refine py s1 _ _ (g1 _ _ hs) fun s2 g2 l2 => ⟨g2 _ _ hD, ?_, (g1.trans g2).kp Kp.set (Nat.le_refl _), by simp; omega⟩
    rw [e1, List.take_add_one, hy]
    rfl
  · intro acc s1 ⟨e1, g1, l1⟩ hD
    repeat infer_instance
    refine w_tupL (lst_of hD) ?_
    repeat infer_instance
    have : acc = .str w :: ys := by
      rw [e1]
      refine List.take_of_length_le ?_
      have : ∀ {l r : List PV}, F2 (PartOk d m) l r → l.length = r.length := fun h => by
        induction h with
        | nil => rfl
        | cons _ _ ih => simp [ih]
      rw [this hF']
      exact Nat.le_refl _
    rw [this]
    exact q s1 g1 (by omega)
theorem ren_ex {m : Nat} : ∀ (e : Ex) (d : Nat) (s : Store) (Q : PV → Store → Prop) (E : XP), s[m]? = some (.dct swD) → e.dp ≤ d → (∀ s', Gr s s' → s.length ≤ s'.length → Q e.ren.pv s') → W (callN tab d 15 [e.pv, .ref m]) s Q E
  | e, 0, s, Q, E, hs, h, _ => absurd h (by have := Ex_dp e; omega)
  | .int n, d + 1, s, Q, E, hs, h, q => gen_ok (w := "int") (by simp; decide) (by simp; decide) (by exact (by decide : 1 ≤ 10)) hs (.cons part_int .nil) q
  | .var x, d + 1, s, Q, E, hs, h, q => by
    rw [w__law_renamed d rfl]
    refine W_cFn ?_
    unfold b__law_renamed Ex.pv
    repeat infer_instance
    refine w_get hs (dget_sw x) ?_
    repeat infer_instance
    exact q s .refl (Nat.le_refl _)
  | .op o l r, d + 1, s, Q, E, hs, h, q => by
    simp only [Ex.dp] at h
    have part : ∀ e : Ex, e.dp ≤ d → e.dp ≤ max l.dp r.dp → PartOk d m e.pv e.ren.pv := fun e he he2 s1 Q1 x hs1 q1 => by
      repeat infer_instance
      refine W_ok (isT_ex e) ?_
      repeat infer_instance
      exact ren_ex e d s1 _ _ hs1 he q1
    exact gen_ok (w := "op") (by simp; decide) (by simp; decide) (by exact (by decide : 3 ≤ 10)) hs (.cons part_str (.cons (part l (by omega) (by omega)) (.cons (part r (by omega) (by omega)) .nil))) q
termination_by e d => d
theorem ren_pr {m : Nat} : ∀ (p : Pr) (d : Nat) (s : Store) (Q : PV → Store → Prop) (E : XP), s[m]? = some (.dct swD) → p.dp ≤ d → (∀ s', Gr s s' → s.length ≤ s'.length → Q p.ren.pv s') → W (callN tab d 15 [p.pv, .ref m]) s Q E
  | p, 0, s, Q, E, hs, h, _ => absurd h (by have := Ok_dp p; omega)
  | .skip, d + 1, s, Q, E, hs, h, q => gen_ok (w := "skip") (by simp; decide) (by simp; decide) (Nat.zero_le _) hs .nil q
  | .set x e, d + 1, s, Q, E, hs, h, q => by
    simp only [Pr.dp] at h
    rw [w__law_renamed d rfl]
    refine W_cFn ?_
    unfold b__law_renamed Pr.pv
    repeat infer_instance
    refine w_get hs (dget_sw x) ?_
    repeat infer_instance
    refine ren_ex e d _ _ _ hs (by omega) fun s1 g1 l1 => ?_
    repeat infer_instance
    exact q s1 g1 l1
  | .seq p1 p2, d + 1, s, Q, E, hs, h, q => by
    simp only [Pr.dp] at h
    have part : ∀ p : Pr, p.dp ≤ d → PartOk d m p.pv p.ren.pv := fun p he s1 Q1 x hs1 q1 => by
      repeat infer_instance
      refine W_ok (isT_pr p) ?_
      repeat infer_instance
      exact ren_pr p d s1 _ _ hs1 he q1
    exact gen_ok (w := "then") (by simp; decide) (by simp; decide) (by exact (by decide : 2 ≤ 10)) hs (.cons (part p1 (by omega)) (.cons (part p2 (by omega)) .nil)) q
  | .ite e p1 p2, d + 1, s, Q, E, hs, h, q => by
    simp only [Pr.dp] at h
    have part : ∀ p : Pr, p.dp ≤ d → PartOk d m p.pv p.ren.pv := fun p he s1 Q1 x hs1 q1 => by
      repeat infer_instance
      refine W_ok (isT_pr p) ?_
      repeat infer_instance
      exact ren_pr p d s1 _ _ hs1 he q1
    have partE : PartOk d m e.pv e.ren.pv := fun s1 Q1 x hs1 q1 => by
      repeat infer_instance
      refine W_ok (isT_ex e) ?_
      repeat infer_instance
      exact ren_ex e d s1 _ _ hs1 (by omega) q1
    exact gen_ok (w := "if") (by simp; decide) (by simp; decide) (by exact (by decide : 3 ≤ 10)) hs (.cons partE (.cons (part p1 (by omega)) (.cons (part p2 (by omega)) .nil))) q
  | .whl e p1, d + 1, s, Q, E, hs, h, q => by
    simp only [Pr.dp] at h
    have part : ∀ p : Pr, p.dp ≤ d → PartOk d m p.pv p.ren.pv := fun p he s1 Q1 x hs1 q1 => by
      repeat infer_instance
      refine W_ok (isT_pr p) ?_
      repeat infer_instance
      exact ren_pr p d s1 _ _ hs1 he q1
    have partE : PartOk d m e.pv e.ren.pv := fun s1 Q1 x hs1 q1 => by
      repeat infer_instance
      refine W_ok (isT_ex e) ?_
      repeat infer_instance
      exact ren_ex e d s1 _ _ hs1 (by omega) q1
    exact gen_ok (w := "while") (by simp; decide) (by simp; decide) (by exact (by decide : 2 ≤ 10)) hs (.cons partE (.cons (part p1 (by omega)) .nil)) q
termination_by p d => d
def nmL : List PV := [.str "a", .str "b", .str "c", .str "d"]
theorem _root_.Z.Tp.kpD {t c D : Nat} {s s' : Store} (h : Tp s t c) (k : Kp D s s') (h1 : D ≠ t) (h2 : D ≠ c) : Tp s' t c := by
  obtain ⟨a, l, sd, sa, xs, e1, e2, e3⟩ := h.ex
  exact ⟨a, l, sd, sa, xs, k.get e1 (Ne.symm h1), k.get e2 (Ne.symm h2), e3⟩
theorem _root_.Z.Tp.ltc {t c : Nat} {s : Store} (h : Tp s t c) : c < s.length := by
  obtain ⟨a, l, sd, sa, xs, e1, e2, e3⟩ := h.ex
  exact (List.getElem?_eq_some_iff.mp e2).1
theorem nmT {elt : CE} {j t c n k : Nat} {ρ : Sl} (hT : Tp s t c) (hn : s[n]? = some (.lst nmL)) (hnt : n ≠ t) (hk : 4 < k) (R : Nm → PV → Prop)
    (step : ∀ (x : Nm) (s1 : Store) (Q' : PV → Store → Prop), Tp s1 t c → Kp t s s1 → (∀ y s2, R x y → Tp s2 t c → Kp t s1 s2 → Q' y s2) → W (elt (ρ.set j (some (.str x.s)))) s1 Q' (fun _ _ _ => False))
    (hq : ∀ (f : Nm → PV) (s' : Store), (∀ x, R x (f x)) → s'[s.length]? = some (.lst [f .a, f .b, f .c, f .d]) → Tp s' t c → Kp t s s' → s.length < s'.length → Q (.ref s.length) s') : W (lcX elt (Tgt.run (.nm j)) tYes (.live n) s.length ρ k 0) (s ++ [.lst []]) Q E := by
  have ht := hT.lt
  have hc := hT.ltc
  refine w_lcR (t := t) (items := nmL) (fun s1 => Tp s1 t c ∧ Kp t s s1) (fun v y => ∀ x : Nm, v = .str x.s → R x y) (by simp) (by omega) ⟨hT.push, Kp.push⟩ (fun s1 h i => ?_) (fun s1 s2 h k2 => ⟨h.1.kpD k2 (by omega) (by omega), ?_⟩) (by decide) hk ?_ ?_
  · show (lstOf s1 n).map (·[i]?) = _
    rw [lst_of (h.2.get hn hnt)]
    rfl
  · refine ⟨Nat.le_trans h.2.le k2.le, fun i hi hit => ?_⟩
    rw [k2.at_ i (Nat.lt_of_lt_of_le hi h.2.le) (by omega), h.2.at_ i hi hit]
  · intro v hv s1 Q' ⟨T1, k1⟩ q'
    have : ∃ x : Nm, v = .str x.s := by
      simp only [nmL, List.mem_cons, List.not_mem_nil, or_false] at hv
      rcases hv with rfl | rfl | rfl | rfl
      · exact ⟨.a, rfl⟩
      · exact ⟨.b, rfl⟩
      · exact ⟨.c, rfl⟩
      · exact ⟨.d, rfl⟩
    obtain ⟨x, rfl⟩ := this
    exact step x s1 Q' T1 k1 fun y s2 hy T2 k2 => q' y s2 (fun x' e => by cases Nm.inj (PV.str.inj e); exact hy) ⟨T2, k1.trans k2⟩ k2
  · intro ys s' hF hD ⟨T1, k1⟩ _ hl
    unfold nmL at hF
    cases hF with
    | cons h1 hF =>
      cases hF with
      | cons h2 hF =>
        cases hF with
        | cons h3 hF =>
          cases hF with
          | cons h4 hF =>
            cases hF
            rename_i y1 y2 y3 y4
            refine hq (fun x => match x with
              | .a => y1
              | .b => y2
              | .c => y3
              | .d => y4) s' (fun x => ?_) hD T1 k1 (by simp at hl; omega)
            cases x
            · exact h1 .a rfl
            · exact h2 .b rfl
            · exact h3 .c rfl
            · exact h4 .d rfl
end
end Zk

end
section
set_option maxHeartbeats 8000000
namespace Zk
open PySem L2 Z
local macro_rules | `(tactic| infer_instance) => `(tactic| first
  | with_reducible first
    | refine k_asg ?_ | refine k_exp ?_ | refine k_ret ?_ | refine k_pop ?_ | refine k_retN ?_ | refine k_ixSet ?_ | refine k_fldSet ?_ | refine k_aug ?_ | refine k_par ?_ | refine k_unp ?_ | refine k_pass ?_ | refine k_cont ?_ | refine k_break ?_ | refine k_rai0 ?_ | refine k_whl ?_ | refine k_in ?_ | refine k_end ?_
    | refine w_call ?_ | refine w_cons ?_ | refine w_nil ?_ | refine w_e2 ?_ | refine w_e1 ?_ | refine w_cmp ?_ | refine w_tcmp ?_ | refine w_ttru ?_ | refine w_sl ?_ | refine w_meth ?_ | refine w_dct ?_ | refine w_lc ?_ | refine w_part ?_ | refine w_walk ?_ | refine w_of ?_
    | refine lp_n ?_ | refine lp_c ?_ | refine lp_b ?_ | refine lp_r ?_ | refine sq_n ?_ | refine sq_r ?_ | refine fnR_n ?_ | refine fnR_r ?_ | refine if_ff ?_ | refine if_tt ?_
  | ((with_reducible apply k_if0); (case e => exact rfl))
  | ((with_reducible apply k_if1); (case e => exact rfl))
  | with_reducible refine k_if ?_
  | ((with_reducible apply w_if0); (case e => exact rfl))
  | ((with_reducible apply w_if1); (case e => exact rfl))
  | with_reducible first | refine w_if ?_ | refine w_tand ?_ | refine w_tor ?_ | refine w_tnot ?_ | refine k_for ?_
  | ((with_reducible apply w_tup); (case hl => exact Nat.le_of_ble_eq_true rfl))
  | ((with_reducible apply w_lst); (case hl => exact Nat.le_of_ble_eq_true rfl))
  | ((with_reducible apply k_rai); (case h1 => exact rfl); (case h2 => exact Nat.le_of_ble_eq_true rfl))
  | ((with_reducible apply if_r0); (case h => exact rfl))
  | ((with_reducible apply if_r1); (case h => exact rfl))
  | ((with_reducible apply W_ok); (case h => exact rfl)))

section
variable {s : Store} {E : XP} {Q : PV → Store → Prop}
abbrev ab : List Nm := [.a, .b, .c, .d]
abbrev cadb : List Nm := [.c, .a, .d, .b]
theorem fullA : Full ab := ⟨fun x => by cases x <;> decide, by decide, rfl⟩
theorem fullC : Full cadb := ⟨fun x => by cases x <;> decide, by decide, rfl⟩
theorem nmD {f : Nm → PV} {r : Nm → Nm} {C : Nm → Int → Prop} (h : ∀ x, ∃ i, f x = .tup [.str (r x).s, .int i] ∧ C x i) : ∃ g : Nm → Int, (∀ x, f x = .tup [.str (r x).s, .int (g x)]) ∧ ∀ x, C x (g x) :=
  ⟨fun x => (h x).choose, fun x => (h x).choose_spec.1, fun x => (h x).choose_spec.2⟩
section
variable {elt : CE} {j t c n k : Nat} {ρ ρ' : Sl}
def unsw (u : Env) : Env := fun y => match y with
  | .c => u .a
  | .a => u .b
  | .d => u .c
  | .b => u .d
theorem len4 (hn : s[n]? = some (.lst nmL)) : 4 < lenI s (.live n) + 1 := by
  show 4 < ((lstOf s n).getD []).length + 1
  rw [lst_of hn]
  decide
/-- a dict made over the names -/
theorem dictC (hT : Tp s t c) (hn : s[n]? = some (.lst nmL)) (hnt : n ≠ t) (hk : 4 < k) (C : Nm → Int → Prop)
    (step : ∀ (x : Nm) (s1 : Store) (Q' : PV → Store → Prop), Tp s1 t c → Kp t s s1 → (∀ i s2, C x i → Tp s2 t c → Kp t s1 s2 → Q' (.tup [.str x.s, .int i]) s2) → W (elt (ρ.set j (some (.str x.s)))) s1 Q' (fun _ _ _ => False))
    (hq : ∀ (g : Env) (D : Nat) (s' : Store), (∀ x, C x (g x)) → s'[D]? = some (.dct (mkD ab g)) → Tp s' t c → Kp t s s' → D ≠ t → Q (.ref D) s') :
    W (lcX elt (Tgt.run (.nm j)) tYes (.live n) s.length ρ k 0) (s ++ [.lst []]) (fun v s' => W (eL [] ρ') s' (fun vs s' => W (bltP .dict (v :: vs)) s' Q E) E) E := by
  refine nmT hT hn hnt hk (fun x y => ∃ i, y = .tup [.str x.s, .int i] ∧ C x i) (fun x s1 Q' T1 k1 q' => step x s1 Q' T1 k1 fun i s2 hc T2 k2 => q' _ s2 ⟨i, rfl, hc⟩ T2 k2) fun f s' hf hD T1 k1 l1 => ?_
  obtain ⟨g, hg, hC⟩ := nmD (r := id) hf
  rw [hg, hg, hg, hg] at hD
  refine w_nil ?_
  refine w_dictL hD (kvs := mkD ab g) (by rfl) ?_
  have ht := T1.lt
  exact hq g _ _ hC (by rw [List.getElem?_append_right (Nat.le_refl _)]; simp; rfl) T1.push (k1.trans Kp.push) (by omega)
theorem dictS (hT : Tp s t c) (hn : s[n]? = some (.lst nmL)) (hnt : n ≠ t) (hk : 4 < k) (u : Env)
    (step : ∀ (x : Nm) (s1 : Store) (Q' : PV → Store → Prop), Tp s1 t c → Kp t s s1 → (∀ s2, Tp s2 t c → Kp t s1 s2 → Q' (.tup [.str (sw x).s, .int (u x)]) s2) → W (elt (ρ.set j (some (.str x.s)))) s1 Q' (fun _ _ _ => False))
    (hq : ∀ (g : Env) (D : Nat) (s' : Store), (∀ x, g (sw x) = u x) → s'[D]? = some (.dct (mkD cadb g)) → Tp s' t c → Kp t s s' → D ≠ t → Q (.ref D) s') :
    W (lcX elt (Tgt.run (.nm j)) tYes (.live n) s.length ρ k 0) (s ++ [.lst []]) (fun v s' => W (eL [] ρ') s' (fun vs s' => W (bltP .dict (v :: vs)) s' Q E) E) E := by
  refine nmT hT hn hnt hk (fun x y => y = .tup [.str (sw x).s, .int (u x)]) (fun x s1 Q' T1 k1 q' => step x s1 Q' T1 k1 fun s2 T2 k2 => q' _ s2 rfl T2 k2) fun f s' hf hD T1 k1 l1 => ?_
  rw [hf, hf, hf, hf] at hD
  refine w_nil ?_
  refine w_dictL hD (kvs := mkD cadb (unsw u)) (by rfl) ?_
  have ht := T1.lt
  exact hq (unsw u) _ _ (fun x => by cases x <;> rfl) (by rw [List.getElem?_append_right (Nat.le_refl _)]; simp; rfl) T1.push (k1.trans Kp.push) (by omega)
theorem anyC (hT : Tp s t c) (hn : s[n]? = some (.lst nmL)) (hnt : n ≠ t) (hk : 4 < k)
    (step : ∀ (x : Nm) (s1 : Store) (Q' : PV → Store → Prop), Tp s1 t c → Kp t s s1 → (∀ s2, Tp s2 t c → Kp t s1 s2 → Q' (.bl false) s2) → W (elt (ρ.set j (some (.str x.s)))) s1 Q' (fun _ _ _ => False))
    (hq : ∀ (s' : Store), Tp s' t c → Kp t s s' → Q (.bl false) s') :
    W (lcX elt (Tgt.run (.nm j)) tYes (.live n) s.length ρ k 0) (s ++ [.lst []]) (fun v s' => W (eL [] ρ') s' (fun vs s' => W (bltP .any (v :: vs)) s' Q E) E) E := by
  refine nmT hT hn hnt hk (fun x y => y = .bl false) (fun x s1 Q' T1 k1 q' => step x s1 Q' T1 k1 fun s2 T2 k2 => q' _ s2 rfl T2 k2) fun f s' hf hD T1 k1 l1 => ?_
  rw [hf, hf, hf, hf] at hD
  refine w_nil ?_
  exact w_anyL (lst_of hD) (bs := [false, false, false, false]) (by rfl) (hq s' T1 k1)
end
theorem chk_int : ∀ {p : Pr} {f : Env} {a : Int} {r : List PV}, chk p f a = some r → ∃ l : List Int, r = l.map .int
  | .skip, f, a, r, h => by cases h
  | .set x e, f, a, r, h => by
    unfold chk at h
    split at h
    · cases h; exact ⟨[], rfl⟩
    · cases h
  | .seq p q, f, a, r, h => by
    unfold chk at h
    cases h1 : chk p f a with
    | some r1 =>
      rw [h1] at h
      cases h
      obtain ⟨l, rfl⟩ := chk_int h1
      exact ⟨0 :: l, rfl⟩
    | none =>
      rw [h1] at h
      cases h2 : chk q f a with
      | none => rw [h2] at h; cases h
      | some r2 =>
        rw [h2] at h
        cases h
        obtain ⟨l, rfl⟩ := chk_int h2
        exact ⟨1 :: l, rfl⟩
  | .ite e p q, f, a, r, h => by
    unfold chk at h
    cases h1 : chk p f (mx a (lev f e)) with
    | some r1 =>
      rw [h1] at h
      cases h
      obtain ⟨l, rfl⟩ := chk_int h1
      exact ⟨1 :: l, rfl⟩
    | none =>
      rw [h1] at h
      cases h2 : chk q f (mx a (lev f e)) with
      | none => rw [h2] at h; cases h
      | some r2 =>
        rw [h2] at h
        cases h
        obtain ⟨l, rfl⟩ := chk_int h2
        exact ⟨2 :: l, rfl⟩
  | .whl e p, f, a, r, h => by
    unfold chk at h
    cases h1 : chk p f (mx a (lev f e)) with
    | none => rw [h1] at h; cases h
    | some r1 =>
      rw [h1] at h
      cases h
      obtain ⟨l, rfl⟩ := chk_int h1
      exact ⟨1 :: l, rfl⟩
theorem chk_len : ∀ {p : Pr} {f : Env} {a : Int} {r : List PV}, chk p f a = some r → r.length < p.dp
  | .skip, f, a, r, h => by cases h
  | .set x e, f, a, r, h => by
    unfold chk at h
    split at h
    · cases h; simp [Pr.dp]
    · cases h
  | .seq p q, f, a, r, h => by
    unfold chk at h
    cases h1 : chk p f a with
    | some r1 =>
      rw [h1] at h
      cases h
      have := chk_len h1
      simp only [List.length_cons, Pr.dp]
      omega
    | none =>
      rw [h1] at h
      cases h2 : chk q f a with
      | none => rw [h2] at h; cases h
      | some r2 =>
        rw [h2] at h
        cases h
        have := chk_len h2
        simp only [List.length_cons, Pr.dp]
        omega
  | .ite e p q, f, a, r, h => by
    unfold chk at h
    cases h1 : chk p f (mx a (lev f e)) with
    | some r1 =>
      rw [h1] at h
      cases h
      have := chk_len h1
      simp only [List.length_cons, Pr.dp]
      omega
    | none =>
      rw [h1] at h
      cases h2 : chk q f (mx a (lev f e)) with
      | none => rw [h2] at h; cases h
      | some r2 =>
        rw [h2] at h
        cases h
        have := chk_len h2
        simp only [List.length_cons, Pr.dp]
        omega
  | .whl e p, f, a, r, h => by
    unfold chk at h
    cases h1 : chk p f (mx a (lev f e)) with
    | none => rw [h1] at h; cases h
    | some r1 =>
      rw [h1] at h
      cases h
      have := chk_len h1
      simp only [List.length_cons, Pr.dp]
      omega
theorem kp_pth {p : Pr} {f : Env} : Pth (kpV p f) := by
  unfold kpV
  cases h : chk p f 0 with
  | none => exact .non
  | some r =>
    obtain ⟨l, rfl⟩ := chk_int h
    exact .tup l
theorem kp_none {p : Pr} {f : Env} (h : Ok p f 0) : kpV p f = .non := by
  unfold kpV
  rw [chk_ok.mpr h]
theorem exdp_ren : ∀ e : Ex, e.ren.dp = e.dp
  | .int _ => rfl
  | .var _ => rfl
  | .op _ l r => by simp only [Ex.ren, Ex.dp, exdp_ren l, exdp_ren r]
theorem exok_ren : ∀ e : Ex, e.ok → e.ren.ok
  | .int _, h => h
  | .var _, _ => trivial
  | .op _ l r, h => ⟨exok_ren l h.1, exok_ren r h.2⟩
theorem fine_ren {e : Ex} (h : e.fine) : e.ren.fine := ⟨exok_ren e h.1, by rw [exdp_ren]; exact h.2⟩
theorem prdp_ren : ∀ p : Pr, p.ren.dp = p.dp
  | .skip => rfl
  | .set _ e => by simp only [Pr.ren, Pr.dp, exdp_ren]
  | .seq p q => by simp only [Pr.ren, Pr.dp, prdp_ren p, prdp_ren q]
  | .ite e p q => by simp only [Pr.ren, Pr.dp, exdp_ren, prdp_ren p, prdp_ren q]
  | .whl e p => by simp only [Pr.ren, Pr.dp, exdp_ren, prdp_ren p]
theorem prok_ren : ∀ p : Pr, p.ok → p.ren.ok
  | .skip, _ => trivial
  | .set _ e, h => fine_ren h
  | .seq p q, h => ⟨prok_ren p h.1, prok_ren q h.2⟩
  | .ite e p q, h => ⟨fine_ren h.1, prok_ren p h.2.1, prok_ren q h.2.2⟩
  | .whl e p, h => ⟨fine_ren h.1, prok_ren p h.2⟩
theorem w_tor3 {P : Bool → Store → Prop} {a b c : CT} {ρ : Sl} (h : W (tOr a (tOr b c) ρ) s P E) : W (tOr3 a b c ρ) s P E := by rw [W_tOr3]; exact h
theorem lt_false {i j : Int} (h : j ≤ i) : decide (i < j) = false := decide_eq_false (by omega)
theorem minL_spec : ∀ {l : List Int}, l ≠ [] → ∃ m, minL l = some m ∧ ∀ i, i ≤ m ↔ ∀ x ∈ l, i ≤ x
  | [], h => absurd rfl h
  | [x], _ => ⟨x, rfl, fun i => by simp⟩
  | x :: y :: r, _ => by
    obtain ⟨m, e, hm⟩ := minL_spec (l := y :: r) (by simp)
    refine ⟨if m < x then m else x, ?_, fun i => ?_⟩
    · show (minL (y :: r)).map _ = _
      rw [e]
      rfl
    · rw [List.forall_mem_cons, ← hm]
      split <;> omega
theorem w_or {a b : CE} {ρ : Sl} (h : W (a ρ) s (fun x s' => W (match x with
  | .bl true => ret (.bl true)
  | .bl false => b ρ
  | _ => stop) s' Q E) E) : W (eOr a b ρ) s Q E := by rw [W_eOr]; exact h
theorem intsOf_map : ∀ l : List Int, intsOf (l.map PV.int) = some l
  | [] => rfl
  | i :: r => by
    show (intsOf (r.map PV.int)).map (i :: ·) = _
    rw [intsOf_map r]
    rfl
end
end Zk

end
section
set_option maxHeartbeats 8000000
namespace Zk
open PySem L2 Z
local macro_rules | `(tactic| infer_instance) => `(tactic| first
  | with_reducible first
    | refine k_asg ?_ | refine k_exp ?_ | refine k_ret ?_ | refine k_pop ?_ | refine k_retN ?_ | refine k_ixSet ?_ | refine k_fldSet ?_ | refine k_aug ?_ | refine k_par ?_ | refine k_unp ?_ | refine k_pass ?_ | refine k_cont ?_ | refine k_break ?_ | refine k_rai0 ?_ | refine k_whl ?_ | refine k_in ?_ | refine k_end ?_
    | refine w_call ?_ | refine w_cons ?_ | refine w_nil ?_ | refine w_e2 ?_ | refine w_e1 ?_ | refine w_cmp ?_ | refine w_tcmp ?_ | refine w_ttru ?_ | refine w_sl ?_ | refine w_meth ?_ | refine w_dct ?_ | refine w_lc ?_ | refine w_part ?_ | refine w_walk ?_ | refine w_of ?_
    | refine lp_n ?_ | refine lp_c ?_ | refine lp_b ?_ | refine lp_r ?_ | refine sq_n ?_ | refine sq_r ?_ | refine fnR_n ?_ | refine fnR_r ?_ | refine if_ff ?_ | refine if_tt ?_
  | ((with_reducible apply k_if0); (case e => exact rfl))
  | ((with_reducible apply k_if1); (case e => exact rfl))
  | with_reducible refine k_if ?_
  | ((with_reducible apply w_if0); (case e => exact rfl))
  | ((with_reducible apply w_if1); (case e => exact rfl))
  | with_reducible first | refine w_if ?_ | refine w_tand ?_ | refine w_tor ?_ | refine w_tnot ?_ | refine k_for ?_
  | ((with_reducible apply w_tup); (case hl => exact Nat.le_of_ble_eq_true rfl))
  | ((with_reducible apply w_lst); (case hl => exact Nat.le_of_ble_eq_true rfl))
  | ((with_reducible apply k_rai); (case h1 => exact rfl); (case h2 => exact Nat.le_of_ble_eq_true rfl))
  | ((with_reducible apply if_r0); (case h => exact rfl))
  | ((with_reducible apply if_r1); (case h => exact rfl))
  | ((with_reducible apply W_ok); (case h => exact rfl)))

section
variable {s : Store} {E : XP} {Q : PV → Store → Prop}
/-- the least levels, under tests -/
theorem turn_b {t c n L B Tg : Nat} {a0 : PV} {p q : Pr} {lv best tog : Env} {R : Fl → Sl → Store → Prop} (f : Nat → Option PV) (hT : Tp s t c) (hn : s[n]? = some (.lst nmL)) (hnt : n ≠ t)
    (dp : p.dp ≤ 11) (dq : q.dp ≤ 11) (hLt : L ≠ t) (hBt : B ≠ t) (hTt : Tg ≠ t) (lv0 : ∀ x, 0 ≤ lv x) (lv3 : ∀ x, lv x ≤ 3) (b0 : ∀ x, 0 ≤ best x)
    (eL : s[L]? = some (.dct (mkD ab lv))) (eB : s[B]? = some (.dct (mkD ab best))) (eT : s[Tg]? = some (.dct (mkD ab tog))) (hB : Lst p lv best) (hTg : Lst (.seq p q) lv tog)
    (hq : ∀ (f : Nat → Option PV) (s' : Store), Tp s' t c → Kp t s s' → SW (cB [[cAsg 16 (eDct [.inr "a", .inr "b", .inr "c", .inr "d"] [kst (.str "c"), kst (.str "a"), kst (.str "d"), kst (.str "b")]), cAsg 17 (eCall (bltP .dict) [eLc (eTup [e2 ixP (sl 16) (sl 14), e2 ixP (sl 6) (sl 14)]) (Tgt.run (.nm 14)) (tYes) (sWalk (sl 2)) [14]]), cIf (tCmp .NotEq (eCall (callN tab 174 3) [eCall (callN tab 174 15) [sl 4, sl 16], sl 17]) (sl 7)) (cBlk [cRet (kst (.bl false))]) (cBlk []), cAsg 18 (eCall (bltP .dict) [eLc (eTup [sl 14, eCall (callN tab 174 11) [sl 1, kst (.int 4)]]) (Tgt.run (.nm 14)) (tYes) (sWalk (sl 2)) [14]]), cPar [eCall (callN tab 174 9) [sl 4, sl 18, kst (.int 150)], eCall (callN tab 174 9) [eCall (callN tab 174 15) [sl 4, sl 16], eCall (bltP .dict) [eLc (eTup [e2 ixP (sl 16) (sl 14), e2 ixP (sl 18) (sl 14)]) (Tgt.run (.nm 14)) (tYes) (sWalk (sl 2)) [14]], kst (.int 150)]] (Tgt.run (.tup [.nm 19, .nm 20])), cIf (tOr (tCmp .NotEq (eCmp .Is (sl 19) (kst (.non))) (eCmp .Is (sl 20) (kst (.non)))) (tAnd (tCmp .IsNot (sl 19) (kst (.non))) (tCmp .NotEq (sl 20) (eCall (bltP .dict) [eLc (eTup [e2 ixP (sl 16) (sl 14), e2 ixP (sl 19) (sl 14)]) (Tgt.run (.nm 14)) (tYes) (sWalk (sl 2)) [14]])))) (cBlk [cRet (kst (.bl false))]) (cBlk []), cAsg 21 (eCall (callN tab 174 9) [eTup [kst (.str "then"), sl 4, sl 5], sl 18, kst (.int 150)]), cAsg 22 (eCall (callN tab 174 9) [sl 4, sl 18, kst (.int 150)]), cAsg 23 (eIf (tCmp .IsNot (sl 22) (kst (.non))) (eCall (callN tab 174 9) [sl 5, sl 22, kst (.int 150)]) (kst (.non))), cIf (tAnd (tCmp .IsNot (sl 21) (kst (.non))) (tCmp .NotEq (sl 21) (sl 23))) (cBlk [cRet (kst (.bl false))]) (cBlk [])]]) [some a0, some (.ref t), some (.ref n), f 3, some p.pv, some q.pv, some (.ref L), some (kpV p lv), f 8, f 9, f 10, f 11, f 12, f 13, f 14, f 15, f 16, f 17, f 18, f 19, f 20, f 21, f 22, f 23] s' R E) :
    SW (cB [[cIf (tOr3 (tTru (eCall (bltP .any) [eLc (eCmp .Lt (e2 ixP (sl 12) (sl 14)) (eCall (bltP .max) [e2 ixP (sl 10) (sl 14), e2 ixP (eCall (callN tab 174 4) [sl 5, sl 6]) (sl 14)])) (Tgt.run (.nm 14)) (tYes) (sWalk (sl 2)) [14]])) (tCmp .IsNot (eCall (callN tab 174 3) [sl 4, sl 12]) (kst (.non))) (tCmp .IsNot (eCall (callN tab 174 3) [sl 5, sl 12]) (kst (.non)))) (cBlk [cRet (kst (.bl false))]) (cBlk []), cAsg 13 (eLc (e2 ixP (sl 10) (sl 14)) (Tgt.run (.nm 14)) (tYes) (sWalk (eCall (callN tab 174 14) [sl 4])) [14]), cFor (sWalk (sl 2)) (Tgt.run (.nm 14)) (b_law_2 (callN tab 174) (iniN tab 174)), cAsg 16 (eDct [.inr "a", .inr "b", .inr "c", .inr "d"] [kst (.str "c"), kst (.str "a"), kst (.str "d"), kst (.str "b")]), cAsg 17 (eCall (bltP .dict) [eLc (eTup [e2 ixP (sl 16) (sl 14), e2 ixP (sl 6) (sl 14)]) (Tgt.run (.nm 14)) (tYes) (sWalk (sl 2)) [14]]), cIf (tCmp .NotEq (eCall (callN tab 174 3) [eCall (callN tab 174 15) [sl 4, sl 16], sl 17]) (sl 7)) (cBlk [cRet (kst (.bl false))]) (cBlk []), cAsg 18 (eCall (bltP .dict) [eLc (eTup [sl 14, eCall (callN tab 174 11) [sl 1, kst (.int 4)]]) (Tgt.run (.nm 14)) (tYes) (sWalk (sl 2)) [14]]), cPar [eCall (callN tab 174 9) [sl 4, sl 18, kst (.int 150)], eCall (callN tab 174 9) [eCall (callN tab 174 15) [sl 4, sl 16], eCall (bltP .dict) [eLc (eTup [e2 ixP (sl 16) (sl 14), e2 ixP (sl 18) (sl 14)]) (Tgt.run (.nm 14)) (tYes) (sWalk (sl 2)) [14]], kst (.int 150)]] (Tgt.run (.tup [.nm 19, .nm 20])), cIf (tOr (tCmp .NotEq (eCmp .Is (sl 19) (kst (.non))) (eCmp .Is (sl 20) (kst (.non)))) (tAnd (tCmp .IsNot (sl 19) (kst (.non))) (tCmp .NotEq (sl 20) (eCall (bltP .dict) [eLc (eTup [e2 ixP (sl 16) (sl 14), e2 ixP (sl 19) (sl 14)]) (Tgt.run (.nm 14)) (tYes) (sWalk (sl 2)) [14]])))) (cBlk [cRet (kst (.bl false))]) (cBlk []), cAsg 21 (eCall (callN tab 174 9) [eTup [kst (.str "then"), sl 4, sl 5], sl 18, kst (.int 150)]), cAsg 22 (eCall (callN tab 174 9) [sl 4, sl 18, kst (.int 150)]), cAsg 23 (eIf (tCmp .IsNot (sl 22) (kst (.non))) (eCall (callN tab 174 9) [sl 5, sl 22, kst (.int 150)]) (kst (.non))), cIf (tAnd (tCmp .IsNot (sl 21) (kst (.non))) (tCmp .NotEq (sl 21) (sl 23))) (cBlk [cRet (kst (.bl false))]) (cBlk [])]]) [some a0, some (.ref t), some (.ref n), f 3, some p.pv, some q.pv, some (.ref L), some (kpV p lv), f 8, f 9, some (.ref B), f 11, some (.ref Tg), f 13, f 14, f 15, f 16, f 17, f 18, f 19, f 20, f 21, f 22, f 23] s R E := by
  refine k_if ?_
  refine w_tor3 ?_
  refine w_tor ?_
  repeat infer_instance
  refine w_walkL (lst_of hn) ?_
  refine anyC hT hn hnt (len4 hn) (fun x s1 Q' T1 k1 q' => ?_) fun s1 T1 k1 => ?_
  · repeat infer_instance
    refine w_get (k1.get eT hTt) (dget_mk (fullA.all x)) ?_
    repeat infer_instance
    refine w_get (k1.get eB hBt) (dget_mk (fullA.all x)) ?_
    repeat infer_instance
    refine least_ok (d := 173) fullA (k1.get eL hLt) (by omega) (by omega) lv0 lv3 fun G gg s2 hG _ _ eG g2 _ l2 => ?_
    repeat infer_instance
    refine w_get eG (dget_mk (fullA.all x)) ?_
    repeat infer_instance
    have : mx (best x) (gg x) ≤ tog x := mx_le.mpr ⟨hB.least _ hTg.le hTg.ok.1 x, hG.least _ hTg.le hTg.ok.2 x⟩
    rw [show (if gg x > best x then gg x else best x) = mx (best x) (gg x) from rfl, lt_false this]
    exact q' s2 (T1.keep g2) (g2.toKp l2)
  repeat infer_instance
  refine keeps_ok (d := 173) fullA (k1.get eT hTt) (by omega) (by omega) ?_
  rw [kp_none hTg.ok.1]
  repeat infer_instance
  refine keeps_ok (d := 173) fullA (k1.get eT hTt) (by omega) (by omega) ?_
  rw [kp_none hTg.ok.2]
  repeat infer_instance
  refine sets_ok p 174 s1 _ _ (by omega) (by omega) fun m s2 e2 g2 l2 => ?_
  have T2 : Tp s2 t c := T1.keep g2
  have ht := T2.lt
  have htc := T2.ltc
  have k12 := k1.trans (g2.toKp l2)
  have eB2 := k12.get eB hBt
  have hn2 := k12.get hn hnt
  refine w_walkL (lst_of e2) ?_
  have hl2 : lenI s2 (.live m) = (stL p).length := by
    show ((lstOf s2 m).getD []).length = _
    rw [lst_of e2]
    rfl
  have hst : (stL p).length ≤ 2 ^ 12 := by
    have := sets_len p
    have : 2 ^ p.dp ≤ 2 ^ 12 := Nat.pow_le_pow_right (by decide) (by omega)
    unfold stL
    rw [List.length_map]
    omega
  refine w_lcR (t := t) (items := stL p) (fun s3 => Gr s2 s3) (fun v y => ∀ x : Nm, v = .str x.s → y = .int (best x)) (by simp) (by omega) Gr.push (fun s3 g3 i => ?_) (fun s3 s4 g3 k4 => g3.kp k4 (Nat.le_refl _)) (by omega) (by omega) ?_ ?_
  · show (lstOf s3 m).map (·[i]?) = _
    rw [lst_of (g3 _ _ e2)]
    rfl
  · intro v hv s3 Q' g3 q'
    obtain ⟨x, _, rfl⟩ := List.mem_map.mp hv
    repeat infer_instance
    refine w_get (g3 _ _ eB2) (dget_mk (fullA.all x)) ?_
    exact q' _ s3 (fun y e => by cases Nm.inj (PV.str.inj e); rfl) g3 .refl
  intro ys s3 hF eM g3 _ l3
  have hys : ys = ((sets p).map best).map .int := by
    have : ∀ (l : List Nm) (ys : List PV), F2 (fun (v y : PV) => ∀ x : Nm, v = .str x.s → y = .int (best x)) (l.map fun x => PV.str x.s) ys → ys = (l.map best).map .int := by
      intro l
      induction l with
      | nil => intro ys h; cases h; rfl
      | cons x r ih =>
        intro ys h
        cases h with
        | cons h1 h2 => rw [h1 x rfl, ih _ h2]; rfl
    exact this _ _ hF
  rw [hys] at eM
  have T3 : Tp s3 t c := T2.keep g3
  have l3' : s2.length ≤ s3.length := by simp at l3; omega
  have k13 := k12.trans (g3.toKp l3')
  have hn3 := g3 _ _ hn2
  have eB3 := g3 _ _ eB2
  have hMt : s2.length ≠ t := by omega
  repeat infer_instance
  refine w_walkL (lst_of hn3) ?_
  refine SW_forP (fun i ρ s' => ∃ f : Nat → Option PV, ρ = [some a0, some (.ref t), some (.ref n), f 3, some p.pv, some q.pv, some (.ref L), some (kpV p lv), f 8, f 9, some (.ref B), f 11, some (.ref Tg), some (.ref s2.length), f 14, f 15, f 16, f 17, f 18, f 19, f 20, f 21, f 22, f 23] ∧ Tp s' t c ∧ Kp t s3 s') nmL ?_ ?_ ?_ _ 0 _ _ ⟨f, rfl, T3, .refl⟩ (Nat.zero_le _) (by have := len4 hn3; show List.length nmL < _; exact this)
  · rintro i ρ s' ⟨f, rfl, T', k'⟩
    show (lstOf s' n).map (·[i]?) = _
    rw [lst_of (k'.get hn3 hnt)]
    rfl
  · rintro i v ρ s' hv ⟨f, rfl, T', k'⟩
    have : ∃ x : Nm, v = .str x.s := by
      have hm : v ∈ nmL := List.mem_of_getElem? hv
      simp only [nmL, List.mem_cons, List.not_mem_nil, or_false] at hm
      rcases hm with rfl | rfl | rfl | rfl
      · exact ⟨.a, rfl⟩
      · exact ⟨.b, rfl⟩
      · exact ⟨.c, rfl⟩
      · exact ⟨.d, rfl⟩
    obtain ⟨x, rfl⟩ := this
    refine ⟨_, rfl, ?_⟩
    have eB' := k'.get eB3 hBt
    have eM' := k'.get eM hMt
    unfold b_law_2
    repeat infer_instance
    refine keeps_ok (p := .ite (.var x) p .skip) (d := 173) fullA eB' (by simp only [Pr.dp, Ex.dp]; omega) (by simp only [Pr.dp, Ex.dp]; omega) ?_
    have hok : Ok (.ite (.var x) p .skip) best 0 ↔ ∀ y ∈ sets p, best x ≤ best y := by
      show (Ok p best (mx 0 (best x)) ∧ True) ↔ _
      rw [Ok_up]
      constructor
      · rintro ⟨⟨_, h⟩, _⟩; exact h
      · intro h; exact ⟨⟨hB.ok, h⟩, trivial⟩
    have hnon : ∀ (Q' : Bool → Store → Prop), Q' (decide (∀ y ∈ sets p, best x ≤ best y)) s' → W (cmpP .Is (kpV (.ite (.var x) p .skip) best) .non) s' Q' E := by
      intro Q' q'
      unfold kpV
      cases hc : chk (.ite (.var x) p .skip) best 0 with
      | none =>
        rw [decide_eq_true (hok.mp (chk_ok.mp hc))] at q'
        exact W_ok rfl q'
      | some r =>
        rw [decide_eq_false (fun z => by rw [chk_ok.mpr (hok.mpr z)] at hc; cases hc)] at q'
        exact W_ok rfl q'
    repeat infer_instance
    refine hnon _ ?_
    refine w_or ?_
    repeat infer_instance
    have e0 : (s' ++ [SO.lst []])[s'.length]? = some (.lst (([] : List Int).map PV.int)) := by simp
    refine W_ok (a := decide ((sets p).map best = [])) (s' := s' ++ [.lst []]) ?_ ?_
    · show eqP (.ref s2.length) (.ref s'.length) (s' ++ [.lst []]) = _
      rw [eq_intsL (Gr.push _ _ eM') e0]
      cases (sets p).map best with
      | nil => rfl
      | cons a r => rfl
    by_cases he : (sets p).map best = []
    · rw [decide_eq_true he]
      repeat infer_instance
      have h0 : sets p = [] := List.map_eq_nil_iff.mp he
      refine if_r0 (by rw [h0]; simp) ?_
      repeat infer_instance
      exact ⟨fun i => ([some a0, some (.ref t), some (.ref n), f 3, some p.pv, some q.pv, some (.ref L), some (kpV p lv), f 8, f 9, some (.ref B), f 11, some (.ref Tg), f 13, some (.str x.s), some (kpV (.ite (.var x) p .skip) best), f 16, f 17, f 18, f 19, f 20, f 21, f 22, f 23]).getD i none, rfl, T'.push, k'.trans Kp.push⟩
    · rw [decide_eq_false he]
      repeat infer_instance
      refine w_get (Gr.push _ _ eB') (dget_mk (fullA.all x)) ?_
      repeat infer_instance
      obtain ⟨mm, em, hm⟩ := minL_spec he
      refine w_minL (lst_of (Gr.push _ _ eM')) (intsOf_map _) em ?_
      repeat infer_instance
      have e1 : decide (best x ≤ mm) = decide (∀ y ∈ sets p, best x ≤ best y) := by
        rw [decide_eq_decide, hm]
        simp
      refine if_r0 (by rw [e1]; simp) ?_
      repeat infer_instance
      exact ⟨fun i => ([some a0, some (.ref t), some (.ref n), f 3, some p.pv, some q.pv, some (.ref L), some (kpV p lv), f 8, f 9, some (.ref B), f 11, some (.ref Tg), f 13, some (.str x.s), some (kpV (.ite (.var x) p .skip) best), f 16, f 17, f 18, f 19, f 20, f 21, f 22, f 23]).getD i none, rfl, T'.push, k'.trans Kp.push⟩
  · rintro ρ s' ⟨f, rfl, T', k'⟩
    refine sq_n ?_
    exact hq (fun i => ([some a0, some (.ref t), some (.ref n), f 3, some p.pv, some q.pv, some (.ref L), some (kpV p lv), f 8, f 9, some (.ref B), f 11, some (.ref Tg), some (.ref s2.length), f 14, f 15, f 16, f 17, f 18, f 19, f 20, f 21, f 22, f 23]).getD i none) s' T' (k13.trans k')
end
end Zk

end
section
set_option maxHeartbeats 8000000
namespace Zk
open PySem L2 Z
local macro_rules | `(tactic| infer_instance) => `(tactic| first
  | with_reducible first
    | refine k_asg ?_ | refine k_exp ?_ | refine k_ret ?_ | refine k_pop ?_ | refine k_retN ?_ | refine k_ixSet ?_ | refine k_fldSet ?_ | refine k_aug ?_ | refine k_par ?_ | refine k_unp ?_ | refine k_pass ?_ | refine k_cont ?_ | refine k_break ?_ | refine k_rai0 ?_ | refine k_whl ?_ | refine k_in ?_ | refine k_end ?_
    | refine w_call ?_ | refine w_cons ?_ | refine w_nil ?_ | refine w_e2 ?_ | refine w_e1 ?_ | refine w_cmp ?_ | refine w_tcmp ?_ | refine w_ttru ?_ | refine w_sl ?_ | refine w_meth ?_ | refine w_dct ?_ | refine w_lc ?_ | refine w_part ?_ | refine w_walk ?_ | refine w_of ?_
    | refine lp_n ?_ | refine lp_c ?_ | refine lp_b ?_ | refine lp_r ?_ | refine sq_n ?_ | refine sq_r ?_ | refine fnR_n ?_ | refine fnR_r ?_ | refine if_ff ?_ | refine if_tt ?_
  | ((with_reducible apply k_if0); (case e => exact rfl))
  | ((with_reducible apply k_if1); (case e => exact rfl))
  | with_reducible refine k_if ?_
  | ((with_reducible apply w_if0); (case e => exact rfl))
  | ((with_reducible apply w_if1); (case e => exact rfl))
  | with_reducible first | refine w_if ?_ | refine w_tand ?_ | refine w_tor ?_ | refine w_tnot ?_ | refine k_for ?_
  | ((with_reducible apply w_tup); (case hl => exact Nat.le_of_ble_eq_true rfl))
  | ((with_reducible apply w_lst); (case hl => exact Nat.le_of_ble_eq_true rfl))
  | ((with_reducible apply k_rai); (case h1 => exact rfl); (case h2 => exact Nat.le_of_ble_eq_true rfl))
  | ((with_reducible apply if_r0); (case h => exact rfl))
  | ((with_reducible apply if_r1); (case h => exact rfl))
  | ((with_reducible apply W_ok); (case h => exact rfl)))

section
variable {s : Store} {E : XP} {Q : PV → Store → Prop}
/-- other names, runs -/
theorem turn_c {t c n L : Nat} {a0 : PV} {p q : Pr} {lv : Env} {R : Fl → Sl → Store → Prop} (f : Nat → Option PV) (hT : Tp s t c) (hn : s[n]? = some (.lst nmL)) (hnt : n ≠ t)
    (dp : p.dp ≤ 11) (dq : q.dp ≤ 11) (okp : p.ok) (okq : q.ok) (hLt : L ≠ t) (eL : s[L]? = some (.dct (mkD ab lv)))
    (hq : ∀ (f : Nat → Option PV) (s' : Store), Tp s' t c → Kp t s s' → R .next [some a0, some (.ref t), some (.ref n), f 3, f 4, f 5, f 6, f 7, f 8, f 9, f 10, f 11, f 12, f 13, f 14, f 15, f 16, f 17, f 18, f 19, f 20, f 21, f 22, f 23] s') :
    SW (cB [[cAsg 16 (eDct [.inr "a", .inr "b", .inr "c", .inr "d"] [kst (.str "c"), kst (.str "a"), kst (.str "d"), kst (.str "b")]), cAsg 17 (eCall (bltP .dict) [eLc (eTup [e2 ixP (sl 16) (sl 14), e2 ixP (sl 6) (sl 14)]) (Tgt.run (.nm 14)) (tYes) (sWalk (sl 2)) [14]]), cIf (tCmp .NotEq (eCall (callN tab 174 3) [eCall (callN tab 174 15) [sl 4, sl 16], sl 17]) (sl 7)) (cBlk [cRet (kst (.bl false))]) (cBlk []), cAsg 18 (eCall (bltP .dict) [eLc (eTup [sl 14, eCall (callN tab 174 11) [sl 1, kst (.int 4)]]) (Tgt.run (.nm 14)) (tYes) (sWalk (sl 2)) [14]]), cPar [eCall (callN tab 174 9) [sl 4, sl 18, kst (.int 150)], eCall (callN tab 174 9) [eCall (callN tab 174 15) [sl 4, sl 16], eCall (bltP .dict) [eLc (eTup [e2 ixP (sl 16) (sl 14), e2 ixP (sl 18) (sl 14)]) (Tgt.run (.nm 14)) (tYes) (sWalk (sl 2)) [14]], kst (.int 150)]] (Tgt.run (.tup [.nm 19, .nm 20])), cIf (tOr (tCmp .NotEq (eCmp .Is (sl 19) (kst (.non))) (eCmp .Is (sl 20) (kst (.non)))) (tAnd (tCmp .IsNot (sl 19) (kst (.non))) (tCmp .NotEq (sl 20) (eCall (bltP .dict) [eLc (eTup [e2 ixP (sl 16) (sl 14), e2 ixP (sl 19) (sl 14)]) (Tgt.run (.nm 14)) (tYes) (sWalk (sl 2)) [14]])))) (cBlk [cRet (kst (.bl false))]) (cBlk []), cAsg 21 (eCall (callN tab 174 9) [eTup [kst (.str "then"), sl 4, sl 5], sl 18, kst (.int 150)]), cAsg 22 (eCall (callN tab 174 9) [sl 4, sl 18, kst (.int 150)]), cAsg 23 (eIf (tCmp .IsNot (sl 22) (kst (.non))) (eCall (callN tab 174 9) [sl 5, sl 22, kst (.int 150)]) (kst (.non))), cIf (tAnd (tCmp .IsNot (sl 21) (kst (.non))) (tCmp .NotEq (sl 21) (sl 23))) (cBlk [cRet (kst (.bl false))]) (cBlk [])]]) [some a0, some (.ref t), some (.ref n), f 3, some p.pv, some q.pv, some (.ref L), some (kpV p lv), f 8, f 9, f 10, f 11, f 12, f 13, f 14, f 15, f 16, f 17, f 18, f 19, f 20, f 21, f 22, f 23] s R E := by
  repeat infer_instance
  refine ⟨by simp, ?_⟩
  have hm : mergeP [] (([Sum.inr "a", Sum.inr "b", Sum.inr "c", Sum.inr "d"] : List Key).zip [PV.str "c", .str "a", .str "d", .str "b"]) = swD := rfl
  generalize hs1 : (s ++ [SO.dct []]).set s.length (.dct (mergeP [] (([Sum.inr "a", Sum.inr "b", Sum.inr "c", Sum.inr "d"] : List Key).zip [PV.str "c", .str "a", .str "d", .str "b"]))) = s1
  have eS : s1[s.length]? = some (.dct swD) := by rw [← hs1, hm]; simp
  have g1 : Gr s s1 := fun i o e => by
    have := (List.getElem?_eq_some_iff.mp e).1
    rw [← hs1, List.getElem?_set, if_neg (by omega)]
    exact Gr.push _ _ e
  have l1 : s.length ≤ s1.length := by rw [← hs1]; simp
  have T1 : Tp s1 t c := hT.keep g1
  have k1 : Kp t s s1 := g1.toKp l1
  have hSt : s.length ≠ t := by have := hT.lt; omega
  have hn1 := g1 _ _ hn
  have eL1 := g1 _ _ eL
  repeat infer_instance
  refine w_walkL (lst_of hn1) ?_
  refine dictS T1 hn1 hnt (len4 hn1) lv (fun x s2 Q' T2 k2 q' => ?_) fun mv M s2 hmv eM T2 k2 hMt => ?_
  · repeat infer_instance
    refine w_get (k2.get eS hSt) (dget_sw x) ?_
    repeat infer_instance
    refine w_get (k2.get eL1 hLt) (dget_mk (fullA.all x)) ?_
    repeat infer_instance
    exact q' s2 T2 .refl
  repeat infer_instance
  have eS2 := k2.get eS hSt
  refine ren_pr p 174 s2 _ _ eS2 (by omega) fun s3 g3 l3 => ?_
  repeat infer_instance
  refine keeps_ok (p := p.ren) (d := 173) fullC (g3 _ _ eM) (by rw [prdp_ren]; omega) (by rw [prdp_ren]; omega) ?_
  have hkk : kpV p.ren mv = kpV p lv := by unfold kpV; rw [chk_ren hmv]
  repeat infer_instance
  refine w_nePth kp_pth hkk ?_
  repeat infer_instance
  -- values
  have T3 : Tp s3 t c := T2.keep g3
  have k13 : Kp t s1 s3 := k2.trans (g3.toKp l3)
  have hn3 := k13.get hn1 hnt
  have eS3 := g3 _ _ eS2
  refine w_walkL (lst_of hn3) ?_
  refine dictC T3 hn3 hnt (len4 hn3) (fun _ i => Bd i) (fun x s4 Q' T4 k4 q' => ?_) fun vv V s4 hvv eV T4 k4 hVt => ?_
  · repeat infer_instance
    refine tk T4 (by decide) (by decide) fun r s5 a1 a2 T5 k5 l5 => ?_
    repeat infer_instance
    exact q' r s5 (bd4 a1 a2) T5 k5
  have k14 := k13.trans k4
  have hn4 := k4.get hn3 hnt
  have eS4 := k4.get eS3 hSt
  -- what stands behind the two runs
  have rest : ∀ (s5 : Store) (x19 x20 : Option PV), Tp s5 t c → Kp t s4 s5 → SW (cB [[cAsg 21 (eCall (callN tab 174 9) [eTup [kst (.str "then"), sl 4, sl 5], sl 18, kst (.int 150)]), cAsg 22 (eCall (callN tab 174 9) [sl 4, sl 18, kst (.int 150)]), cAsg 23 (eIf (tCmp .IsNot (sl 22) (kst (.non))) (eCall (callN tab 174 9) [sl 5, sl 22, kst (.int 150)]) (kst (.non))), cIf (tAnd (tCmp .IsNot (sl 21) (kst (.non))) (tCmp .NotEq (sl 21) (sl 23))) (cBlk [cRet (kst (.bl false))]) (cBlk [])]]) [some a0, some (.ref t), some (.ref n), f 3, some p.pv, some q.pv, some (.ref L), some (kpV p lv), f 8, f 9, f 10, f 11, f 12, f 13, f 14, f 15, some (.ref s.length), some (.ref M), some (.ref V), x19, x20, f 21, f 22, f 23] s5 R E := by
    intro s5 x19 x20 T5 k5
    have eV5 := k5.get eV hVt
    have fin : ∀ (s6 : Store) (x21 x22 x23 : Option PV), Tp s6 t c → Kp t s5 s6 → R .next [some a0, some (.ref t), some (.ref n), f 3, some p.pv, some q.pv, some (.ref L), some (kpV p lv), f 8, f 9, f 10, f 11, f 12, f 13, f 14, f 15, some (.ref s.length), some (.ref M), some (.ref V), x19, x20, x21, x22, x23] s6 := fun s6 x21 x22 x23 T6 k6 =>
      hq (fun i => ([some a0, some (.ref t), some (.ref n), f 3, some p.pv, some q.pv, some (.ref L), some (kpV p lv), f 8, f 9, f 10, f 11, f 12, f 13, f 14, f 15, some (.ref s.length), some (.ref M), some (.ref V), x19, x20, x21, x22, x23]).getD i none) s6 T6 (k1.trans (k14.trans (k5.trans k6)))
    repeat infer_instance
    refine run_ok (p := .seq p q) (fu := 150) (d := 168) fullA eV5 ⟨okp, okq⟩ hvv (by decide) (fun m w s6 W1 c6 e6 hw6 g6 l6 => ?_) fun s6 c6 g6 l6 => ?_
    · -- both end
      have T6 : Tp s6 t c := T5.keep g6
      have k6 : Kp t s5 s6 := g6.toKp l6
      have eV6 := g6 _ _ eV5
      obtain ⟨m1, w1, h1, m2, h2⟩ : ∃ m1 w1, runD 168 150 p vv = some (m1, w1) ∧ ∃ m2, runD 168 150 q w1 = some (m2, w) := by
        have c6 : (match runD 167 149 p vv with
          | some (m, w) => runD 167 m q w
          | none => none) = some (m, w) := c6
        cases e1 : runD 167 149 p vv with
        | none => rw [e1] at c6; cases c6
        | some r =>
          obtain ⟨m1, w1⟩ := r
          rw [e1] at c6
          have lt := runD_le e1
          have r1 := runD_more e1 168 1 (by decide)
          have r2 := runD_more c6 168 (150 - m1) (by decide)
          rw [show m1 + (150 - m1) = 150 by omega] at r2
          exact ⟨m1 + 1, w1, r1, _, r2⟩
      repeat infer_instance
      refine run_ok (fu := 150) (d := 168) fullA eV6 okp hvv (by decide) (fun m' w' s7 W2 c7 e7 hw7 g7 l7 => ?_) fun s7 c7 _ _ => ?_
      · rw [h1] at c7
        cases c7
        repeat infer_instance
        refine run_ok (fu := 150) (d := 168) fullA e7 okq hw7 (by decide) (fun m' w' s8 W3 c8 e8 hw8 g8 l8 => ?_) fun s8 c8 _ _ => ?_
        · rw [h2] at c8
          cases c8
          repeat infer_instance
          refine w_neD fullA fullA (g8 _ _ (g7 _ _ e6)) e8 ?_
          rw [eqE_iff.mpr rfl]
          repeat infer_instance
          exact fin s8 _ _ _ ((T6.keep g7).keep g8) (k6.trans ((g7.toKp l7).trans (g8.toKp l8)))
        · rw [h2] at c8; cases c8
      · rw [h1] at c7; cases c7
    · have T6 : Tp s6 t c := T5.keep g6
      have k6 : Kp t s5 s6 := g6.toKp l6
      have eV6 := g6 _ _ eV5
      repeat infer_instance
      refine run_ok (fu := 150) (d := 168) fullA eV6 okp hvv (by decide) (fun m' w' s7 W2 c7 e7 hw7 g7 l7 => ?_) fun s7 c7 g7 l7 => ?_
      · repeat infer_instance
        refine run_ok (fu := 150) (d := 168) fullA e7 okq hw7 (by decide) (fun m' w' s8 W3 c8 e8 hw8 g8 l8 => ?_) fun s8 c8 g8 l8 => ?_
        · repeat infer_instance
          exact fin s8 _ _ _ ((T6.keep g7).keep g8) (k6.trans ((g7.toKp l7).trans (g8.toKp l8)))
        · repeat infer_instance
          exact fin s8 _ _ _ ((T6.keep g7).keep g8) (k6.trans ((g7.toKp l7).trans (g8.toKp l8)))
      · repeat infer_instance
        exact fin s7 _ _ _ (T6.keep g7) (k6.trans (g7.toKp l7))
  -- the two runs
  have second : ∀ (s5 : Store) (Q' : PV → Store → Prop), Tp s5 t c → Kp t s4 s5 →
      (∀ m w s6 k, runD 168 150 p.ren (unsw vv) = some (m, w) → s6[k]? = some (.dct (mkD cadb w)) → Tp s6 t c → Kp t s5 s6 → k ≠ t → Q' (.ref k) s6) → (∀ s6, runD 168 150 p.ren (unsw vv) = none → Tp s6 t c → Kp t s5 s6 → Q' .non s6) →
      W (eCall (callN tab 174 9) [eCall (callN tab 174 15) [sl 4, sl 16], eCall (bltP .dict) [eLc (eTup [e2 ixP (sl 16) (sl 14), e2 ixP (sl 18) (sl 14)]) (Tgt.run (.nm 14)) (tYes) (sWalk (sl 2)) [14]], kst (.int 150)] [some a0, some (.ref t), some (.ref n), f 3, some p.pv, some q.pv, some (.ref L), some (kpV p lv), f 8, f 9, f 10, f 11, f 12, f 13, f 14, f 15, some (.ref s.length), some (.ref M), some (.ref V), f 19, f 20, f 21, f 22, f 23]) s5 Q' E := by
    intro s5 Q' T5 k5 q1 q2
    repeat infer_instance
    refine ren_pr p 174 s5 _ _ (k5.get eS4 hSt) (by omega) fun s6 g6 l6 => ?_
    have T6 : Tp s6 t c := T5.keep g6
    have k6 : Kp t s4 s6 := k5.trans (g6.toKp l6)
    have hn6 := k6.get hn4 hnt
    repeat infer_instance
    refine w_walkL (lst_of hn6) ?_
    refine dictS T6 hn6 hnt (len4 hn6) vv (fun x s7 Q'' T7 k7 q' => ?_) fun ww Wd s7 hww eW T7 k7 hWt => ?_
    · repeat infer_instance
      refine w_get (k7.get (k6.get eS4 hSt) hSt) (dget_sw x) ?_
      repeat infer_instance
      refine w_get (k7.get (k6.get eV hVt) hVt) (dget_mk (fullA.all x)) ?_
      repeat infer_instance
      exact q' s7 T7 .refl
    have hwu : ww = unsw vv := funext fun y => by
      have : ∀ y, ∃ x, y = sw x := fun y => by cases y <;> first | exact ⟨.a, rfl⟩ | exact ⟨.b, rfl⟩ | exact ⟨.c, rfl⟩ | exact ⟨.d, rfl⟩
      obtain ⟨x, rfl⟩ := this y
      rw [hww]
      cases x <;> rfl
    subst hwu
    repeat infer_instance
    refine run_ok (fu := 150) (d := 168) fullC eW (prok_ren p okp) (fun y => by cases y <;> exact hvv _) (by decide) (fun m w s8 K c8 e8 _ g8 l8 => ?_) fun s8 c8 g8 l8 => ?_
    · refine q1 m w s8 K c8 e8 (T7.keep g8) ((g6.toKp l6).trans (k7.trans (g8.toKp l8))) fun e => ?_
      subst e
      obtain ⟨a, l, sd, sa, xs, z1, z2, z3⟩ := (T7.keep g8).ex
      rw [z1] at e8
      have := congrArg (fun o => match o with
        | some (SO.dct ((_, .ref _) :: _)) => true
        | _ => false) e8
      cases this
    · exact q2 s8 c8 (T7.keep g8) ((g6.toKp l6).trans (k7.trans (g8.toKp l8)))
  have hre := run_ren 168 150 p vv (unsw vv) (fun x => by cases x <;> rfl)
  refine k_par ?_
  refine w_cons ?_
  repeat infer_instance
  refine run_ok (fu := 150) (d := 168) fullA eV okp hvv (by decide) (fun m w s5 K c5 e5 hw5 g5 l5 => ?_) fun s5 c5 g5 l5 => ?_
  · have T5 : Tp s5 t c := T4.keep g5
    have k5 : Kp t s4 s5 := g5.toKp l5
    have hKt : K ≠ t := fun e => by
      subst e
      obtain ⟨a, l, sd, sa, xs, z1, z2, z3⟩ := T5.ex
      rw [z1] at e5
      have := congrArg (fun o => match o with
        | some (SO.dct ((_, .ref _) :: _)) => true
        | _ => false) e5
      cases this
    rw [c5] at hre
    refine w_cons ?_
    refine second s5 _ T5 k5 (fun m2 w2 s6 K2 c6 e6 T6 k6 hK2 => ?_) fun s6 c6 T6 k6 => ?_
    · rw [c6] at hre
      obtain ⟨_, hww⟩ := hre
      refine w_nil ?_
      refine ⟨_, rfl, ?_⟩
      have hn6 := k6.get (k5.get hn4 hnt) hnt
      repeat infer_instance
      refine w_walkL (lst_of hn6) ?_
      refine dictS T6 hn6 hnt (len4 hn6) w (fun x s7 Q'' T7 k7 q' => ?_) fun hd D s7 hhd eD T7 k7 hDt => ?_
      · repeat infer_instance
        refine w_get (k7.get (k6.get (k5.get eS4 hSt) hSt) hSt) (dget_sw x) ?_
        repeat infer_instance
        refine w_get (k7.get (k6.get e5 hKt) hKt) (dget_mk (fullA.all x)) ?_
        repeat infer_instance
        exact q' s7 T7 .refl
      have : w2 = hd := funext fun y => by
        have : ∀ y, ∃ x, y = sw x := fun y => by cases y <;> first | exact ⟨.a, rfl⟩ | exact ⟨.b, rfl⟩ | exact ⟨.c, rfl⟩ | exact ⟨.d, rfl⟩
        obtain ⟨x, rfl⟩ := this y
        rw [hww, hhd]
      subst this
      repeat infer_instance
      refine w_neD fullC fullC (k7.get e6 hK2) eD ?_
      rw [eqE_iff.mpr rfl]
      refine if_ff ?_
      refine k_pop ?_
      exact rest s7 _ _ T7 (k5.trans (k6.trans k7))
    · rw [c6] at hre
      exact hre.elim
  · have T5 : Tp s5 t c := T4.keep g5
    have k5 : Kp t s4 s5 := g5.toKp l5
    rw [c5] at hre
    refine w_cons ?_
    refine second s5 _ T5 k5 (fun m2 w2 s6 K2 c6 e6 T6 k6 hK2 => ?_) fun s6 c6 T6 k6 => ?_
    · rw [c6] at hre
      exact hre.elim
    · refine w_nil ?_
      refine ⟨_, rfl, ?_⟩
      refine k_if0 rfl ?_
      refine k_pop ?_
      exact rest s6 _ _ T6 (k5.trans k6)
end
end Zk

end
section
set_option maxHeartbeats 8000000
namespace Zk
open PySem L2 Z
local macro_rules | `(tactic| infer_instance) => `(tactic| first
  | with_reducible first
    | refine k_asg ?_ | refine k_exp ?_ | refine k_ret ?_ | refine k_pop ?_ | refine k_retN ?_ | refine k_ixSet ?_ | refine k_fldSet ?_ | refine k_aug ?_ | refine k_par ?_ | refine k_unp ?_ | refine k_pass ?_ | refine k_cont ?_ | refine k_break ?_ | refine k_rai0 ?_ | refine k_whl ?_ | refine k_in ?_ | refine k_end ?_
    | refine w_call ?_ | refine w_cons ?_ | refine w_nil ?_ | refine w_e2 ?_ | refine w_e1 ?_ | refine w_cmp ?_ | refine w_tcmp ?_ | refine w_ttru ?_ | refine w_sl ?_ | refine w_meth ?_ | refine w_dct ?_ | refine w_lc ?_ | refine w_part ?_ | refine w_walk ?_ | refine w_of ?_
    | refine lp_n ?_ | refine lp_c ?_ | refine lp_b ?_ | refine lp_r ?_ | refine sq_n ?_ | refine sq_r ?_ | refine fnR_n ?_ | refine fnR_r ?_ | refine if_ff ?_ | refine if_tt ?_
  | ((with_reducible apply k_if0); (case e => exact rfl))
  | ((with_reducible apply k_if1); (case e => exact rfl))
  | with_reducible refine k_if ?_
  | ((with_reducible apply w_if0); (case e => exact rfl))
  | ((with_reducible apply w_if1); (case e => exact rfl))
  | with_reducible first | refine w_if ?_ | refine w_tand ?_ | refine w_tor ?_ | refine w_tnot ?_ | refine k_for ?_
  | ((with_reducible apply w_tup); (case hl => exact Nat.le_of_ble_eq_true rfl))
  | ((with_reducible apply w_lst); (case hl => exact Nat.le_of_ble_eq_true rfl))
  | ((with_reducible apply k_rai); (case h1 => exact rfl); (case h2 => exact Nat.le_of_ble_eq_true rfl))
  | ((with_reducible apply if_r0); (case h => exact rfl))
  | ((with_reducible apply if_r1); (case h => exact rfl))
  | ((with_reducible apply W_ok); (case h => exact rfl)))

section
variable {s : Store} {E : XP} {Q : PV → Store → Prop}
theorem w_rg1 {n : Int} {Q : Sc → Store → Prop} (h : inRange n = true) (q : Q (.items (rangeL n.toNat 0)) s) : W (rg1 [.int n]) s Q E := by rw [W_rg1 h]; exact q
/-- a turn of the law -/
theorem turn_a {t c n : Nat} {a0 : PV} {R : Fl → Sl → Store → Prop} (f : Nat → Option PV) (hT : Tp s t c) (hn : s[n]? = some (.lst nmL)) (hnt : n ≠ t)
    (hq : ∀ (g : Nat → Option PV) (s' : Store), Tp s' t c → Kp t s s' → R .next [some a0, some (.ref t), some (.ref n), g 3, g 4, g 5, g 6, g 7, g 8, g 9, g 10, g 11, g 12, g 13, g 14, g 15, g 16, g 17, g 18, g 19, g 20, g 21, g 22, g 23] s') :
    SW (b_law_1 (callN tab 174) (iniN tab 174)) [some a0, some (.ref t), some (.ref n), f 3, f 4, f 5, f 6, f 7, f 8, f 9, f 10, f 11, f 12, f 13, f 14, f 15, f 16, f 17, f 18, f 19, f 20, f 21, f 22, f 23] s R E := by
  unfold b_law_1
  repeat infer_instance
  refine prog_ok 3 173 s _ _ hT (by decide) fun p s1 okp dp T1 k1 => ?_
  repeat infer_instance
  refine prog_ok 3 173 s1 _ _ T1 (by decide) fun q s2 okq dq T2 k2 => ?_
  repeat infer_instance
  refine ⟨_, rfl, ?_⟩
  have hn2 := (k1.trans k2).get hn hnt
  repeat infer_instance
  refine w_walkL (lst_of hn2) ?_
  refine dictC T2 hn2 hnt (len4 hn2) (fun _ i => 0 ≤ i ∧ i < 4) (fun x s3 Q' T3 k3 q' => ?_) fun lv L s3 hlv eL3 T3 k3 hLt => ?_
  · repeat infer_instance
    refine tk T3 (by decide) (by decide) fun r s4 a1 a2 T4 k4 l4 => ?_
    repeat infer_instance
    exact q' r s4 ⟨a1, a2⟩ T4 k4
  have lv0 : ∀ x, 0 ≤ lv x := fun x => (hlv x).1
  have lv3 : ∀ x, lv x ≤ 3 := fun x => by have := (hlv x).2; omega
  repeat infer_instance
  refine keeps_ok (d := 173) fullA eL3 (by omega) (by omega) ?_
  repeat infer_instance
  refine keeps_ok (d := 173) fullA eL3 (by omega) (by omega) ?_
  repeat infer_instance
  refine keeps_ok (p := .seq p q) (d := 173) fullA eL3 (by simp only [Pr.dp]; omega) (by simp only [Pr.dp]; omega) ?_
  repeat infer_instance
  refine ⟨_, rfl, ?_⟩
  -- both, one, two
  have hb : ∀ (r : List PV) (Q' : PV → Store → Prop), Q' (kpV (.seq p q) lv) s3 → W (eIf (tCmp .IsNot (sl 7) (kst (.non))) (e2 (binP .Add) (eTup [kst (.int 0)]) (sl 7)) (eIf (tCmp .IsNot (sl 8) (kst (.non))) (e2 (binP .Add) (eTup [kst (.int 1)]) (sl 8)) (kst (.non)))
      [some a0, some (.ref t), some (.ref n), f 3, some p.pv, some q.pv, some (.ref L), some (kpV p lv), some (kpV q lv), some (kpV (.seq p q) lv), f 10, f 11, f 12, f 13, f 14, f 15, f 16, f 17, f 18, f 19, f 20, f 21, f 22, f 23]) s3 Q' E := by
    intro _ Q' q'
    unfold kpV at q' ⊢
    unfold chk at q'
    cases h1 : chk p lv 0 with
    | some r1 =>
      rw [h1] at q'
      repeat infer_instance
      obtain ⟨l1, rfl⟩ := chk_int h1
      have := chk_len h1
      refine w_addT (by simp only [List.length_cons, List.length_nil, List.length_map] at this ⊢; omega) ?_
      exact q'
    | none =>
      rw [h1] at q'
      cases h2 : chk q lv 0 with
      | some r2 =>
        rw [h2] at q'
        repeat infer_instance
        have := chk_len h2
        refine w_addT (by simp only [List.length_cons, List.length_nil] at this ⊢; omega) ?_
        exact q'
      | none =>
        rw [h2] at q'
        repeat infer_instance
        exact q'
  refine k_if ?_
  refine w_tcmp ?_
  refine W_ok rfl ?_
  refine hb [] _ ?_
  refine w_nePth kp_pth rfl ?_
  repeat infer_instance
  -- equal levels
  have hn3 := k3.get hn2 hnt
  refine w_walkL (lst_of hn3) ?_
  refine dictC T3 hn3 hnt (len4 hn3) (fun _ i => i = 2) (fun x s4 Q' T4 k4 q' => ?_) fun l2 L2 s4 hl2 eL4 T4 k4 _ => ?_
  · repeat infer_instance
    exact q' 2 s4 rfl T4 .refl
  repeat infer_instance
  refine keeps_ok (d := 173) fullA eL4 (by omega) (by omega) ?_
  rw [kp_none (Ok_const (B := 2) (by decide) hl2 (by decide))]
  repeat infer_instance
  -- least levels
  have eL4' := k4.get eL3 hLt
  refine least_ok (d := 173) fullA eL4' (by omega) (by omega) lv0 lv3 fun B best s5 hB b0 b3 eB5 g5 hB4 l5 => ?_
  have T5 : Tp s5 t c := T4.keep g5
  have hBt : B ≠ t := by have := T4.lt; omega
  repeat infer_instance
  refine least_ok (d := 173) fullA eB5 (by omega) (by omega) b0 b3 fun B2 best2 s6 hB2 b20 b23 eB6 g6 hB5 l6 => ?_
  have e2 : best2 = best := hB2.uniq ⟨.refl, hB.ok, fun _ hl _ => hl⟩
  repeat infer_instance
  refine w_neD fullA fullA eB6 (g6 _ _ eB5) ?_
  rw [e2, eqE_iff.mpr rfl]
  repeat infer_instance
  have T6 : Tp s6 t c := T5.keep g6
  have k36 : Kp t s3 s6 := k4.trans ((g5.toKp l5).trans (g6.toKp l6))
  have hn6 := k36.get hn3 hnt
  have eL6 := k36.get eL3 hLt
  have eB6 := g6 _ _ eB5
  -- higher levels
  refine w_walkL (lst_of hn6) ?_
  refine dictC T6 hn6 hnt (len4 hn6) (fun x i => lv x ≤ i ∧ 0 ≤ i ∧ i ≤ 3) (fun x s7 Q' T7 k7 q' => ?_) fun hi Hh s7 hhi eH7 T7 k7 hHt => ?_
  · repeat infer_instance
    refine w_get (k7.get eL6 hLt) (dget_mk (fullA.all x)) ?_
    repeat infer_instance
    refine tk T7 (by decide) (by decide) fun r s8 a1 a2 T8 k8 l8 => ?_
    repeat infer_instance
    refine q' (mx (lv x) r) s8 ⟨mx_l, Int.le_trans a1 mx_r, mx_le.mpr ⟨lv3 x, by omega⟩⟩ T8 k8
  repeat infer_instance
  have hn7 := k7.get hn6 hnt
  refine w_walkL (lst_of hn7) ?_
  refine anyC T7 hn7 hnt (len4 hn7) (fun x s8 Q' T8 k8 q' => ?_) fun s8 T8 k8 => ?_
  · repeat infer_instance
    refine least_ok (d := 173) fullA (k8.get eH7 hHt) (by omega) (by omega) (fun x => (hhi x).2.1) (fun x => (hhi x).2.2) fun G gg s9 hG _ _ eG9 g9 _ l9 => ?_
    repeat infer_instance
    refine w_get eG9 (dget_mk (fullA.all x)) ?_
    repeat infer_instance
    refine w_get (g9 _ _ (k8.get (k7.get eB6 hBt) hBt)) (dget_mk (fullA.all x)) ?_
    repeat infer_instance
    have : best x ≤ gg x := hB.least gg (fun y => Int.le_trans (hhi y).1 (hG.le y)) hG.ok x
    rw [lt_false this]
    exact q' s9 (T8.keep g9) (g9.toKp l9)
  repeat infer_instance
  -- together
  have eL8 := k8.get (k7.get eL6 hLt) hLt
  have eB8 := k8.get (k7.get eB6 hBt) hBt
  have hn8 := k8.get hn7 hnt
  refine least_ok (p := .seq p q) (d := 173) fullA eL8 (by simp only [Pr.dp]; omega) (by simp only [Pr.dp]; omega) lv0 lv3 fun Tg tog s9 hTg t0 t3 eT9 g9 hT8 l9 => ?_
  have T9 : Tp s9 t c := T8.keep g9
  have hTt : Tg ≠ t := by have := T8.lt; omega
  have hn9 := g9 _ _ hn8
  have eL9 := g9 _ _ eL8
  have eB9 := g9 _ _ eB8
  refine turn_b (p := p) (q := q) (best := best) (tog := tog) (fun i => ([some a0, some (.ref t), some (.ref n), f 3, some p.pv, some q.pv, some (.ref L), some (kpV p lv), some (kpV q lv), some (kpV (.seq p q) lv), some (.ref B), some (.ref Hh), some (.ref Tg), f 13, f 14, f 15, f 16, f 17, f 18, f 19, f 20, f 21, f 22, f 23] : List (Option PV)).getD i none) T9 hn9 hnt (by omega) (by omega) hLt hBt hTt lv0 lv3 b0 eL9 eB9 eT9 hB hTg fun f' s10 T10 k10 => ?_
  refine turn_c f' T10 (k10.get hn9 hnt) hnt (by omega) (by omega) okp okq hLt (k10.get eL9 hLt) fun f2 s11 T11 k11 => ?_
  exact hq f2 s11 T11 (k1.trans (k2.trans (k3.trans (k36.trans (k7.trans (k8.trans ((g9.toKp l9).trans (k10.trans k11))))))))
end
theorem law_holds (ns : List Int) (h : ns.length ≤ 63) : ∃ st, callN tab 175 i_law [.ref 0] [.rol (ns.map PV.int)] = .ok (.bl true) st := by
  have key : W (callN tab 175 i_law [.ref 0]) [.rol (ns.map PV.int)] (fun v _ => v = .bl true) (fun _ _ _ => False) := by
    show W (callN tab (174 + 1) 16 [.ref 0]) _ _ _
    rw [w_law 174 rfl]
    refine W_cFn ?_
    unfold b_law
    repeat infer_instance
    show W (callN tab (173 + 1) 10 [.ref 0]) _ _ _
    rw [w__law_tape 173 rfl]
    refine tape_ok (a := 0) (ns := ns) (rol_of (by rfl)) h fun t c s1 T1 k1 lt1 ge1 => ?_
    repeat infer_instance
    have T2 : Tp (s1 ++ [SO.lst nmL]) t c := T1.push
    have hn2 : (s1 ++ [SO.lst nmL])[s1.length]? = some (.lst nmL) := by simp
    have hnt : s1.length ≠ t := by omega
    refine SW_forP (fun i ρ s' => ∃ f : Nat → Option PV, ρ = [some (.ref 0), some (.ref t), some (.ref s1.length), f 3, f 4, f 5, f 6, f 7, f 8, f 9, f 10, f 11, f 12, f 13, f 14, f 15, f 16, f 17, f 18, f 19, f 20, f 21, f 22, f 23] ∧ Tp s' t c ∧ Kp t (s1 ++ [SO.lst nmL]) s') (rangeL 5 0) (fun i ρ s _ => rfl) ?_ ?_ _ 0 _ _ ⟨fun _ => none, rfl, T2, .refl⟩ (Nat.zero_le _) (by exact (by decide : 5 < 6))
    · rintro i v ρ s' hv ⟨f, rfl, T', k'⟩
      refine ⟨_, rfl, ?_⟩
      refine turn_a (a0 := .ref 0) (fun i => ([none, none, none, some v, f 4, f 5, f 6, f 7, f 8, f 9, f 10, f 11, f 12, f 13, f 14, f 15, f 16, f 17, f 18, f 19, f 20, f 21, f 22, f 23] : List (Option PV)).getD i none) T' (k'.get hn2 hnt) hnt fun g s2 T3 k3 => ?_
      exact ⟨g, rfl, T3, k'.trans k3⟩
    · rintro ρ s' ⟨f, rfl, T', k'⟩
      repeat infer_instance
      rfl
  obtain ⟨a, s', e, rfl⟩ := W_get key
  exact ⟨s', e⟩
end Zk

end
namespace Zk
open PySem L2 Z

theorem sc0 : FnScope fn0.N fn0.ps fn0.sc := ⟨rfl, rfl, rfl, by decide +kernel, rfl, by decide +kernel, by decide +kernel⟩
theorem nb0 : ∀ x ∈ fn0.N, (x == ("__debug__" : Str)) = false ∧ (x == ("__classdict__" : Str)) = false := by decide +kernel
theorem sc1 : FnScope fn1.N fn1.ps fn1.sc := ⟨rfl, rfl, rfl, by decide +kernel, rfl, by decide +kernel, by decide +kernel⟩
theorem nb1 : ∀ x ∈ fn1.N, (x == ("__debug__" : Str)) = false ∧ (x == ("__classdict__" : Str)) = false := by decide +kernel
theorem sc2 : FnScope fn2.N fn2.ps fn2.sc := ⟨rfl, rfl, rfl, by decide +kernel, rfl, by decide +kernel, by decide +kernel⟩
theorem nb2 : ∀ x ∈ fn2.N, (x == ("__debug__" : Str)) = false ∧ (x == ("__classdict__" : Str)) = false := by decide +kernel
theorem sc3 : FnScope fn3.N fn3.ps fn3.sc := ⟨rfl, rfl, rfl, by decide +kernel, rfl, by decide +kernel, by decide +kernel⟩
theorem nb3 : ∀ x ∈ fn3.N, (x == ("__debug__" : Str)) = false ∧ (x == ("__classdict__" : Str)) = false := by decide +kernel
theorem sc4 : FnScope fn4.N fn4.ps fn4.sc := ⟨rfl, rfl, rfl, by decide +kernel, rfl, by decide +kernel, by decide +kernel⟩
theorem nb4 : ∀ x ∈ fn4.N, (x == ("__debug__" : Str)) = false ∧ (x == ("__classdict__" : Str)) = false := by decide +kernel
theorem sc5 : FnScope fn5.N fn5.ps fn5.sc := ⟨rfl, rfl, rfl, by decide +kernel, rfl, by decide +kernel, by decide +kernel⟩
theorem nb5 : ∀ x ∈ fn5.N, (x == ("__debug__" : Str)) = false ∧ (x == ("__classdict__" : Str)) = false := by decide +kernel
theorem sc6 : FnScope fn6.N fn6.ps fn6.sc := ⟨rfl, rfl, rfl, by decide +kernel, rfl, by decide +kernel, by decide +kernel⟩
theorem nb6 : ∀ x ∈ fn6.N, (x == ("__debug__" : Str)) = false ∧ (x == ("__classdict__" : Str)) = false := by decide +kernel
theorem sc7 : FnScope fn7.N fn7.ps fn7.sc := ⟨rfl, rfl, rfl, by decide +kernel, rfl, by decide +kernel, by decide +kernel⟩
theorem nb7 : ∀ x ∈ fn7.N, (x == ("__debug__" : Str)) = false ∧ (x == ("__classdict__" : Str)) = false := by decide +kernel
theorem sc8 : FnScope fn8.N fn8.ps fn8.sc := ⟨rfl, rfl, rfl, by decide +kernel, rfl, by decide +kernel, by decide +kernel⟩
theorem nb8 : ∀ x ∈ fn8.N, (x == ("__debug__" : Str)) = false ∧ (x == ("__classdict__" : Str)) = false := by decide +kernel
theorem sc9 : FnScope fn9.N fn9.ps fn9.sc := ⟨rfl, rfl, rfl, by decide +kernel, rfl, by decide +kernel, by decide +kernel⟩
theorem nb9 : ∀ x ∈ fn9.N, (x == ("__debug__" : Str)) = false ∧ (x == ("__classdict__" : Str)) = false := by decide +kernel
theorem sc10 : FnScope fn10.N fn10.ps fn10.sc := ⟨rfl, rfl, rfl, by decide +kernel, rfl, by decide +kernel, by decide +kernel⟩
theorem nb10 : ∀ x ∈ fn10.N, (x == ("__debug__" : Str)) = false ∧ (x == ("__classdict__" : Str)) = false := by decide +kernel
theorem sc11 : FnScope fn11.N fn11.ps fn11.sc := ⟨rfl, rfl, rfl, by decide +kernel, rfl, by decide +kernel, by decide +kernel⟩
theorem nb11 : ∀ x ∈ fn11.N, (x == ("__debug__" : Str)) = false ∧ (x == ("__classdict__" : Str)) = false := by decide +kernel
theorem sc12 : FnScope fn12.N fn12.ps fn12.sc := ⟨rfl, rfl, rfl, by decide +kernel, rfl, by decide +kernel, by decide +kernel⟩
theorem nb12 : ∀ x ∈ fn12.N, (x == ("__debug__" : Str)) = false ∧ (x == ("__classdict__" : Str)) = false := by decide +kernel
theorem sc13 : FnScope fn13.N fn13.ps fn13.sc := ⟨rfl, rfl, rfl, by decide +kernel, rfl, by decide +kernel, by decide +kernel⟩
theorem nb13 : ∀ x ∈ fn13.N, (x == ("__debug__" : Str)) = false ∧ (x == ("__classdict__" : Str)) = false := by decide +kernel
theorem sc14 : FnScope fn14.N fn14.ps fn14.sc := ⟨rfl, rfl, rfl, by decide +kernel, rfl, by decide +kernel, by decide +kernel⟩
theorem nb14 : ∀ x ∈ fn14.N, (x == ("__debug__" : Str)) = false ∧ (x == ("__classdict__" : Str)) = false := by decide +kernel
theorem sc15 : FnScope fn15.N fn15.ps fn15.sc := ⟨rfl, rfl, rfl, by decide +kernel, rfl, by decide +kernel, by decide +kernel⟩
theorem nb15 : ∀ x ∈ fn15.N, (x == ("__debug__" : Str)) = false ∧ (x == ("__classdict__" : Str)) = false := by decide +kernel
theorem sc16 : FnScope fn16.N fn16.ps fn16.sc := ⟨rfl, rfl, rfl, by decide +kernel, rfl, by decide +kernel, by decide +kernel⟩
theorem nb16 : ∀ x ∈ fn16.N, (x == ("__debug__" : Str)) = false ∧ (x == ("__classdict__" : Str)) = false := by decide +kernel
set_option maxHeartbeats 4000000 in
theorem all_mk {w : World} {K : PySem.W.Frag} {h : Heap} {mg : Str → Option Value} {fa0 : Addr} (X : K.In h) (G : h.Ns mainGlobals mg) (hfa : mg "law" = some (.ref fa0))
    {f0 f1 f2 f3 f4 f5 f6 f7 f8 f9 f10 f11 f12 f13 f14 f15 f16 C0 C1 C2 C3 e1 ca1 cc1 wN1 : Addr} {oc0 kV0 dc0 pm0 cd0 ct0 oc1 kV1 dc1 pm1 cd1 ct1 oc2 kV2 dc2 pm2 cd2 ct2 oc3 kV3 dc3 pm3 cd3 ct3 oc4 kV4 dc4 pm4 cd4 ct4 oc5 kV5 dc5 pm5 cd5 ct5 oc6 kV6 dc6 pm6 cd6 ct6 oc7 kV7 dc7 pm7 cd7 ct7 oc8 kV8 dc8 pm8 cd8 ct8 oc9 kV9 dc9 pm9 cd9 ct9 oc10 kV10 dc10 pm10 cd10 ct10 oc11 kV11 dc11 pm11 cd11 ct11 oc12 kV12 dc12 pm12 cd12 ct12 oc13 kV13 dc13 pm13 cd13 ct13 oc14 kV14 dc14 pm14 cd14 ct14 oc15 kV15 dc15 pm15 cd15 ct15 oc16 kV16 dc16 pm16 cd16 ct16 xo1 xk1 xd1 xm1 xt1 xa1 xb1 : Value} {od0 an0 od1 an1 od2 an2 od3 an3 od4 an4 od5 an5 od6 an6 od7 an7 od8 an8 od9 an9 od10 an10 od11 an11 od12 an12 od13 an13 od14 an14 od15 an15 od16 an16 yp1 ya1 yd1 ye1 wd1 : Option Addr} {sl0 sl1 sl2 sl3 sl4 sl5 sl6 sl7 sl8 sl9 sl10 sl11 sl12 sl13 sl14 sl15 sl16 zs1 zu1 zt1 : Array (Option Value)} {uv1 : Array Value} {uf1 tk0 : Tok} {wb1 wu1 : List Value} {wn1 wq1 : Str} {ws1 : List Str} {wa1 : Bool} {wc1 : Option Bool} {w01 w11 w21 w31 w51 : Option Value}
    (u_A0 : PySem.W.nsIn K mainGlobals "HouseError" = some (some (.ref C0)))
    (u_A1 : PySem.W.nsIn K mainGlobals "TypeProblem" = some (some (.ref C1)))
    (u_A2 : PySem.W.nsIn K mainGlobals "Tired" = some (some (.ref C2)))
    (u_A3 : PySem.W.nsIn K mainGlobals "SecretRun" = some (some (.ref C3)))
    (u_a0 : PySem.W.nsIn K mainGlobals "reckon" = some (some (.ref f0)))
    (u_l0 : K.lookup f0 = some ⟨oc0, od0, .func (PySem.W.fnOf "reckon" "reckon" (defArgs st0) (defBody st0) (defScope st0) .none kV0 dc0 pm0 an0 cd0 ct0), sl0⟩)
    (u_c0 : PySem.W.codeIn K cd0 "reckon" = true)
    (u_k0 : PySem.W.keepIn K (.ref f0) = true)
    (u_a1 : PySem.W.nsIn K mainGlobals "expression_level" = some (some (.ref f1)))
    (u_l1 : K.lookup f1 = some ⟨oc1, od1, .func (PySem.W.fnOf "expression_level" "expression_level" (defArgs st1) (defBody st1) (defScope st1) .none kV1 dc1 pm1 an1 cd1 ct1), sl1⟩)
    (u_c1 : PySem.W.codeIn K cd1 "expression_level" = true)
    (u_k1 : PySem.W.keepIn K (.ref f1) = true)
    (u_a2 : PySem.W.nsIn K mainGlobals "check" = some (some (.ref f2)))
    (u_l2 : K.lookup f2 = some ⟨oc2, od2, .func (PySem.W.fnOf "check" "check" (defArgs st2) (defBody st2) (defScope st2) .none kV2 dc2 pm2 an2 cd2 ct2), sl2⟩)
    (u_c2 : PySem.W.codeIn K cd2 "check" = true)
    (u_k2 : PySem.W.keepIn K (.ref f2) = true)
    (u_a3 : PySem.W.nsIn K mainGlobals "keeps_secrets" = some (some (.ref f3)))
    (u_l3 : K.lookup f3 = some ⟨oc3, od3, .func (PySem.W.fnOf "keeps_secrets" "keeps_secrets" (defArgs st3) (defBody st3) (defScope st3) .none kV3 dc3 pm3 an3 cd3 ct3), sl3⟩)
    (u_c3 : PySem.W.codeIn K cd3 "keeps_secrets" = true)
    (u_k3 : PySem.W.keepIn K (.ref f3) = true)
    (u_a4 : PySem.W.nsIn K mainGlobals "least_levels" = some (some (.ref f4)))
    (u_l4 : K.lookup f4 = some ⟨oc4, od4, .func (PySem.W.fnOf "least_levels" "least_levels" (defArgs st4) (defBody st4) (defScope st4) .none kV4 dc4 pm4 an4 cd4 ct4), sl4⟩)
    (u_c4 : PySem.W.codeIn K cd4 "least_levels" = true)
    (u_k4 : PySem.W.keepIn K (.ref f4) = true)
    (u_a5 : PySem.W.nsIn K mainGlobals "raise_levels" = some (some (.ref f5)))
    (u_l5 : K.lookup f5 = some ⟨oc5, od5, .func (PySem.W.fnOf "raise_levels" "raise_levels" (defArgs st5) (defBody st5) (defScope st5) .none kV5 dc5 pm5 an5 cd5 ct5), sl5⟩)
    (u_c5 : PySem.W.codeIn K cd5 "raise_levels" = true)
    (u_k5 : PySem.W.keepIn K (.ref f5) = true)
    (u_a6 : PySem.W.nsIn K mainGlobals "reckoned" = some (some (.ref f6)))
    (u_l6 : K.lookup f6 = some ⟨oc6, od6, .func (PySem.W.fnOf "reckoned" "reckoned" (defArgs st6) (defBody st6) (defScope st6) .none kV6 dc6 pm6 an6 cd6 ct6), sl6⟩)
    (u_c6 : PySem.W.codeIn K cd6 "reckoned" = true)
    (u_k6 : PySem.W.keepIn K (.ref f6) = true)
    (u_a7 : PySem.W.findIn K (.ref C3) "__init__" = some (some (.ref f7)))
    (u_i7 : PySem.W.isFn K (.ref f7) = true)
    (u_l7 : K.lookup f7 = some ⟨oc7, od7, .func (PySem.W.fnOf "__init__" "SecretRun.__init__" (defArgs st7) (defBody st7) (defScope st7) .none kV7 dc7 pm7 an7 cd7 ct7), sl7⟩)
    (u_c7 : PySem.W.codeIn K cd7 "SecretRun.__init__" = true)
    (u_k7 : PySem.W.keepIn K (.ref f7) = true)
    (u_a8 : PySem.W.findIn K (.ref C3) "go" = some (some (.ref f8)))
    (u_i8 : PySem.W.isFn K (.ref f8) = true)
    (u_l8 : K.lookup f8 = some ⟨oc8, od8, .func (PySem.W.fnOf "go" "SecretRun.go" (defArgs st8) (defBody st8) (defScope st8) .none kV8 dc8 pm8 an8 cd8 ct8), sl8⟩)
    (u_c8 : PySem.W.codeIn K cd8 "SecretRun.go" = true)
    (u_k8 : PySem.W.keepIn K (.ref f8) = true)
    (u_a9 : PySem.W.nsIn K mainGlobals "run_secret" = some (some (.ref f9)))
    (u_l9 : K.lookup f9 = some ⟨oc9, od9, .func (PySem.W.fnOf "run_secret" "run_secret" (defArgs st9) (defBody st9) (defScope st9) .none kV9 dc9 pm9 an9 cd9 ct9), sl9⟩)
    (u_c9 : PySem.W.codeIn K cd9 "run_secret" = true)
    (u_k9 : PySem.W.keepIn K (.ref f9) = true)
    (u_a10 : PySem.W.nsIn K mainGlobals "_law_tape" = some (some (.ref f10)))
    (u_l10 : K.lookup f10 = some ⟨oc10, od10, .func (PySem.W.fnOf "_law_tape" "_law_tape" (defArgs st10) (defBody st10) (defScope st10) .none kV10 dc10 pm10 an10 cd10 ct10), sl10⟩)
    (u_c10 : PySem.W.codeIn K cd10 "_law_tape" = true)
    (u_k10 : PySem.W.keepIn K (.ref f10) = true)
    (u_a11 : PySem.W.nsIn K mainGlobals "_law_take" = some (some (.ref f11)))
    (u_l11 : K.lookup f11 = some ⟨oc11, od11, .func (PySem.W.fnOf "_law_take" "_law_take" (defArgs st11) (defBody st11) (defScope st11) .none kV11 dc11 pm11 an11 cd11 ct11), sl11⟩)
    (u_c11 : PySem.W.codeIn K cd11 "_law_take" = true)
    (u_k11 : PySem.W.keepIn K (.ref f11) = true)
    (u_a12 : PySem.W.nsIn K mainGlobals "_law_expression" = some (some (.ref f12)))
    (u_l12 : K.lookup f12 = some ⟨oc12, od12, .func (PySem.W.fnOf "_law_expression" "_law_expression" (defArgs st12) (defBody st12) (defScope st12) .none kV12 dc12 pm12 an12 cd12 ct12), sl12⟩)
    (u_c12 : PySem.W.codeIn K cd12 "_law_expression" = true)
    (u_k12 : PySem.W.keepIn K (.ref f12) = true)
    (u_a13 : PySem.W.nsIn K mainGlobals "_law_program" = some (some (.ref f13)))
    (u_l13 : K.lookup f13 = some ⟨oc13, od13, .func (PySem.W.fnOf "_law_program" "_law_program" (defArgs st13) (defBody st13) (defScope st13) .none kV13 dc13 pm13 an13 cd13 ct13), sl13⟩)
    (u_c13 : PySem.W.codeIn K cd13 "_law_program" = true)
    (u_k13 : PySem.W.keepIn K (.ref f13) = true)
    (u_a14 : PySem.W.nsIn K mainGlobals "_law_sets" = some (some (.ref f14)))
    (u_l14 : K.lookup f14 = some ⟨oc14, od14, .func (PySem.W.fnOf "_law_sets" "_law_sets" (defArgs st14) (defBody st14) (defScope st14) .none kV14 dc14 pm14 an14 cd14 ct14), sl14⟩)
    (u_c14 : PySem.W.codeIn K cd14 "_law_sets" = true)
    (u_k14 : PySem.W.keepIn K (.ref f14) = true)
    (u_a15 : PySem.W.nsIn K mainGlobals "_law_renamed" = some (some (.ref f15)))
    (u_l15 : K.lookup f15 = some ⟨oc15, od15, .func (PySem.W.fnOf "_law_renamed" "_law_renamed" (defArgs st15) (defBody st15) (defScope st15) .none kV15 dc15 pm15 an15 cd15 ct15), sl15⟩)
    (u_c15 : PySem.W.codeIn K cd15 "_law_renamed" = true)
    (u_k15 : PySem.W.keepIn K (.ref f15) = true)
    (u_a16 : PySem.W.nsIn K mainGlobals "law" = some (some (.ref f16)))
    (u_l16 : K.lookup f16 = some ⟨oc16, od16, .func (PySem.W.fnOf "law" "law" (defArgs st16) (defBody st16) (defScope st16) .none kV16 dc16 pm16 an16 cd16 ct16), sl16⟩)
    (u_c16 : PySem.W.codeIn K cd16 "law" = true)
    (u_k16 : PySem.W.keepIn K (.ref f16) = true)
    (u_K0 : PySem.W.keepIn K (.ref C0) = true)
    (u_B0 : PySem.W.subIn K (.ref C0) (.type "BaseException") = some true)
    (u_T0 : PySem.W.typeIn K (.ref C0) = some (.type "type"))
    (u_E0 : PySem.W.excIn K C0 [.type "ValueError", .type "Exception", .type "BaseException", .type "object"] "ValueError.__new__" = true)
    (u_K1 : PySem.W.keepIn K (.ref C1) = true)
    (u_B1 : PySem.W.subIn K (.ref C1) (.type "BaseException") = some true)
    (u_T1 : PySem.W.typeIn K (.ref C1) = some (.type "type"))
    (u_Xa1 : PySem.W.findIn K (.ref C1) "__getattribute__" = some (some (.builtin "BaseException.__getattribute__")))
    (u_Xb1 : PySem.W.findIn K (.ref C1) "__getattr__" = some none)
    (u_Xc1 : PySem.W.hasDictIn K C1 = true)
    (u_n1_0 : PySem.W.findIn K (.ref C1) "code" = some none)
    (u_n1_1 : PySem.W.findIn K (.ref C1) "path" = some none)
    (u_I1 : PySem.W.findIn K (.ref C1) "__init__" = some (some (.ref e1)))
    (u_J1 : PySem.W.typeIn K (.ref e1) = some (.type "function"))
    (u_S1 : PySem.W.findIn K (.ref C1) "__setattr__" = some (some (.builtin "object.__setattr__")))
    (u_V1 : PySem.W.subIn K (.ref C1) (.type "ValueError") = some true)
    (u_W1 : PySem.W.subIn K (.ref C1) (.ref C1) = some true)
    (u_U1 : PySem.W.ks_superIn K C1 C1 "__init__" = some (some (.builtin "ValueError.__init__")))
    (u_O1 : PySem.W.nsIn K cStatics "thirdparty.any" = some none)
    (u_Y1 : PySem.W.nsIn K mainGlobals "super" = some none)
    (u_L1 : K.lookup e1 = some ⟨xo1, yp1, .func (PySem.W.ksFn "__init__" "TypeProblem.__init__" (defArgs (inClass (top 2) 0)) (defBody (inClass (top 2) 0)) (defScope (inClass (top 2) 0)) .none xk1 xd1 xm1 ya1 (.ref ca1) xt1 cc1), zs1⟩)
    (u_D1 : PySem.W.codeIn K (.ref ca1) "TypeProblem.__init__" = true)
    (u_P1 : K.lookup ca1 = some ⟨xa1, yd1, .fields uv1, zu1⟩)
    (u_p1 : K.lookup cc1 = some ⟨xb1, ye1, .cell (some (.ref C1)), zt1⟩)
    (u_Q1 : uv1[2]? = some (.str (PySem.Challenge.pw_effecthouse_k49_whole_secrets_put_togeth).main.file uf1))
    (u_N1 : K.lookup C1 = some (PySem.excClassObj wn1 wq1 C1 wN1 wb1 [.ref C0, .type "ValueError", .type "Exception", .type "BaseException", .type "object"] true ws1 wu1 wa1 wc1 wd1 w01 w11 w21 w31 w51 "ValueError.__new__"))
    (u_K2 : PySem.W.keepIn K (.ref C2) = true)
    (u_B2 : PySem.W.subIn K (.ref C2) (.type "BaseException") = some true)
    (u_T2 : PySem.W.typeIn K (.ref C2) = some (.type "type"))
    (u_E2 : PySem.W.excIn K C2 [.type "ValueError", .type "Exception", .type "BaseException", .type "object"] "ValueError.__new__" = true)
    (u_K3 : PySem.W.keepIn K (.ref C3) = true)
    (u_pg3 : PySem.W.plainGet K C3 Str.empty = true)
    (u_hd3 : PySem.W.hasDictIn K C3 = true)
    (u_po3 : PySem.W.plainOver K C3 = true)
    (u_sa3 : PySem.W.findIn K (.ref C3) "__setattr__" = some (some (.builtin "object.__setattr__")))
    (u_mk3 : PySem.W.makesIn K C3 = true)
    (u_n3_0 : PySem.W.findIn K (.ref C3) "known" = some none)
    (u_n3_1 : PySem.W.findIn K (.ref C3) "fuel" = some none)
    (u_R0 : PySem.W.isClsIn K C0 = true)
    (u_s0_0 : PySem.W.subIn K (.ref C0) (.ref C0) = some true)
    (u_s0_1 : PySem.W.subIn K (.ref C0) (.ref C1) = some false)
    (u_s0_2 : PySem.W.subIn K (.ref C0) (.ref C2) = some false)
    (u_R1 : PySem.W.isClsIn K C1 = true)
    (u_s1_0 : PySem.W.subIn K (.ref C1) (.ref C0) = some true)
    (u_s1_1 : PySem.W.subIn K (.ref C1) (.ref C1) = some true)
    (u_s1_2 : PySem.W.subIn K (.ref C1) (.ref C2) = some false)
    (u_R2 : PySem.W.isClsIn K C2 = true)
    (u_s2_0 : PySem.W.subIn K (.ref C2) (.ref C0) = some true)
    (u_s2_1 : PySem.W.subIn K (.ref C2) (.ref C1) = some false)
    (u_s2_2 : PySem.W.subIn K (.ref C2) (.ref C2) = some true)
    (u_z0 : PySem.W.nsIn K mainGlobals "range" = some none)
    (u_z1 : PySem.W.nsIn K mainGlobals "enumerate" = some none)
    (u_z2 : PySem.W.nsIn K mainGlobals "isinstance" = some none)
    (u_z3 : PySem.W.nsIn K mainGlobals "abs" = some none)
    (u_z4 : PySem.W.nsIn K mainGlobals "int" = some none)
    (u_z5 : PySem.W.nsIn K mainGlobals "max" = some none)
    (u_z6 : PySem.W.nsIn K mainGlobals "min" = some none)
    (u_z7 : PySem.W.nsIn K mainGlobals "len" = some none)
    (u_z8 : PySem.W.nsIn K mainGlobals "any" = some none)
    (u_z9 : PySem.W.nsIn K mainGlobals "all" = some none)
    (u_z10 : PySem.W.nsIn K mainGlobals "tuple" = some none)
    (u_z11 : PySem.W.nsIn K mainGlobals "list" = some none)
    (u_z12 : PySem.W.nsIn K mainGlobals "dict" = some none)
    (u_z13 : PySem.W.nsIn K mainGlobals "bool" = some none)
    (u_z14 : PySem.W.nsIn K mainGlobals "str" = some none)
    (u_g0 : PySem.W.nsIn K mainGlobals "WHOLE" = some (some (.int 4294967296 tk0)))
    : ∃ fd : FuncData, (∀ (s : Shared) (v : Value), BindsTo s fd ⟨[v], []⟩ [("script", v)]) ∧ ∀ base : Heap, K.In base → base.Ns mainGlobals mg → FnOk PySem.Challenge.pw_effecthouse_k49_whole_secrets_put_togeth w K mg base (L2.CX PySem.Challenge.pw_effecthouse_k49_whole_secrets_put_togeth w) (175 + 2) fa0 fd ["script"] (spL tab K 175 i_law) := by
  have e : f16 = fa0 := Value.ref.inj (Option.some.inj ((PySem.W.mg_of X G u_a16).symm.trans hfa))
  subst e
  have F0 := fun_mk (st := st0) u_l0 u_c0 u_k0
  have b0 := F0.binds (ps := fn0.ps) fun _ _ _ _ _ _ us hl => match us, hl with | [_, _, _], _ => rfl
  have F1 := fun_mk (st := st1) u_l1 u_c1 u_k1
  have b1 := F1.binds (ps := fn1.ps) fun _ _ _ _ _ _ us hl => match us, hl with | [_, _, _], _ => rfl
  have F2 := fun_mk (st := st2) u_l2 u_c2 u_k2
  have b2 := F2.binds (ps := fn2.ps) fun _ _ _ _ _ _ us hl => match us, hl with | [_, _, _, _], _ => rfl
  have F3 := fun_mk (st := st3) u_l3 u_c3 u_k3
  have b3 := F3.binds (ps := fn3.ps) fun _ _ _ _ _ _ us hl => match us, hl with | [_, _], _ => rfl
  have F4 := fun_mk (st := st4) u_l4 u_c4 u_k4
  have b4 := F4.binds (ps := fn4.ps) fun _ _ _ _ _ _ us hl => match us, hl with | [_, _], _ => rfl
  have F5 := fun_mk (st := st5) u_l5 u_c5 u_k5
  have b5 := F5.binds (ps := fn5.ps) fun _ _ _ _ _ _ us hl => match us, hl with | [_, _, _], _ => rfl
  have F6 := fun_mk (st := st6) u_l6 u_c6 u_k6
  have b6 := F6.binds (ps := fn6.ps) fun _ _ _ _ _ _ us hl => match us, hl with | [_, _], _ => rfl
  have F7 := fun_mk (st := st7) u_l7 u_c7 u_k7
  have b7 := F7.binds (ps := fn7.ps) fun _ _ _ _ _ _ us hl => match us, hl with | [_, _, _], _ => rfl
  have F8 := fun_mk (st := st8) u_l8 u_c8 u_k8
  have b8 := F8.binds (ps := fn8.ps) fun _ _ _ _ _ _ us hl => match us, hl with | [_, _], _ => rfl
  have F9 := fun_mk (st := st9) u_l9 u_c9 u_k9
  have b9 := F9.binds (ps := fn9.ps) fun _ _ _ _ _ _ us hl => match us, hl with | [_, _, _], _ => rfl
  have F10 := fun_mk (st := st10) u_l10 u_c10 u_k10
  have b10 := F10.binds (ps := fn10.ps) fun _ _ _ _ _ _ us hl => match us, hl with | [_], _ => rfl
  have F11 := fun_mk (st := st11) u_l11 u_c11 u_k11
  have b11 := F11.binds (ps := fn11.ps) fun _ _ _ _ _ _ us hl => match us, hl with | [_, _], _ => rfl
  have F12 := fun_mk (st := st12) u_l12 u_c12 u_k12
  have b12 := F12.binds (ps := fn12.ps) fun _ _ _ _ _ _ us hl => match us, hl with | [_, _], _ => rfl
  have F13 := fun_mk (st := st13) u_l13 u_c13 u_k13
  have b13 := F13.binds (ps := fn13.ps) fun _ _ _ _ _ _ us hl => match us, hl with | [_, _], _ => rfl
  have F14 := fun_mk (st := st14) u_l14 u_c14 u_k14
  have b14 := F14.binds (ps := fn14.ps) fun _ _ _ _ _ _ us hl => match us, hl with | [_], _ => rfl
  have F15 := fun_mk (st := st15) u_l15 u_c15 u_k15
  have b15 := F15.binds (ps := fn15.ps) fun _ _ _ _ _ _ us hl => match us, hl with | [_, _], _ => rfl
  have F16 := fun_mk (st := st16) u_l16 u_c16 u_k16
  have b16 := F16.binds (ps := fn16.ps) fun _ _ _ _ _ _ us hl => match us, hl with | [_], _ => rfl
  refine ⟨PySem.W.fnOf "law" "law" (defArgs st16) (defBody st16) (defScope st16) .none kV16 dc16 pm16 an16 cd16 ct16, fun s v => .of_eq rfl, fun base KB GB => ?_⟩
  have M : ModOk tab PySem.Challenge.pw_effecthouse_k49_whole_secrets_put_togeth w K mg base (fun i => ([C0, C1, C2, C3] : List Addr).getD i 0) (fun i => ([f0, f1, f2, f3, f4, f5, f6, f7, f8, f9, f10, f11, f12, f13, f14, f15, f16] : List Addr).getD i 0) (fun i => ([PySem.W.fnOf "reckon" "reckon" (defArgs st0) (defBody st0) (defScope st0) .none kV0 dc0 pm0 an0 cd0 ct0, PySem.W.fnOf "expression_level" "expression_level" (defArgs st1) (defBody st1) (defScope st1) .none kV1 dc1 pm1 an1 cd1 ct1, PySem.W.fnOf "check" "check" (defArgs st2) (defBody st2) (defScope st2) .none kV2 dc2 pm2 an2 cd2 ct2, PySem.W.fnOf "keeps_secrets" "keeps_secrets" (defArgs st3) (defBody st3) (defScope st3) .none kV3 dc3 pm3 an3 cd3 ct3, PySem.W.fnOf "least_levels" "least_levels" (defArgs st4) (defBody st4) (defScope st4) .none kV4 dc4 pm4 an4 cd4 ct4, PySem.W.fnOf "raise_levels" "raise_levels" (defArgs st5) (defBody st5) (defScope st5) .none kV5 dc5 pm5 an5 cd5 ct5, PySem.W.fnOf "reckoned" "reckoned" (defArgs st6) (defBody st6) (defScope st6) .none kV6 dc6 pm6 an6 cd6 ct6, PySem.W.fnOf "__init__" "SecretRun.__init__" (defArgs st7) (defBody st7) (defScope st7) .none kV7 dc7 pm7 an7 cd7 ct7, PySem.W.fnOf "go" "SecretRun.go" (defArgs st8) (defBody st8) (defScope st8) .none kV8 dc8 pm8 an8 cd8 ct8, PySem.W.fnOf "run_secret" "run_secret" (defArgs st9) (defBody st9) (defScope st9) .none kV9 dc9 pm9 an9 cd9 ct9, PySem.W.fnOf "_law_tape" "_law_tape" (defArgs st10) (defBody st10) (defScope st10) .none kV10 dc10 pm10 an10 cd10 ct10, PySem.W.fnOf "_law_take" "_law_take" (defArgs st11) (defBody st11) (defScope st11) .none kV11 dc11 pm11 an11 cd11 ct11, PySem.W.fnOf "_law_expression" "_law_expression" (defArgs st12) (defBody st12) (defScope st12) .none kV12 dc12 pm12 an12 cd12 ct12, PySem.W.fnOf "_law_program" "_law_program" (defArgs st13) (defBody st13) (defScope st13) .none kV13 dc13 pm13 an13 cd13 ct13, PySem.W.fnOf "_law_sets" "_law_sets" (defArgs st14) (defBody st14) (defScope st14) .none kV14 dc14 pm14 an14 cd14 ct14, PySem.W.fnOf "_law_renamed" "_law_renamed" (defArgs st15) (defBody st15) (defScope st15) .none kV15 dc15 pm15 an15 cd15 ct15, PySem.W.fnOf "law" "law" (defArgs st16) (defBody st16) (defScope st16) .none kV16 dc16 pm16 an16 cd16 ct16] : List FuncData).getD i (PySem.W.fnOf "law" "law" (defArgs st16) (defBody st16) (defScope st16) .none kV16 dc16 pm16 an16 cd16 ct16)) := by
    refine ModOk.of [0, 1, 2] ?gl ?fs ?cs ?zs ?xl ?sb
    case gl => exact ⟨PySem.W.mg_of KB GB u_A0, PySem.W.mg_of KB GB u_A1, PySem.W.mg_of KB GB u_A2, ⟨_, .int 4294967296, PySem.W.mg_of KB GB u_g0, ⟨_, rfl⟩, fun _ _ => .int _⟩, ⟨PySem.W.mg_of KB GB u_a0, _, rfl⟩, ⟨PySem.W.mg_of KB GB u_a1, _, rfl⟩, ⟨PySem.W.mg_of KB GB u_a2, _, rfl⟩, ⟨PySem.W.mg_of KB GB u_a3, _, rfl⟩, ⟨PySem.W.mg_of KB GB u_a4, _, rfl⟩, ⟨PySem.W.mg_of KB GB u_a5, _, rfl⟩, ⟨PySem.W.mg_of KB GB u_a6, _, rfl⟩, PySem.W.mg_of KB GB u_A3, ⟨PySem.W.mg_of KB GB u_a9, _, rfl⟩, ⟨PySem.W.mg_of KB GB u_a10, _, rfl⟩, ⟨PySem.W.mg_of KB GB u_a11, _, rfl⟩, ⟨PySem.W.mg_of KB GB u_a12, _, rfl⟩, ⟨PySem.W.mg_of KB GB u_a13, _, rfl⟩, ⟨PySem.W.mg_of KB GB u_a14, _, rfl⟩, ⟨PySem.W.mg_of KB GB u_a15, _, rfl⟩, ⟨PySem.W.mg_of KB GB u_a16, _, rfl⟩, trivial⟩
    case fs => exact ⟨⟨u_k0, ⟨_, _, st0, F0, rfl, rfl⟩, sc0, nb0, b0⟩, ⟨u_k1, ⟨_, _, st1, F1, rfl, rfl⟩, sc1, nb1, b1⟩, ⟨u_k2, ⟨_, _, st2, F2, rfl, rfl⟩, sc2, nb2, b2⟩, ⟨u_k3, ⟨_, _, st3, F3, rfl, rfl⟩, sc3, nb3, b3⟩, ⟨u_k4, ⟨_, _, st4, F4, rfl, rfl⟩, sc4, nb4, b4⟩, ⟨u_k5, ⟨_, _, st5, F5, rfl, rfl⟩, sc5, nb5, b5⟩, ⟨u_k6, ⟨_, _, st6, F6, rfl, rfl⟩, sc6, nb6, b6⟩, ⟨u_k7, ⟨_, _, st7, F7, rfl, rfl⟩, sc7, nb7, b7⟩, ⟨u_k8, ⟨_, _, st8, F8, rfl, rfl⟩, sc8, nb8, b8⟩, ⟨u_k9, ⟨_, _, st9, F9, rfl, rfl⟩, sc9, nb9, b9⟩, ⟨u_k10, ⟨_, _, st10, F10, rfl, rfl⟩, sc10, nb10, b10⟩, ⟨u_k11, ⟨_, _, st11, F11, rfl, rfl⟩, sc11, nb11, b11⟩, ⟨u_k12, ⟨_, _, st12, F12, rfl, rfl⟩, sc12, nb12, b12⟩, ⟨u_k13, ⟨_, _, st13, F13, rfl, rfl⟩, sc13, nb13, b13⟩, ⟨u_k14, ⟨_, _, st14, F14, rfl, rfl⟩, sc14, nb14, b14⟩, ⟨u_k15, ⟨_, _, st15, F15, rfl, rfl⟩, sc15, nb15, b15⟩, ⟨u_k16, ⟨_, _, st16, F16, rfl, rfl⟩, sc16, nb16, b16⟩, trivial⟩
    case cs => exact ⟨{ ini := fun f e => (by cases e), me := trivial, fl := trivial, cl := fun e => (by cases e), no := fun _ => ⟨rfl, rfl⟩, e1 := fun _ => ⟨u_E0, u_K0, u_B0, u_T0⟩, e2 := fun fl e => (by cases e) },
      { ini := fun f e => (by cases e), me := trivial, fl := trivial, cl := fun e => (by cases e), no := fun _ => ⟨rfl, rfl⟩, e1 := fun e => (by cases e), e2 := fun fl e => (by cases e; exact ⟨rfl, ⟨e1, { cls := ⟨_, _, _, _, _, _, _, _, _, _, _, _, _, _, _, u_N1, by rfl⟩, sa := u_S1, noC := u_n1_0, noP := u_n1_1, iC := u_I1, tI := u_J1, kC := u_K1, exC := u_B1, tyC := u_T1, veC := u_V1, slf := u_W1, sup := u_U1, opq := u_O1, noS := u_Y1, top := by decide +kernel, fn := ⟨_, _, _, _, _, _, _, _, _, _, _, _, _, _, _, _, _, _, _, _, _, _, _, _, _, _, _, u_L1, u_D1, rfl, ⟨_, _, _, _, _, _, u_P1, u_Q1, by simp⟩, _, _, _, u_p1⟩ }⟩, ⟨⟨⟨u_Xa1, u_Xb1, u_B1, u_Xc1⟩, u_n1_0⟩, ⟨⟨u_Xa1, u_Xb1, u_B1, u_Xc1⟩, u_n1_1⟩, trivial⟩⟩) },
      { ini := fun f e => (by cases e), me := trivial, fl := trivial, cl := fun e => (by cases e), no := fun _ => ⟨rfl, rfl⟩, e1 := fun _ => ⟨u_E2, u_K2, u_B2, u_T2⟩, e2 := fun fl e => (by cases e) },
      { ini := fun f e => (by cases e; exact ⟨⟨u_mk3, u_a7, u_i7, u_K3⟩, _, rfl⟩), me := ⟨⟨⟨u_a8, u_i8, u_k8⟩, _, rfl⟩, trivial⟩, fl := ⟨u_n3_0, u_n3_1, trivial⟩, cl := fun _ => ⟨u_pg3, u_hd3, u_po3, u_sa3⟩, no := fun e => absurd rfl e, e1 := fun e => (by cases e), e2 := fun fl e => (by cases e) }, trivial⟩
    case zs => exact ⟨PySem.W.mg_none_of KB GB u_z0, PySem.W.mg_none_of KB GB u_z1, PySem.W.mg_none_of KB GB u_z2, PySem.W.mg_none_of KB GB u_z3, PySem.W.mg_none_of KB GB u_z4, PySem.W.mg_none_of KB GB u_z5, PySem.W.mg_none_of KB GB u_z6, PySem.W.mg_none_of KB GB u_z7, PySem.W.mg_none_of KB GB u_z8, PySem.W.mg_none_of KB GB u_z9, PySem.W.mg_none_of KB GB u_z10, PySem.W.mg_none_of KB GB u_z11, PySem.W.mg_none_of KB GB u_z12, PySem.W.mg_none_of KB GB u_z13, PySem.W.mg_none_of KB GB u_z14, trivial⟩
    case xl => exact ⟨fun e => by decide, fun e => by decide, fun e => by decide, fun e => absurd rfl e, trivial⟩
    case sb => exact ⟨⟨exm_of u_B0 u_R0 u_T0 u_s0_0, exm_of u_B1 u_R1 u_T1 u_s0_1, exm_of u_B2 u_R2 u_T2 u_s0_2, trivial⟩, ⟨exm_of u_B0 u_R0 u_T0 u_s1_0, exm_of u_B1 u_R1 u_T1 u_s1_1, exm_of u_B2 u_R2 u_T2 u_s1_2, trivial⟩, ⟨exm_of u_B0 u_R0 u_T0 u_s2_0, exm_of u_B1 u_R1 u_T1 u_s2_1, exm_of u_B2 u_R2 u_T2 u_s2_2, trivial⟩, trivial⟩
  exact law_fn M (i := i_law) (F := fn16) rfl 175
theorem walk {l : PySem.W.OpenLaw} {q : Program} {loose : List Str} {XP : (Str → Option Value) → Heap → Prop} {YP : World → Heap → Prop} {d : DefRec} {K : Params → PySem.W.Frag} (hn : l.most = some 63) (hdf : d.params.defaults = [])
    (hY : ∀ (w : World) (h : Heap), YP w h → (K w.params).In h)
    (F : ∀ (w : World) (mg : Str → Option Value) (fa : Addr) (h : Heap), (K w.params).In h → h.Ns mainGlobals mg → mg d.name = some (.ref fa) →
      ∃ fd : FuncData, (∀ (s : Shared) (u : Value), BindsTo s fd ⟨[u], []⟩ [("script", u)]) ∧ ∀ base : Heap, (K w.params).In base → base.Ns mainGlobals mg → FnOk l.prog w (K w.params) mg base (L2.CX l.prog w) (175 + 2) fa fd ["script"] (spL tab (K w.params) 175 i_law)) :
    PySem.W.WalkO q loose XP YP l.row.toRowW d [] (fun f vs => PySem.call f vs) :=
  L2.walk_of (n := 63) (k := 175 + 2) (x := "script") (CX := fun w => L2.CX l.prog w) (sp := fun w => spL tab (K w.params) 175 i_law) hn (by decide) hdf ⟨rfl, by decide, by decide⟩ hY F
    (fun _ _ a ns hl hO hS => by
      obtain ⟨st, e⟩ := law_holds ns hl
      exact ⟨a, ns, st, rfl, hO, hS, e, fun _ => rfl⟩) fun _ _ _ _ _ z => by
      obtain ⟨_, _, _, _, _, _, _, _, _, _, _, _, z⟩ := z
      exact z
end Zk

open PySem PySem.W PyProof.Rows in
set_option maxRecDepth 100000 in
set_option maxHeartbeats 0 in
theorem PySem.Challenge.cw_effecthouse_k49_whole_secrets_put_togeth_holds : PySem.Challenge.rw_effecthouse_k49_whole_secrets_put_togeth.Holds := by
  w_on; o_law; k_head; (case hw => w_witness2)
  k_fill
  refine Zk.walk (l := PySem.Challenge.rw_effecthouse_k49_whole_secrets_put_togeth) rfl rfl (fun w h Y => PySem.W.kIn_of Y) ?F
  case F =>
    intro w mg fa h KX G hmg
    refine' Zk.all_mk KX G hmg ?u_A0 ?u_A1 ?u_A2 ?u_A3 ?u_a0 ?u_l0 ?u_c0 ?u_k0 ?u_a1 ?u_l1 ?u_c1 ?u_k1 ?u_a2 ?u_l2 ?u_c2 ?u_k2 ?u_a3 ?u_l3 ?u_c3 ?u_k3 ?u_a4 ?u_l4 ?u_c4 ?u_k4 ?u_a5 ?u_l5 ?u_c5 ?u_k5 ?u_a6 ?u_l6 ?u_c6 ?u_k6 ?u_a7 ?u_i7 ?u_l7 ?u_c7 ?u_k7 ?u_a8 ?u_i8 ?u_l8 ?u_c8 ?u_k8 ?u_a9 ?u_l9 ?u_c9 ?u_k9 ?u_a10 ?u_l10 ?u_c10 ?u_k10 ?u_a11 ?u_l11 ?u_c11 ?u_k11 ?u_a12 ?u_l12 ?u_c12 ?u_k12 ?u_a13 ?u_l13 ?u_c13 ?u_k13 ?u_a14 ?u_l14 ?u_c14 ?u_k14 ?u_a15 ?u_l15 ?u_c15 ?u_k15 ?u_a16 ?u_l16 ?u_c16 ?u_k16 ?u_K0 ?u_B0 ?u_T0 ?u_E0 ?u_K1 ?u_B1 ?u_T1 ?u_Xa1 ?u_Xb1 ?u_Xc1 ?u_n1_0 ?u_n1_1 ?u_I1 ?u_J1 ?u_S1 ?u_V1 ?u_W1 ?u_U1 ?u_O1 ?u_Y1 ?u_L1 ?u_D1 ?u_P1 ?u_p1 ?u_Q1 ?u_N1 ?u_K2 ?u_B2 ?u_T2 ?u_E2 ?u_K3 ?u_pg3 ?u_hd3 ?u_po3 ?u_sa3 ?u_mk3 ?u_n3_0 ?u_n3_1 ?u_R0 ?u_s0_0 ?u_s0_1 ?u_s0_2 ?u_R1 ?u_s1_0 ?u_s1_1 ?u_s1_2 ?u_R2 ?u_s2_0 ?u_s2_1 ?u_s2_2 ?u_z0 ?u_z1 ?u_z2 ?u_z3 ?u_z4 ?u_z5 ?u_z6 ?u_z7 ?u_z8 ?u_z9 ?u_z10 ?u_z11 ?u_z12 ?u_z13 ?u_z14 ?u_g0
    (case u_A0 => k_is)
    (case u_A1 => k_is)
    (case u_A2 => k_is)
    (case u_A3 => k_is)
    (case u_a0 => k_is)
    (case u_l0 => k_is)
    (case u_c0 => k_is)
    (case u_k0 => k_is)
    (case u_a1 => k_is)
    (case u_l1 => k_is)
    (case u_c1 => k_is)
    (case u_k1 => k_is)
    (case u_a2 => k_is)
    (case u_l2 => k_is)
    (case u_c2 => k_is)
    (case u_k2 => k_is)
    (case u_a3 => k_is)
    (case u_l3 => k_is)
    (case u_c3 => k_is)
    (case u_k3 => k_is)
    (case u_a4 => k_is)
    (case u_l4 => k_is)
    (case u_c4 => k_is)
    (case u_k4 => k_is)
    (case u_a5 => k_is)
    (case u_l5 => k_is)
    (case u_c5 => k_is)
    (case u_k5 => k_is)
    (case u_a6 => k_is)
    (case u_l6 => k_is)
    (case u_c6 => k_is)
    (case u_k6 => k_is)
    (case u_a7 => k_is)
    (case u_i7 => k_is)
    (case u_l7 => k_is)
    (case u_c7 => k_is)
    (case u_k7 => k_is)
    (case u_a8 => k_is)
    (case u_i8 => k_is)
    (case u_l8 => k_is)
    (case u_c8 => k_is)
    (case u_k8 => k_is)
    (case u_a9 => k_is)
    (case u_l9 => k_is)
    (case u_c9 => k_is)
    (case u_k9 => k_is)
    (case u_a10 => k_is)
    (case u_l10 => k_is)
    (case u_c10 => k_is)
    (case u_k10 => k_is)
    (case u_a11 => k_is)
    (case u_l11 => k_is)
    (case u_c11 => k_is)
    (case u_k11 => k_is)
    (case u_a12 => k_is)
    (case u_l12 => k_is)
    (case u_c12 => k_is)
    (case u_k12 => k_is)
    (case u_a13 => k_is)
    (case u_l13 => k_is)
    (case u_c13 => k_is)
    (case u_k13 => k_is)
    (case u_a14 => k_is)
    (case u_l14 => k_is)
    (case u_c14 => k_is)
    (case u_k14 => k_is)
    (case u_a15 => k_is)
    (case u_l15 => k_is)
    (case u_c15 => k_is)
    (case u_k15 => k_is)
    (case u_a16 => k_is)
    (case u_l16 => k_is)
    (case u_c16 => k_is)
    (case u_k16 => k_is)
    (case u_K0 => k_is)
    (case u_B0 => k_is)
    (case u_T0 => k_is)
    (case u_E0 => k_exc)
    (case u_K1 => k_is)
    (case u_B1 => k_is)
    (case u_T1 => k_is)
    (case u_Xa1 => k_is)
    (case u_Xb1 => k_is)
    (case u_Xc1 => k_is)
    (case u_n1_0 => k_is)
    (case u_n1_1 => k_is)
    (case u_I1 => k_is)
    (case u_J1 => k_is)
    (case u_S1 => k_is)
    (case u_V1 => k_is)
    (case u_W1 => k_is)
    (case u_U1 => ks_is)
    (case u_O1 => k_is)
    (case u_Y1 => k_is)
    (case u_L1 => k_is)
    (case u_D1 => k_is)
    (case u_P1 => k_is)
    (case u_p1 => k_is)
    (case u_Q1 => rfl)
    (case u_N1 => k_is)
    (case u_K2 => k_is)
    (case u_B2 => k_is)
    (case u_T2 => k_is)
    (case u_E2 => k_exc)
    (case u_K3 => k_is)
    (case u_pg3 => k_is)
    (case u_hd3 => k_is)
    (case u_po3 => k_is)
    (case u_sa3 => k_is)
    (case u_mk3 => k_is)
    (case u_n3_0 => k_is)
    (case u_n3_1 => k_is)
    (case u_R0 => k_is)
    (case u_s0_0 => k_is)
    (case u_s0_1 => k_is)
    (case u_s0_2 => k_is)
    (case u_R1 => k_is)
    (case u_s1_0 => k_is)
    (case u_s1_1 => k_is)
    (case u_s1_2 => k_is)
    (case u_R2 => k_is)
    (case u_s2_0 => k_is)
    (case u_s2_1 => k_is)
    (case u_s2_2 => k_is)
    (case u_z0 => k_is)
    (case u_z1 => k_is)
    (case u_z2 => k_is)
    (case u_z3 => k_is)
    (case u_z4 => k_is)
    (case u_z5 => k_is)
    (case u_z6 => k_is)
    (case u_z7 => k_is)
    (case u_z8 => k_is)
    (case u_z9 => k_is)
    (case u_z10 => k_is)
    (case u_z11 => k_is)
    (case u_z12 => k_is)
    (case u_z13 => k_is)
    (case u_z14 => k_is)
    (case u_g0 => k_is)
#print axioms PySem.Challenge.cw_effecthouse_k49_whole_secrets_put_togeth_holds

