import PyProof.Rows.All
import HandS.ForMost
import HandS.TupAny
import HandS.TupMul
import HandS.IsInst
import HandS.Walk
import HandS.Deep
import HandS.ForExc
import HandS.Wide
import KE.LtData
import KE.DataCmp
import KE.DataFind
import KE.DataMinMax
import KE.DataIsa
import KE.SortData
import KE.KSortTup
import KE.KSortAsk
import HandS.Style
import HandS.ExcInit
import KE.KExcInit
import HandS.ExcField
import HandS.ExcIs
import OpenK.KCls
import HandS.Flow
import HandS.Zip
import KE.GoesMore
import HandS.TryOnly
import HandS.Dict
import HandS.TupSets
import HandS.Strs
import HandS.SetFor
import KE.KExcIs
import HandS.Conv
import HandS.Ends
import PyProof.FitsInt
import PyProof.ReprLen
import HandS.Defaults
import Wide.All
import OpenK.AllK
import Wide.FinOn
import PySem.Challenge.RW_metbefore_k10_whole_just_one_is_let_by
set_option Elab.async false
set_option linter.all false
/-! Ev0: a pure evaluator over data trees: values, environments, the syntax, what it computes. -/
namespace Ev
open PySem
abbrev D := PyData
/-- what a list-like object that one slot alone holds stands for -/
inductive C where
  | lst (ds : List D)
  | dct (kvs : List (Str × D))
/-- an exception -/
structure Xn where
  cls : Str
  fs : List (Str × D)
/-- a slot: unknown; a value that never changes; a value that is only read here; an object that this def may change (lent: the caller sees it; locked: a loop walks it) -/
inductive Sl where
  | un
  | fz (d : D)
  | bo (d : D)
  | mu (lent locked : Bool) (c : C)
  /-- an error that is in hand -/
  | xc (x : Xn)
abbrev Env := List Sl
/-- an expression's result: a value; the object that a slot holds; an object made just now -/
inductive R where
  | val (d : D)
  | slot (i : Nat)
  | fresh (c : C)
inductive Res (α : Type) where
  | bad
  | ok (a : α) (e : Env)
  | exc (x : Xn) (e : Env)
def Res.bind {α β : Type} : Res α → (α → Env → Res β) → Res β
  | .bad, _ => .bad
  | .ok a e, f => f a e
  | .exc x e, _ => .exc x e
@[simp] theorem bind_ok {α β : Type} (a : α) (e : Env) (f : α → Env → Res β) : (Res.ok a e).bind f = f a e := rfl
@[simp] theorem bind_bad {α β : Type} (f : α → Env → Res β) : (Res.bad : Res α).bind f = .bad := rfl
@[simp] theorem bind_exc {α β : Type} (x : Xn) (e : Env) (f : α → Env → Res β) : (Res.exc x e : Res α).bind f = .exc x e := rfl
/-- an option as a result -/
def ofO {α : Type} (o : Option α) (e : Env) : Res α := match o with
  | some a => .ok a e
  | none => .bad
@[simp] theorem ofO_some {α : Type} (a : α) (e : Env) : ofO (some a) e = .ok a e := rfl
@[simp] theorem ofO_none {α : Type} (e : Env) : ofO (none : Option α) e = .bad := rfl
/-- how a parameter is handed in: frozen, read alone, lent -/
inductive Mo where
  | f | b | l
  deriving DecidableEq
/-- what a def gives: a value, an object made anew, an exception; and the lent ones behind it -/
inductive FRes where
  | bad
  | ret (d : D) (ls : List C)
  | fresh (c : C) (ls : List C)
  | exc (x : Xn) (ls : List C)
def encKv (p : Str × D) : D × D := (.str p.1, p.2)
def decKv : List (D × D) → Option (List (Str × D))
  | [] => some []
  | (.str k, d) :: r => (decKv r).map ((k, d) :: ·)
  | _ => none
theorem dec_enc : ∀ kvs : List (Str × D), decKv (kvs.map encKv) = some kvs
  | [] => rfl
  | (k, d) :: r => by
    show (decKv (r.map encKv)).map ((k, d) :: ·) = _
    rw [dec_enc r]
    rfl
def C.d : C → D
  | .lst ds => .list ds
  | .dct kvs => .dict (kvs.map encKv)
/-! ### values -/
def isL : D → Bool
  | .list _ => true
  | _ => false
def isN : D → Bool
  | .none => true
  | _ => false
def big : Nat := 16777216
def bop : Operator → D → D → Option R
  | .Add, .int i, .int j => some (.val (.int (i + j)))
  | .Add, .str x, .str y => if x.length + y.length ≤ big then some (.val (.str (x ++ y))) else none
  | .Add, .tuple xs, .tuple ys => if xs.length + ys.length ≤ big then some (.val (.tuple (xs ++ ys))) else none
  | .Add, .list xs, .list ys => if xs.length + ys.length ≤ big then some (.fresh (.lst (xs ++ ys))) else none
  | .Sub, .int i, .int j => some (.val (.int (i - j)))
  | .Mult, .int i, .int j => if (-(2 ^ 64) < i ∧ i < 2 ^ 64) ∨ (-(2 ^ 64) < j ∧ j < 2 ^ 64) then some (.val (.int (i * j))) else none
  | .Mult, .tuple xs, .int k => if xs ≠ [] ∧ 2 ≤ k ∧ k ≤ 1000 ∧ xs.length ≤ 1000 then some (.val (.tuple (List.replicate k.toNat xs).flatten)) else none
  | .Mult, .list xs, .int k => if -(2 ^ 63) ≤ k ∧ k < 2 ^ 63 ∧ xs.length * k.toNat ≤ big then some (.fresh (.lst (List.replicate k.toNat xs).flatten)) else none
  | .FloorDiv, .int i, .int j => if 0 < j ∧ j.natAbs.log2 < 9000 then some (.val (.int (i / j))) else none
  | .Mod, .int i, .int j => if 0 < j then some (.val (.int (i % j))) else none
  | .Pow, .int i, .int j => if 0 ≤ j ∧ j ≤ 1000000 ∧ i.natAbs < 2 ^ 64 then some (.val (.int (i ^ j.toNat))) else none
  | .LShift, .int i, .int j => if 0 ≤ j ∧ j ≤ 1000000 ∧ i.natAbs < 2 ^ 64 then some (.val (.int (i * 2 ^ j.toNat))) else none
  | .RShift, .int i, .int j => if 0 ≤ j then some (.val (.int (i / 2 ^ j.toNat))) else none
  | .BitAnd, .int i, .int j => some (.val (.int (Builtin.bitAnd i j)))
  | .BitXor, .int i, .int j => some (.val (.int (Builtin.bitXor i j)))
  | .BitOr, .int i, .int j => some (.val (.int (Builtin.bitOr i j)))
  | _, _, _ => none
def ltD (x y : D) : Option Bool := match x, y with
  | .int i, .int j => some (decide (i < j))
  | .str a, .str b => some (decide (a.cps.toList < b.cps.toList))
  | x, y => if W.alike x y = true ∧ isN x = false ∧ PyData.depth x ≤ 60 then some (W.dataLt x y) else none
def leD (x y : D) : Option Bool := (ltD y x).map (!·)
def shp (d : D) : Bool := SeqAt.shaped d
def inD : D → D → Option Bool
  | .str x, .str z => if x.cps.size = 1 then some (decide (x.cps.getD 0 0 ∈ z.cps.toList)) else none
  | x, .list ys => if shp x = true ∧ shp (.list ys) = true then some (ys.any fun y => PyData.eqv y x) else none
  | x, .tuple ys => if shp x = true ∧ shp (.tuple ys) = true then some (ys.any fun y => PyData.eqv y x) else none
  | _, _ => none
def isD : D → D → Option Bool
  | x, .none => some (isN x)
  | .bool a, .bool b => some (decide (a = b))
  | _, _ => none
def eqD : D → D → Option Bool
  | .str a, .str b => some (decide (a = b))
  | x, y => if shp x = true ∧ shp y = true then some (PyData.eqv x y) else none
def cop : CmpOp → D → D → Option Bool
  | .Eq, x, y => eqD x y
  | .NotEq, x, y => (eqD x y).map (!·)
  | .Lt, x, y => ltD x y
  | .Gt, x, y => ltD y x
  | .LtE, x, y => leD x y
  | .GtE, x, y => leD y x
  | .Is, x, y => isD x y
  | .IsNot, x, y => (isD x y).map (!·)
  | .In, x, y => inD x y
  | .NotIn, x, y => (inD x y).map (!·)
def iop : D → D → Option D
  | .list xs, .int i => L2.atI xs i
  | .tuple xs, .int i => L2.atI xs i
  | .str z, .int i => if z.length ≤ big then (L2.atI z.cps.toList i).map fun c => .str ⟨#[c]⟩ else none
  | _, _ => none
def cutD {α : Type} (xs : List α) (lo hi : Option Int) : List α := (xs.drop (HT.sIx xs.length 0 lo)).take (HT.sIx xs.length xs.length hi - HT.sIx xs.length 0 lo)
def sop : D → Option Int → Option Int → Option R
  | .list xs, lo, hi => some (.fresh (.lst (cutD xs lo hi)))
  | .tuple xs, lo, hi => some (.val (.tuple (cutD xs lo hi)))
  | _, _, _ => none
def truD : D → Option Bool
  | .none => some false
  | .bool b => some b
  | .int i => some (i != 0)
  | .str x => if x.length ≤ big then some ((x.length : Int) != 0) else none
  | .list xs => some (!xs.isEmpty)
  | .tuple xs => some (!xs.isEmpty)
  | _ => none
def intsD : List D → Option (List Int)
  | [] => some []
  | .int i :: r => (intsD r).map (i :: ·)
  | _ => none
def boolsD : List D → Option (List Bool)
  | [] => some []
  | .bool b :: r => (boolsD r).map (b :: ·)
  | _ => none
/-- the kinds that isinstance is asked for -/
def tyN : D → String
  | .none => "NoneType"
  | .bool _ => "bool"
  | .int _ => "int"
  | .str _ => "str"
  | .list _ => "list"
  | .tuple _ => "tuple"
  | .dict _ => "dict"
def isK (d : D) (t : String) : Option Bool := L2.kitB (tyN d) t
def allAlike (ds : List D) : Bool := ds.all fun d => ds.all fun e => W.alike d e
def sortable (ds : List D) : Bool := (ds.all fun d => match d with | .tuple (_ :: _) => true | _ => false) || (ds.all fun d => match d with | .none => false | .tuple _ => false | _ => true) || match ds with
  | .tuple [] :: _ => ds.all fun d => match d with | .tuple _ => true | _ => false
  | _ => false
def sortD (ds : List D) : List D := ds.mergeSort (fun a b => !W.dataLt b a)
/-- a builtin called by its name, with values -/
inductive Bi where
  | len | tuple | list | sum | any | all | abs | min2 | max2 | repr | strInt | sorted | minL | maxL | intB | lenset | sortset | sortxor
  deriving DecidableEq
def bi : Bi → List D → Option R
  | .len, [.list xs] => some (.val (.int xs.length))
  | .len, [.tuple xs] => some (.val (.int xs.length))
  | .len, [.str x] => if x.length ≤ big then some (.val (.int x.length)) else none
  | .tuple, [.list xs] => some (.val (.tuple xs))
  | .tuple, [.tuple xs] => some (.val (.tuple xs))
  | .list, [.list xs] => some (.fresh (.lst xs))
  | .list, [.tuple xs] => some (.fresh (.lst xs))
  | .sum, [.list xs] => (intsD xs).map fun ns => .val (.int ns.sum)
  | .any, [.list xs] => (boolsD xs).map fun bs => .val (.bool (bs.any id))
  | .all, [.list xs] => (boolsD xs).map fun bs => .val (.bool (bs.all id))
  | .abs, [.int i] => some (.val (.int (if i < 0 then -i else i)))
  | .min2, [.int i, .int j] => some (.val (.int (if j < i then j else i)))
  | .max2, [.int i, .int j] => some (.val (.int (if j > i then j else i)))
  | .repr, [d] => if d.showable = true ∧ d.hasDict = false ∧ d.depth ≤ 60 ∧ d.shown.length ≤ big then some (.val (.str d.shown)) else none
  | .sorted, [.list xs] => if allAlike xs = true ∧ sortable xs = true ∧ (xs.all fun d => decide (d.depth ≤ 60)) = true then some (.fresh (.lst (sortD xs))) else none
  | .intB, [.bool b] => some (.val (.int (if b = true then 1 else 0)))
  | .strInt, [.int i] => if i.natAbs.log2 < 1920 then some (.val (.str (toString i))) else none
  | _, _ => none
/-! ### the syntax -/
inductive ME where
  | var (i : Nat)
  | con (d : D)
  | glo (x : String) (d : D)
  | tup (es : List ME)
  | lst (es : List ME)
  | bin (op : Operator) (a b : ME)
  | neg (a : ME)
  | cmp (op : CmpOp) (a b : ME)
  | chn (op op' : CmpOp) (a b c : ME)
  | and (a b : ME)
  | or (a b : ME)
  | not (a : ME)
  | ite (c a b : ME)
  | idx (a i : ME)
  | sli (a : ME) (lo hi : Option ME)
  | rev (a : ME)
  /-- tuple(sorted(set(a) ^ set(b))); sorted(set(a)) of a list -/
  | sx (a b : ME)
  | ssl (a : ME)
  | isi (a : ME) (ty : String)
  | bif (f : Bi) (es : List ME)
  | cal (f : String) (es : List ME)
  | mth (m : String) (o : ME) (es : List ME)
  | lc (own : List (String × Nat)) (tg : List Nat) (pair : Bool) (it : ME) (c : Option ME) (e : ME)
  | pop (i : Nat)
  /-- a dict's item by a text; a dict display; a call with names -/
  | dg (i : Nat) (k : String)
  | dct (ks : List String) (es : List ME)
  | cak (f : String) (ks : List String) (perm : List Nat) (es kes : List ME)
  /-- what is walked alone -/
  | rg1 (a : ME)
  | rg2 (a b : ME)
  | en (e : ME)
  | zp (a b : ME)
  /-- read for good: a slot's object is never changed any more -/
  | fz (a : ME)
  /-- isinstance(e, C), isinstance(e, (C, ..)), e.f of an error in hand -/
  | xis (i : Nat) (cs : List String) (tup : Bool)
  | xat (i : Nat) (f : String)
  /-- list(range(..)), tuple(range(..)) -/
  | rt1 (l : Bool) (a : ME)
  | rt2 (l : Bool) (a b : ME)
inductive MS where
  | asg (i : Nat) (e : ME)
  | unp (is : List Nat) (e : ME)
  | par (i j : Nat) (a b : ME)
  | par3 (i j l : Nat) (a b c : ME)
  | sto (i : Nat) (k e : ME)
  | aug (i : Nat) (op : Operator) (e : ME)
  | app (i : Nat) (e : ME)
  | dst (i : Nat) (k : String) (e : ME)
  | exp (e : ME)
  | ret (e : ME)
  | retN
  | ite (c : ME) (t f : List MS)
  | fr (tg : List Nat) (pair : Bool) (it : ME) (b : List MS)
  | whl (c : ME) (b : List MS)
  | rai (cls : String) (es : List ME)
  /-- try: .. except (A, B) as e (slot i): .. -/
  | tra (i : Nat) (cs : List String) (b su : List MS)
  /-- try: .. except A: .. -/
  | tro (cs : List String) (b su : List MS)
  /-- x[k], x[l] = v, w -/
  | swp (i : Nat) (k l e : ME)
  /-- what is never come to -/
  | nev
  | pas
  | brk
  | cnt
/-! ### what it computes -/
/-- the exceptions' classes -/
structure Xt where
  xc : String → List Str
  sub : Str → String → Option Bool
  fld : Str → String → Bool
  kn : List String
/-- the defs' own functions by name, with how they take their parameters -/
structure Gm where
  fn : String → Option (List Mo × (List D → FRes))
  /-- .. with all values told -/
  fk : String → Option (List Mo × (List D → FRes))
  /-- the exceptions' classes: their fields; which are below which -/
  xc : String → List Str
  sub : Str → String → Option Bool
  fld : Str → String → Bool
  kn : List String
def rd (e : Env) : R → Option D
  | .val d => some d
  | .fresh (.lst ds) => some (.list ds)
  | .fresh _ => none
  | .slot i => match e[i]? with
    | some (.mu _ _ (.lst ds)) => some (.list ds)
    | some (.bo d) => some d
    | _ => none
/-- as a value that stands for good -/
def esc (e : Env) : R → Res D
  | .val d => .ok d e
  | .fresh (.lst ds) => .ok (.list ds) e
  | .fresh _ => .bad
  | .slot i => match e[i]? with
    | some (.mu false false (.lst ds)) => .ok (.list ds) (e.set i (.fz (.list ds)))
    | _ => .bad
/-- what was made just now is let stand for good -/
def setl (e : Env) : R → Res R
  | .fresh (.lst ds) => .ok (.val (.list ds)) e
  | .fresh _ => .bad
  | r => .ok r e
def rdAll (e : Env) : List R → Option (List D)
  | [] => some []
  | r :: rs => (rd e r).bind fun d => (rdAll e rs).map (d :: ·)
/-- the arguments of a def: those handed in for good are made so; then what all stand for, and the slots that are lent, in order -/
def escAll : List Mo → List R → Env → Option (List R × Env)
  | [], [], e => some ([], e)
  | .f :: ms, r :: rs, e => match esc e r with
    | .ok d e' => (escAll ms rs e').map fun q => (.val d :: q.1, q.2)
    | _ => none
  | .b :: ms, r :: rs, e => (escAll ms rs e).map fun q => (r :: q.1, q.2)
  | .l :: ms, r :: rs, e => (escAll ms rs e).map fun q => (r :: q.1, q.2)
  | _, _, _ => none
def readAll (e : Env) : List Mo → List R → Option (List D × List Nat)
  | [], [] => some ([], [])
  | .f :: ms, .val d :: rs => (readAll e ms rs).map fun q => (d :: q.1, q.2)
  | .b :: ms, r :: rs => (rd e r).bind fun d => (readAll e ms rs).map fun q => (d :: q.1, q.2)
  | .l :: ms, .slot i :: rs => match e[i]? with
    | some (.mu _ false c) => (readAll e ms rs).map fun q => (c.d :: q.1, i :: q.2)
    | _ => none
  | _, _ => none
/-- what is read alone is not lent in the same call -/
def apart (ls : List Nat) : List Mo → List R → Bool
  | .b :: ms, .slot j :: rs => !ls.contains j && apart ls ms rs
  | _ :: ms, _ :: rs => apart ls ms rs
  | _, _ => true
def uniq : List Nat → Bool
  | [] => true
  | x :: xs => !xs.contains x && uniq xs
def putBack : List Nat → List C → Env → Option Env
  | [], [], e => some e
  | i :: is, c :: cs, e => match e[i]? with
    | some (.mu t false _) => putBack is cs (e.set i (.mu t false c))
    | _ => none
  | _, _, _ => none
/-- behind a def's call -/
def behind (ls : List Nat) (e : Env) : FRes → Res R
  | .bad => .bad
  | .ret d cs => match putBack ls cs e with
    | some e' => .ok (.val d) e'
    | none => .bad
  | .fresh c cs => match putBack ls cs e with
    | some e' => .ok (.fresh c) e'
    | none => .bad
  | .exc x cs => match putBack ls cs e with
    | some e' => .exc x e'
    | none => .bad
def callO (o : Option (List Mo × (List D → FRes))) (rs : List R) (e : Env) : Res R := match o with
  | some (ms, φ) => match escAll ms rs e with
    | some (qs, e2) => match readAll e2 ms qs with
      | some (ds, ls) => if apart ls ms qs = true ∧ uniq ls = true then behind ls e2 (φ ds) else .bad
      | none => .bad
    | none => .bad
  | none => .bad
def callD (G : Gm) (f : String) (rs : List R) (e : Env) : Res R := callO (G.fn f) rs e
/-- a list is taken apart -/
def itemsD : D → Option (List D)
  | .list xs => some xs
  | .tuple xs => some xs
  | .str z => some (z.cps.toList.map fun c => .str ⟨#[c]⟩)
  | _ => none
def seqD : D → Option (List D)
  | .list xs => some xs
  | .tuple xs => some xs
  | _ => none
def rngD (lo : Int) (n : Nat) : List D := (List.range n).map fun (k : Nat) => .int (lo + (k : Int))
def enumD (xs : List D) : List D := xs.zipIdx.map fun p => .tuple [.int p.2, p.1]
def zipD (xs ys : List D) : List D := (xs.zip ys).map fun p => .tuple [p.1, p.2]
/-- into the loop's names -/
def putAll : List Nat → List D → Env → Option Env
  | [], [], e => some e
  | i :: is, d :: ds, e => match e[i]? with
    | some (.mu _ true _) => none
    | some (.mu true _ _) => none
    | some _ => putAll is ds (e.set i (.fz d))
    | none => none
  | _, _, _ => none
def putT (tg : List Nat) (pair : Bool) (d : D) (e : Env) : Option Env := match pair, tg, d with
  | false, [i], d => putAll [i] [d] e
  | true, is, .tuple ds => if ds.length = is.length then putAll is ds e else none
  | true, is, .list ds => if ds.length = is.length then putAll is ds e else none
  | _, _, _ => none
/-- what a loop walks: values that stand still; the list that a slot holds (locked meanwhile), numbered or not -/
inductive Src where
  | vals (ds : List D)
  | slot (i : Nat) (en : Bool)
/-- a thing that stands still -/
def stb (e : Env) : R → Option D
  | .val d => some d
  | .fresh _ => none
  | .slot i => match e[i]? with
    | some (.bo d) => some d
    | _ => none
def srcOf (en : Bool) (e : Env) : R → Res Src
  | .val d => (ofO (if en = true then seqD d else itemsD d) e).bind fun ds e1 => .ok (.vals (if en = true then enumD ds else ds)) e1
  | .fresh _ => .bad
  | .slot i => match e[i]? with
    | some (.bo (.list ds)) => .ok (.vals (if en = true then enumD ds else ds)) e
    | some (.mu _ _ (.lst _)) => .ok (.slot i en) e
    | _ => .bad
def lockE (i : Nat) (e : Env) : Option Env := match e[i]? with
  | some (.mu t _ c) => some (e.set i (.mu t true c))
  | _ => none
/-- .. and as it was (from e₀) behind -/
def unlockE (i : Nat) (e₀ e : Env) : Option Env := match e₀[i]?, e[i]? with
  | some (.mu t k _), some (.mu t' true c) => if t = t' then some (e.set i (.mu t k c)) else none
  | _, _ => none
/-- item k of the locked list, none behind its end -/
def itemAt (i : Nat) (en : Bool) (k : Nat) (e : Env) : Option (Option D) := match e[i]? with
  | some (.mu _ true (.lst ds)) => some (if en = true then (ds[k]?).map fun d => .tuple [.int k, d] else ds[k]?)
  | _ => none
def noX {α : Type} : Res α → Res α
  | .exc _ _ => .bad
  | r => r
/-- the turns of a comprehension: what each adds -/
def consO : Option D → List D → List D
  | some x, r => x :: r
  | none, r => r
def lcGo (turn : D → Env → Res (Option D)) : List D → Env → Res (List D)
  | [], e => .ok [] e
  | d :: ds, e => (turn d e).bind fun o e1 => (lcGo turn ds e1).bind fun r e2 => .ok (consO o r) e2
def lcGoN (turn : D → Env → Res (Option D)) (nx : Nat → Env → Option (Option D)) : Nat → Nat → Env → Res (List D)
  | 0, _, _ => .bad
  | n + 1, k, e => match nx k e with
    | none => .bad
    | some none => .ok [] e
    | some (some d) => (turn d e).bind fun o e1 => (lcGoN turn nx n (k + 1) e1).bind fun r e2 => .ok (consO o r) e2
/-- a comprehension's own names, taken away; given back -/
def wipeE (e : Env) : List Nat → Option Env
  | [] => some e
  | i :: is => match e[i]? with
    | some (.mu _ _ _) => none
    | some _ => wipeE (e.set i .un) is
    | none => none
def backE (e₀ e : Env) : List Nat → Env
  | [] => e
  | i :: is => backE e₀ (e.set i (e₀[i]?.getD .un)) is
/-! what a piece of syntax does: as a value, as a test, as what is walked -/
abbrev Vc := Env → Res R
structure Dn where
  v : Vc
  t : Env → Res Bool
  w : Env → Res Src
def vN (c : Vc) : Vc := fun e => (c e).bind fun r e1 => setl e1 r
def vD (c : Vc) : Env → Res D := fun e => (c e).bind fun r e1 => ofO (rd e1 r) e1
def v2 (a b : Vc) : Env → Res (D × D) := fun e => (vN a e).bind fun r e1 => (vN b e1).bind fun q e2 => (ofO (rd e2 r) e2).bind fun x e3 => (ofO (rd e3 q) e3).bind fun y e4 => .ok (x, y) e4
def vE (c : Vc) : Env → Res D := fun e => (c e).bind fun r e1 => esc e1 r
def vEs : List Vc → Env → Res (List D)
  | [], e => .ok [] e
  | c :: cs, e => (vE c e).bind fun d e1 => (vEs cs e1).bind fun ds e2 => .ok (d :: ds) e2
def vNs : List Vc → Env → Res (List R)
  | [], e => .ok [] e
  | c :: cs, e => (vN c e).bind fun d e1 => (vNs cs e1).bind fun ds e2 => .ok (d :: ds) e2
def tOf (c : Vc) : Env → Res Bool := fun e => (vD c e).bind fun d e1 => ofO (truD d) e1
def wOf (c : Vc) : Env → Res Src := fun e => (vN c e).bind fun r e1 => srcOf false e1 r
def mkV (c : Vc) : Dn := ⟨c, tOf c, wOf c⟩
def mkT (c : Vc) (t : Env → Res Bool) : Dn := ⟨c, t, wOf c⟩
def mkW (w : Env → Res Src) : Dn := ⟨fun _ => .bad, fun _ => .bad, w⟩
def boolR (c : Env → Res Bool) : Vc := fun e => (c e).bind fun k e1 => .ok (.val (.bool k)) e1
def varC (i : Nat) : Vc := fun e => match e[i]? with
  | some (.fz d) => .ok (.val d) e
  | some (.bo d) => if isL d = true then .ok (.slot i) e else .ok (.val d) e
  | some (.mu _ _ _) => .ok (.slot i) e
  | _ => .bad
def conC (d : D) : Vc := fun e => .ok (.val d) e
def tupC (cs : List Vc) : Vc := fun e => (vEs cs e).bind fun ds e1 => .ok (.val (.tuple ds)) e1
def lstC (cs : List Vc) : Vc := fun e => (vEs cs e).bind fun ds e1 => .ok (.fresh (.lst ds)) e1
def binC (op : Operator) (a b : Vc) : Vc := fun e => (v2 a b e).bind fun p e2 => ofO (bop op p.1 p.2) e2
def negC (a : Vc) : Vc := fun e => (vD a e).bind fun d e1 => match d with
  | .int i => .ok (.val (.int (-i))) e1
  | _ => .bad
def cmpB (op : CmpOp) (a b : Vc) : Env → Res Bool := fun e => (v2 a b e).bind fun p e2 => ofO (cop op p.1 p.2) e2
def chnB (op op' : CmpOp) (a b c : Vc) : Env → Res Bool := fun e => (v2 a b e).bind fun p e2 => (ofO (if isL p.2 = true then none else cop op p.1 p.2) e2).bind fun k e3 =>
  if k = true then (vD c e3).bind fun z e4 => ofO (cop op' p.2 z) e4 else .ok false e3
def bolD : D → Option Bool
  | .bool k => some k
  | _ => none
def andC (a b : Vc) : Vc := fun e => (vD a e).bind fun d e1 => (ofO (bolD d) e1).bind fun k e2 => if k = true then b e2 else .ok (.val (.bool false)) e2
def orC (a b : Vc) : Vc := fun e => (vD a e).bind fun d e1 => (ofO (bolD d) e1).bind fun k e2 => if k = true then .ok (.val (.bool true)) e2 else b e2
def andT (a b : Env → Res Bool) : Env → Res Bool := fun e => (a e).bind fun k e1 => if k = true then b e1 else .ok false e1
def orT (a b : Env → Res Bool) : Env → Res Bool := fun e => (a e).bind fun k e1 => if k = true then .ok true e1 else b e1
def notC (a : Vc) : Vc := fun e => (vD a e).bind fun d e1 => (ofO (truD d) e1).bind fun k e2 => .ok (.val (.bool (!k))) e2
def notT (a : Env → Res Bool) : Env → Res Bool := fun e => (a e).bind fun k e1 => .ok (!k) e1
def iteC (t : Env → Res Bool) (a b : Vc) : Vc := fun e => (t e).bind fun k e1 => if k = true then a e1 else b e1
def idxC (a i : Vc) : Vc := fun e => (v2 a i e).bind fun p e2 => (ofO (iop p.1 p.2) e2).bind fun d e3 => .ok (.val d) e3
def intD : D → Option Int
  | .int i => some i
  | _ => none
def optC : Option Vc → Env → Res (Option Int)
  | none, e => .ok none e
  | some c, e => (vD c e).bind fun d e1 => (ofO (intD d) e1).bind fun i e2 => .ok (some i) e2
def sliC (a : Vc) (lo hi : Option Vc) : Vc := fun e => (vN a e).bind fun r e1 => (optC lo e1).bind fun x e2 => (optC hi e2).bind fun y e3 => (ofO (rd e3 r) e3).bind fun d e4 => ofO (sop d x y) e4
def revD : D → Option R
  | .tuple xs => some (.val (.tuple xs.reverse))
  | .list xs => some (.fresh (.lst xs.reverse))
  | _ => none
def revC (a : Vc) : Vc := fun e => (vD a e).bind fun d e1 => ofO (revD d) e1
/-- put into a rising list, once -/
def insI (k : Int) : List Int → List Int
  | [] => [k]
  | x :: l => if k < x then k :: x :: l else if k = x then x :: l else x :: insI k l
/-- what stands in just one of the two, rising -/
def symI (ns ms : List Int) : List Int := ((ns.filter fun k => !ms.contains k) ++ (ms.filter fun k => !ns.contains k)).foldr insI []
def intsL : List D → Option (List Int)
  | [] => some []
  | .int i :: ds => (intsL ds).map (i :: ·)
  | _ => none
def intsT : D → Option (List Int)
  | .tuple ds => (intsL ds).bind fun ns => if ns.length < 64 then some ns else none
  | _ => none
/-- tuple(sorted(set(a) ^ set(b))) -/
def sxC (ca cb : Vc) : Vc := fun e => (vD ca e).bind fun d e1 => (ofO (intsT d) e1).bind fun ns e2 => (vD cb e2).bind fun d' e3 => (ofO (intsT d') e3).bind fun ms e4 =>
  (ofO (if ns.length + ms.length < 64 then some (PyData.tuple ((symI ns ms).map .int)) else none) e4).bind fun d e5 => .ok (.val d) e5
/-- sorted(set(a)), a a list of ints, fewer than 64 of them unlike -/
def sslD : D → Option R
  | .list ds => (intsL ds).bind fun ns => if (ns.foldr insI []).length < 64 ∧ ns.length ≤ 4000 then some (.fresh (.lst ((ns.foldr insI []).map .int))) else none
  | .tuple ds => (intsL ds).bind fun ns => if (ns.foldr insI []).length < 64 ∧ ns.length < 64 then some (.fresh (.lst ((ns.foldr insI []).map .int))) else none
  | _ => none
def sslC (ca : Vc) : Vc := fun e => (vD ca e).bind fun d e1 => ofO (sslD d) e1
def isiC (a : Vc) (ty : String) : Vc := fun e => (vD a e).bind fun d e1 => (ofO (isK d ty) e1).bind fun k e2 => .ok (.val (.bool k)) e2
def bifC (f : Bi) (cs : List Vc) : Vc := fun e => (vNs cs e).bind fun rs e1 => (ofO (rdAll e1 rs) e1).bind fun ds e2 => ofO (bi f ds) e2
def calC (G : Gm) (f : String) (cs : List Vc) : Vc := fun e => if (G.fn f).isSome = true then (vNs cs e).bind fun rs e1 => callD G f rs e1 else .bad
def keyD (kvs : List (Str × D)) (k : Str) : Option D := (kvs.find? fun p => decide (p.1 = k)).map (·.2)
def putD (kvs : List (Str × D)) (k : Str) (d : D) : Option (List (Str × D)) := if (kvs.any fun p => decide (p.1 = k)) = true then some (kvs.map fun p => if p.1 = k then (p.1, d) else p) else none
def dgC (i : Nat) (k : String) : Vc := fun e => match e[i]? with
  | some (.mu _ _ (.dct kvs)) => (ofO (keyD kvs (Str.ofString k)) e).bind fun d e1 => .ok (.val d) e1
  | _ => .bad
def dctC (ks : List String) (cs : List Vc) : Vc := fun e => (vEs cs e).bind fun ds e1 => .ok (.fresh (.dct ((ks.map Str.ofString).zip ds))) e1
/-- the arguments in the parameters' order -/
def pick {α : Type} : List Nat → List α → Option (List α)
  | [], _ => some []
  | i :: is, l => (l[i]?).bind fun a => (pick is l).map (a :: ·)
def cakC (G : Gm) (f : String) (perm : List Nat) (cs : List Vc) : Vc := fun e => if (G.fk f).isSome = true then (vNs cs e).bind fun rs e1 => (ofO (pick perm rs) e1).bind fun qs e2 => callO (G.fk f) qs e2 else .bad
def tstC : Option (Env → Res Bool) → Env → Res Bool
  | none, e => .ok true e
  | some t, e => t e
def lcTurn (own : List Nat) (tg : List Nat) (pair : Bool) (c : Option (Env → Res Bool)) (x : Vc) : D → Env → Res (Option D) := fun d s =>
  match putT tg pair d s with
  | none => .bad
  | some s1 => noX ((tstC c s1).bind fun k s2 => if k = true then (vE x s2).bind fun d s3 => match wipeE s3 own with
        | some s4 => .ok (some d) s4
        | none => .bad
      else match wipeE s2 own with
        | some s4 => .ok none s4
        | none => .bad)
def lcRun (own : List Nat) (turn : D → Env → Res (Option D)) : Src → Env → Res (List D)
  | .vals ds, e => match wipeE e own with
    | none => .bad
    | some e2 => if ds.length < big then (lcGo turn ds e2).bind fun ds e3 => .ok ds (backE e e3 own) else .bad
  | .slot i en, e => match lockE i e with
    | none => .bad
    | some e1 => match wipeE e1 own with
      | none => .bad
      | some e2 => (lcGoN turn (itemAt i en) 1000000 0 e2).bind fun ds e3 => (ofO (unlockE i e (backE e1 e3 own)) e3).bind fun e4 _ => .ok ds e4
def lcC (own : List Nat) (tg : List Nat) (pair : Bool) (w : Env → Res Src) (c : Option (Env → Res Bool)) (x : Vc) : Vc := fun e =>
  (w e).bind fun p e1 => (lcRun own (lcTurn own tg pair c x) p e1).bind fun ds e2 => .ok (.fresh (.lst ds)) e2
def rg1W (a : Vc) : Env → Res Src := fun e => (vD a e).bind fun d e1 => (ofO (intD d) e1).bind fun j e2 => if -(big : Int) ≤ j ∧ j ≤ big then .ok (.vals (rngD 0 j.toNat)) e2 else .bad
def rg2W (a b : Vc) : Env → Res Src := fun e => (v2 a b e).bind fun p e1 => (ofO (intD p.1) e1).bind fun i e2 => (ofO (intD p.2) e2).bind fun j e3 =>
  if -(big : Int) ≤ i ∧ i ≤ big ∧ -(big : Int) ≤ j ∧ j ≤ big then .ok (.vals (rngD i (j - i).toNat)) e3 else .bad
def enW (a : Vc) : Env → Res Src := fun e => (vN a e).bind fun r e1 => srcOf true e1 r
def zpW (a b : Vc) : Env → Res Src := fun e => (vN a e).bind fun r e1 => (vN b e1).bind fun q e2 => (ofO (stb e2 r) e2).bind fun x e3 => (ofO (stb e3 q) e3).bind fun y e4 =>
  (ofO (seqD x) e4).bind fun xs e5 => (ofO (seqD y) e5).bind fun ys e6 => if isL x = isL y then .ok (.vals (zipD xs ys)) e6 else .bad
/-- list(range(i, j)), tuple(range(i, j)): the bounds are asked so that no reduction comes to them -/
noncomputable def okRg (i j : Int) : Bool := @decide ((-(big : Int) ≤ i ∧ i ≤ big ∧ -(big : Int) ≤ j ∧ j ≤ big) ∧ (j - i).toNat ≤ big) (Classical.propDecidable _)
noncomputable def rtR (q : Bool) : D → D → Option R
  | .int i, .int j => if okRg i j = true then some (if q = true then .fresh (.lst (rngD i (j - i).toNat)) else .val (.tuple (rngD i (j - i).toNat))) else none
  | _, _ => none
noncomputable def rt1C (q : Bool) (a : Vc) : Vc := fun e => (vD a e).bind fun d e1 => ofO (rtR q (.int 0) d) e1
noncomputable def rt2C (q : Bool) (a b : Vc) : Vc := fun e => (v2 a b e).bind fun p e1 => ofO (rtR q p.1 p.2) e1
/-- isinstance(e, (..)) of an error in hand, by what is known of the classes -/
def anyX (G : Gm) (c : Str) : List String → Option Bool
  | [] => some false
  | x :: r => match G.sub c x, anyX G c r with
    | some b, some d => some (b || d)
    | _, _ => none
def xisC (G : Gm) (i : Nat) (cs : List String) : Vc := fun e => match e[i]? with
  | some (.xc x) => match anyX G x.cls cs with
    | some b => .ok (.val (.bool b)) e
    | none => .bad
  | _ => .bad
def xatC (G : Gm) (i : Nat) (f : String) : Vc := fun e => match e[i]? with
  | some (.xc x) => if G.fld x.cls f = false then .bad else match x.fs.lookup (Str.ofString f) with
    | some d => .ok (.val d) e
    | none => .bad
  | _ => .bad
def noXc (e : Env) : Bool := e.all fun s => match s with
  | .xc _ => false
  | _ => true
noncomputable section
mutual
def den (G : Gm) : ME → Dn
  | .var i => mkV (varC i)
  | .con d => mkV (conC d)
  | .glo _ d => mkV (conC d)
  | .tup es => mkV (tupC (dens G es))
  | .lst es => mkV (lstC (dens G es))
  | .bin op a b => mkV (binC op (den G a).v (den G b).v)
  | .neg a => mkV (negC (den G a).v)
  | .cmp op a b => mkT (boolR (cmpB op (den G a).v (den G b).v)) (cmpB op (den G a).v (den G b).v)
  | .chn op op' a b c => mkT (boolR (chnB op op' (den G a).v (den G b).v (den G c).v)) (chnB op op' (den G a).v (den G b).v (den G c).v)
  | .and a b => mkT (andC (den G a).v (den G b).v) (andT (den G a).t (den G b).t)
  | .or a b => mkT (orC (den G a).v (den G b).v) (orT (den G a).t (den G b).t)
  | .not a => mkT (notC (den G a).v) (notT (den G a).t)
  | .ite c a b => mkT (iteC (den G c).t (den G a).v (den G b).v) fun _ => .bad
  | .idx a i => mkV (idxC (den G a).v (den G i).v)
  | .sli a lo hi => mkV (sliC (den G a).v (denO G lo) (denO G hi))
  | .rev a => mkV (revC (den G a).v)
  | .sx a b => mkV (sxC (den G a).v (den G b).v)
  | .ssl a => mkV (sslC (den G a).v)
  | .isi a ty => mkV (isiC (den G a).v ty)
  | .bif f es => mkV (bifC f (dens G es))
  | .cal f es => mkV (calC G f (dens G es))
  | .mth _ _ _ => mkV fun _ => .bad
  | .lc own tg pair it c x => mkV (lcC (own.map (·.2)) tg pair (den G it).w (denT G c) (den G x).v)
  | .pop _ => mkV fun _ => .bad
  | .dg i k => mkV (dgC i k)
  | .dct ks es => mkV (dctC ks (dens G es))
  | .cak f _ perm es kes => mkV (cakC G f perm (dens G es ++ dens G kes))
  | .xis i cs _ => mkV (xisC G i cs)
  | .xat i f => mkV (xatC G i f)
  | .rt1 l a => mkV (rt1C l (den G a).v)
  | .rt2 l a b => mkV (rt2C l (den G a).v (den G b).v)
  | .rg1 a => mkW (rg1W (den G a).v)
  | .rg2 a b => mkW (rg2W (den G a).v (den G b).v)
  | .en a => mkW (enW (den G a).v)
  | .zp a b => mkW (zpW (den G a).v (den G b).v)
  | .fz a => mkV fun e => (vE (den G a).v e).bind fun d e1 => .ok (.val d) e1
def dens (G : Gm) : List ME → List Vc
  | [] => []
  | m :: ms => (den G m).v :: dens G ms
def denO (G : Gm) : Option ME → Option Vc
  | none => none
  | some m => some (den G m).v
def denT (G : Gm) : Option ME → Option (Env → Res Bool)
  | none => none
  | some m => some (den G m).t
end
/-! ### statements -/
inductive Fl where
  | nx
  | br
  | ct
  | rt (r : R)
abbrev Sc := Env → Res Fl
def setV (i : Nat) (r : R) (e : Env) : Option Env := match e[i]? with
  | some (.mu _ true _) => none
  | some (.mu true _ _) => none
  | some _ => match r with
    | .val d => some (e.set i (.fz d))
    | .fresh c => some (e.set i (.mu false false c))
    | .slot _ => none
  | none => none
def fl (o : Option Env) : Res Fl := match o with
  | some e => .ok .nx e
  | none => .bad
/-- a value that stands for good, or a new object -/
def escS (r : R) (e : Env) : Res R := match r with
  | .slot i => (esc e (.slot i)).bind fun d e2 => .ok (.val d) e2
  | r => .ok r e
def vF (c : Vc) : Vc := fun e => (c e).bind escS
def asgS (i : Nat) (c : Vc) : Sc := fun e => (vF c e).bind fun r e1 => fl (setV i r e1)
def unpS (is : List Nat) (c : Vc) : Sc := fun e => (vE c e).bind fun d e1 => fl (putT is true d e1)
def parS (i j : Nat) (a b : Vc) : Sc := fun e => (vEs [a, b] e).bind fun ds e1 => if i = j then .bad else fl (putAll [i, j] ds e1)
def par3S (i j l : Nat) (a b c : Vc) : Sc := fun e => (vEs [a, b, c] e).bind fun ds e1 => if i = j ∨ i = l ∨ j = l then .bad else fl (putAll [i, j, l] ds e1)
def stoD (c : C) (k d : D) : Option C := match c, k with
  | .lst xs, .int n => (L2.ixN xs.length n).map fun j => .lst (xs.set j d)
  | _, _ => none
def muO : Option Sl → Option (Bool × C)
  | some (.mu t false c) => some (t, c)
  | _ => none
def stoS (i : Nat) (k v : Vc) : Sc := fun e => (vE v e).bind fun d e1 => (ofO (muO e1[i]?) e1).bind fun _ e2 => (vE k e2).bind fun n e3 => (ofO (muO e3[i]?) e3).bind fun p e4 => (ofO (stoD p.2 n d) e4).bind fun c e5 => .ok .nx (e5.set i (.mu p.1 false c))
def muL : Option Sl → Option (Bool × List D)
  | some (.mu t false (.lst xs)) => some (t, xs)
  | _ => none
def appS (i : Nat) (v : Vc) : Sc := fun e => (ofO (muL e[i]?) e).bind fun _ e0 => (vE v e0).bind fun d e1 => (ofO (muL e1[i]?) e1).bind fun p e2 =>
  if p.2.length < big then .ok .nx (e2.set i (.mu p.1 false (.lst (p.2 ++ [d])))) else .bad
def dctO : C → Option (List (Str × D))
  | .dct kvs => if kvs.length ≤ 15 then some kvs else none
  | _ => none
def dstS (i : Nat) (k : String) (v : Vc) : Sc := fun e => (vE v e).bind fun d e1 => (ofO (muO e1[i]?) e1).bind fun p e2 => (ofO (dctO p.2) e2).bind fun kvs e3 => (ofO (putD kvs (Str.ofString k) d) e3).bind fun q e4 => .ok .nx (e4.set i (.mu p.1 false (.dct q)))
def fzI (e : Env) (i : Nat) : Option Int := match e[i]? with
  | some (.fz (.int a)) => some a
  | _ => none
def augI : Operator → Int → Int → Option Int
  | .Add, a, b => some (a + b)
  | .Sub, a, b => some (a - b)
  | _, _, _ => none
def augS (i : Nat) (op : Operator) (v : Vc) : Sc := fun e => (ofO (fzI e i) e).bind fun a e0 => (vE v e0).bind fun y e1 => (ofO (intD y) e1).bind fun b e2 => (ofO (augI op a b) e2).bind fun z e3 => fl (putAll [i] [.int z] e3)
def expS (c : Vc) : Sc := fun e => (c e).bind fun _ e1 => .ok .nx e1
def retS (c : Vc) : Sc := fun e => (c e).bind fun r e1 => match r with
  | .slot i => match e1[i]? with
    | some (.mu false false c) => .ok (.rt (.fresh c)) (e1.set i .un)
    | _ => .bad
  | r => .ok (.rt r) e1
def iteS (t : Env → Res Bool) (a b : Sc) : Sc := fun e => (t e).bind fun k e1 => if k = true then a e1 else b e1
def seqS (a b : Sc) : Sc := fun e => (a e).bind fun f e1 => match f with
  | .nx => b e1
  | f => .ok f e1
def frGo (turn : D → Sc) : List D → Env → Res Fl
  | [], e => .ok .nx e
  | d :: ds, e => (turn d e).bind fun f e1 => match f with
    | .nx => frGo turn ds e1
    | .ct => frGo turn ds e1
    | .br => .ok .br e1
    | .rt r => .ok (.rt r) e1
def frGoN (turn : D → Sc) (nx : Nat → Env → Option (Option D)) : Nat → Nat → Env → Res Fl
  | 0, _, _ => .bad
  | n + 1, k, e => match nx k e with
    | none => .bad
    | some none => .ok .nx e
    | some (some d) => (turn d e).bind fun f e1 => match f with
      | .nx => frGoN turn nx n (k + 1) e1
      | .ct => frGoN turn nx n (k + 1) e1
      | .br => .ok .br e1
      | .rt r => .ok (.rt r) e1
def frTurn (tg : List Nat) (pair : Bool) (b : Sc) : D → Sc := fun d e => match putT tg pair d e with
  | some e1 => b e1
  | none => .bad
def brk2nx : Fl → Fl
  | .br => .nx
  | f => f
/-- behind a loop -/
def offS : Res Fl → Res Fl
  | .ok f e => .ok (brk2nx f) e
  | r => r
def unlkS (i : Nat) (e₀ : Env) : Res Fl → Res Fl
  | .bad => .bad
  | .ok f e => match unlockE i e₀ e with
    | some e1 => .ok (brk2nx f) e1
    | none => .bad
  | .exc x e => match unlockE i e₀ e with
    | some e1 => .exc x e1
    | none => .bad
def frRun (turn : D → Sc) : Src → Env → Res Fl
  | .vals ds, e => offS (frGo turn ds e)
  | .slot i en, e => match lockE i e with
    | none => .bad
    | some e1 => unlkS i e (frGoN turn (itemAt i en) 1000000 0 e1)
def frS (tg : List Nat) (pair : Bool) (w : Env → Res Src) (b : Sc) : Sc := fun e => (w e).bind fun p e1 => frRun (frTurn tg pair b) p e1
def whGo (t : Env → Res Bool) (b : Sc) : Nat → Env → Res Fl
  | 0, _ => .bad
  | n + 1, e => (t e).bind fun k e1 => if k = true then (b e1).bind fun f e2 => match f with
      | .nx => whGo t b n e2
      | .ct => whGo t b n e2
      | .br => .ok .nx e2
      | .rt r => .ok (.rt r) e2
    else .ok .nx e1
def whS (t : Env → Res Bool) (b : Sc) : Sc := whGo t b 1000000
def raiS (cls : String) (fs : List Str) (cs : List Vc) : Sc := fun e => if fs = [] then .bad else (vEs cs e).bind fun ds e1 => if ds.length = fs.length ∧ 0 < fs.length ∧ fs.length ≤ 9 then .exc ⟨Str.ofString cls, (fs.zip ds).reverse⟩ e1 else .bad
def flOk (i : Nat) : Fl → Bool
  | .rt (.slot j) => j != i
  | _ => true
def traS (G : Gm) (i : Nat) (cs : List String) (b su : Sc) : Sc := fun e => if noXc e = true ∧ (cs.all fun x => G.kn.contains x) = true then match b e with
    | .bad => .bad
    | .ok f e1 => .ok f e1
    | .exc x e1 => match anyX G x.cls cs with
      | none => .bad
      | some false => .exc x e1
      | some true => match e1[i]? with
        | some .un => match su (e1.set i (.xc x)) with
          | .ok f e2 => if noXc (e2.set i .un) = true ∧ flOk i f = true ∧ i < e2.length then .ok f (e2.set i .un) else .bad
          | _ => .bad
        | _ => .bad
  else .bad
def troS (G : Gm) (cs : List String) (b su : Sc) : Sc := fun e => if noXc e = true ∧ (cs.all fun x => G.kn.contains x) = true then match b e with
    | .bad => .bad
    | .ok f e1 => .ok f e1
    | .exc x e1 => match anyX G x.cls cs with
      | none => .bad
      | some false => .exc x e1
      | some true => match su e1 with
        | .ok f e2 => .ok f e2
        | _ => .bad
  else .bad
def stoC (i : Nat) (k : Vc) (d : D) (f : Env → Res Fl) : Env → Res Fl := fun e => (ofO (muO e[i]?) e).bind fun _ e2 => (vE k e2).bind fun n e3 => (ofO (muO e3[i]?) e3).bind fun p e4 => (ofO (stoD p.2 n d) e4).bind fun c e5 => f (e5.set i (.mu p.1 false c))
def twoD : D → Option (D × D)
  | .tuple [a, b] => some (a, b)
  | _ => none
def swpS (i : Nat) (k l c : Vc) : Sc := fun e => (vE c e).bind fun d e1 => (ofO (twoD d) e1).bind fun p e2 => stoC i k p.1 (stoC i l p.2 fun e => .ok .nx e) e2
mutual
def sen (G : Gm) (X : Xt) : MS → Sc
  | .asg i e => asgS i (den G e).v
  | .unp is e => unpS is (den G e).v
  | .par i j a b => parS i j (den G a).v (den G b).v
  | .par3 i j l a b c => par3S i j l (den G a).v (den G b).v (den G c).v
  | .sto i k e => stoS i (den G k).v (den G e).v
  | .aug i op e => augS i op (den G e).v
  | .app i e => appS i (den G e).v
  | .dst i k e => dstS i k (den G e).v
  | .exp e => expS (den G e).v
  | .ret e => retS (den G e).v
  | .retN => fun e => .ok (.rt (.val .none)) e
  | .ite c t f => iteS (den G c).t (sens G X t) (sens G X f)
  | .fr tg pair it b => frS tg pair (den G it).w (sens G X b)
  | .whl c b => whS (den G c).t (sens G X b)
  | .rai cls es => raiS cls (G.xc cls) (dens G es)
  | .tra i cs b su => traS G i cs (sens G X b) (sens G X su)
  | .tro cs b su => troS G cs (sens G X b) (sens G X su)
  | .swp i k l e => swpS i (den G k).v (den G l).v (den G e).v
  | .nev => fun _ => .bad
  | .pas => fun e => .ok .nx e
  | .brk => fun e => .ok .br e
  | .cnt => fun e => .ok .ct e
def sens (G : Gm) (X : Xt) : List MS → Sc
  | [] => fun e => .ok .nx e
  | s :: ss => seqS (sen G X s) (sens G X ss)
end
/-! ### defs -/
def slOf : Mo → D → Option Sl
  | .f, d => some (.fz d)
  | .b, d => some (.bo d)
  | .l, .list ds => some (.mu true false (.lst ds))
  | .l, .dict kvs => (decKv kvs).map fun k => .mu true false (.dct k)
  | _, _ => none
def startE : List Mo → List D → Option Env
  | [], [] => some []
  | m :: ms, d :: ds => (slOf m d).bind fun s => (startE ms ds).map (s :: ·)
  | _, _ => none
/-- the lent ones at the end, in order (from slot k on) -/
def lentOf : List Mo → Nat → Env → Option (List C)
  | [], _, _ => some []
  | .l :: ms, k, e => match e[k]? with
    | some (.mu true false c) => (lentOf ms (k + 1) e).map (c :: ·)
    | _ => none
  | _ :: ms, k, e => lentOf ms (k + 1) e
structure Df where
  name : String
  ps : List String
  mo : List Mo
  N : List String
  body : List MS
  /-- what the last parameters are where a call leaves them out (it always does) -/
  df : List D
def fin (ms : List Mo) (r : R) (e : Env) : FRes := match lentOf ms 0 e with
  | none => .bad
  | some cs => match r with
    | .val d => .ret d cs
    | .fresh c => .fresh c cs
    | .slot _ => .bad
def runD (G : Gm) (X : Xt) (d : Df) (ds : List D) : FRes := match startE d.mo ds with
  | none => .bad
  | some e => match sens G X d.body (e ++ List.replicate (d.N.length - e.length) .un) with
    | .bad => .bad
    | .ok (.rt r) e1 => fin d.mo r e1
    | .ok .nx e1 => fin d.mo (.val .none) e1
    | .ok _ _ => .bad
    | .exc x e1 => match lentOf d.mo 0 e1 with
      | some cs => .exc x cs
      | none => .bad
/-- the defs of a program, calls nested at most so deep -/
def gm (T : List Df) (X : Xt) : Nat → Gm
  | 0 => ⟨fun _ => none, fun _ => none, X.xc, X.sub, X.fld, X.kn⟩
  | k + 1 => ⟨fun f => (T.find? fun d => d.name == f).map fun d => (d.mo.take (d.mo.length - d.df.length), fun ds => runD (gm T X k) X d (ds ++ d.df)), fun f => (T.find? fun d => d.name == f).map fun d => (d.mo, runD (gm T X k) X d), X.xc, X.sub, X.fld, X.kn⟩
end
end Ev
set_option Elab.async false
set_option linter.all false
/-! Ev1: what the evaluator's data stand for in the abstract heap. -/
namespace Ev
open PySem PySem.Spec PyProof.Rows L2
mutual
theorem dp_mono {K : PySem.W.Frag} {F F' : Hp} (s : Same F F') : ∀ {v : V} {d : D}, Dp K F v d → Dp K F' v d
  | _, _, .non => .non
  | _, _, .bl b => .bl b
  | _, _, .int i => .int i
  | _, _, .str x => .str x
  | _, _, .lst h a => .lst (s.seq h) (dps_mono s a)
  | _, _, .tup h a => .tup (by
      rcases h with (h | ⟨o, h⟩) | h
      · exact .inl (.inl (s _ _ h))
      · exact .inl (.inr ⟨o, s _ _ h⟩)
      · exact .inr h) (dps_mono s a)
theorem dps_mono {K : PySem.W.Frag} {F F' : Hp} (s : Same F F') : ∀ {vs : List V} {ds : List D}, DpAll K F vs ds → DpAll K F' vs ds
  | _, _, .nil => .nil
  | _, _, .cons h t => .cons (dp_mono s h) (dps_mono s t)
end
theorem dps_len {K : PySem.W.Frag} {F : Hp} : ∀ {vs : List V} {ds : List D}, DpAll K F vs ds → vs.length = ds.length
  | _, _, .nil => rfl
  | _, _, .cons _ t => by simp [dps_len t]
theorem dps_app {K : PySem.W.Frag} {F : Hp} : ∀ {vs ws : List V} {ds es : List D}, DpAll K F vs ds → DpAll K F ws es → DpAll K F (vs ++ ws) (ds ++ es)
  | _, _, _, _, .nil, q => q
  | _, _, _, _, .cons h t, q => .cons h (dps_app t q)
theorem dps_get {K : PySem.W.Frag} {F : Hp} : ∀ {vs : List V} {ds : List D} {i : Nat} {d : D}, DpAll K F vs ds → ds[i]? = some d → ∃ v, vs[i]? = some v ∧ Dp K F v d
  | _, _, _, _, .nil, h => by simp at h
  | _, _, 0, _, .cons h _, e => by
    simp at e; subst e
    exact ⟨_, rfl, h⟩
  | _, _, i + 1, d, .cons _ t, e => by
    obtain ⟨v, h1, h2⟩ := dps_get (i := i) (d := d) t (by simpa using e)
    exact ⟨v, by simpa using h1, h2⟩
theorem dps_take {K : PySem.W.Frag} {F : Hp} : ∀ (n : Nat) {vs : List V} {ds : List D}, DpAll K F vs ds → DpAll K F (vs.take n) (ds.take n)
  | 0, _, _, _ => .nil
  | _ + 1, _, _, .nil => .nil
  | n + 1, _, _, .cons h t => .cons h (dps_take n t)
theorem dps_drop {K : PySem.W.Frag} {F : Hp} : ∀ (n : Nat) {vs : List V} {ds : List D}, DpAll K F vs ds → DpAll K F (vs.drop n) (ds.drop n)
  | 0, _, _, h => h
  | _ + 1, _, _, .nil => .nil
  | n + 1, _, _, .cons _ t => dps_drop n t
theorem dps_set {K : PySem.W.Frag} {F : Hp} {v : V} {d : D} (h : Dp K F v d) : ∀ (n : Nat) {vs : List V} {ds : List D}, DpAll K F vs ds → DpAll K F (vs.set n v) (ds.set n d)
  | _, _, _, .nil => .nil
  | 0, _, _, .cons _ t => .cons h t
  | n + 1, _, _, .cons g t => .cons g (dps_set h n t)
theorem dps_rev {K : PySem.W.Frag} {F : Hp} : ∀ {vs : List V} {ds : List D}, DpAll K F vs ds → DpAll K F vs.reverse ds.reverse
  | _, _, .nil => .nil
  | _, _, .cons h t => by
    rw [List.reverse_cons, List.reverse_cons]
    exact dps_app (dps_rev t) (.cons h .nil)
theorem dps_rep {K : PySem.W.Frag} {F : Hp} {vs : List V} {ds : List D} (h : DpAll K F vs ds) : ∀ n : Nat, DpAll K F (List.replicate n vs).flatten (List.replicate n ds).flatten
  | 0 => .nil
  | n + 1 => by
    rw [List.replicate_succ, List.replicate_succ, List.flatten_cons, List.flatten_cons]
    exact dps_app h (dps_rep h n)
theorem dps_cut {K : PySem.W.Frag} {F : Hp} {vs : List V} {ds : List D} (h : DpAll K F vs ds) (lo hi : Option Int) : DpAll K F (cutV vs lo hi) (cutD ds lo hi) := by
  unfold cutV cutD
  rw [dps_len h]
  exact dps_take _ (dps_drop _ h)
/-- what is fixed through a def: where lent and locked objects stand; the heap in which borrowed ones stand -/
structure Fr where
  l : Nat → Option Addr
  b : Hp
  /-- the error in hand: it, its class, its dict, its class's name -/
  xa : Option (Addr × Addr × Addr × Str)
section
variable (K : PySem.W.Frag)
inductive FsOk (F : Hp) : List (Str × V) → List (Str × D) → Prop where
  | nil : FsOk F [] []
  | cons {n : Str} {v : V} {d : D} {fs : List (Str × V)} {gs : List (Str × D)} : Dp K F v d → FsOk F fs gs → FsOk F ((n, v) :: fs) ((n, d) :: gs)
/-- a dict's pairs -/
inductive KvOk (F : Hp) : List (Key × V) → List (Str × D) → Prop where
  | nil : KvOk F [] []
  | cons {k : Str} {v : V} {d : D} {r : List (Key × V)} {s : List (Str × D)} : Dp K F v d → KvOk F r s → KvOk F ((.inr k, v) :: r) ((k, d) :: s)
/-- an object's content -/
def Cr (F : Hp) : HO → C → Prop
  | .lst xs, .lst ds => DpAll K F xs ds
  | .dK kvs, .dct ds => KvOk K F kvs ds
  | _, _ => False
/-- an object that one slot alone holds -/
structure Own (G F H : Hp) (a : Addr) (c : C) : Prop where
  f : F a = none
  g : G a = none
  h : ∃ o, H a = some o ∧ Cr K F o c
/-- a thing that is read alone -/
def Br (G F : Hp) (v : V) (d : D) : Prop := Dp K F v d ∨ ∃ a xs ds, v = .ref a ∧ d = .list ds ∧ SqL K G a xs ∧ DpAll K F xs ds
def SlOk (L : Fr) (G F H : Hp) (i : Nat) (o : Option V) : Sl → Prop
  | .un => True
  | .fz d => ∃ v, o = some v ∧ Dp K F v d
  | .bo d => ∃ v, o = some v ∧ Br K L.b F v d
  | .mu t k c => ∃ a, o = some (.ref a) ∧ Own K G F H a c ∧ (t = true ∨ k = true → L.l i = some a)
  | .xc x => ∃ a C dd fs, L.xa = some (a, C, dd, x.cls) ∧ o = some (.ref a) ∧ L.b dd = some (.xd fs) ∧ FsOk K F fs x.fs
def isMu (e : Env) (i : Nat) : Prop := ∃ t k c, e[i]? = some (.mu t k c)
abbrev sg (σ : L2.St) (i : Nat) : Option V := σ.getD i none
structure Rel (L : Fr) (G F H : Hp) (σ : L2.St) (e : Env) : Prop where
  fh : Same F H
  gh : Same G H
  len : σ.length = e.length
  sl : ∀ i s, e[i]? = some s → SlOk K L G F H i (sg σ i) s
  ap : ∀ i j a, i ≠ j → isMu e i → isMu e j → sg σ i = some (.ref a) → sg σ j ≠ some (.ref a)
  bg : Same L.b G
structure Step (G F F' : Hp) : Prop where
  s : Same F F'
  g : ∀ a, G a ≠ none → F' a = F a
def ROk (G F H : Hp) (σ : L2.St) (e : Env) : R → V → Prop
  | .val d, v => Dp K F v d
  | .slot i, v => sg σ i = some v
  | .fresh c, v => ∃ p, v = .ref p ∧ Own K G F H p c ∧ ∀ i, isMu e i → sg σ i ≠ some (.ref p)
/-- as an argument: a value, or a list that stands there now -/
def Ar (F H : Hp) (v : V) (d : D) : Prop := Dp K F v d ∨ ∃ a xs ds, v = .ref a ∧ d = .list ds ∧ SqL K H a xs ∧ DpAll K F xs ds
end
theorem Step.refl (G F : Hp) : Step G F F := ⟨Same.refl F, fun _ _ => rfl⟩
theorem Step.trans {G F F1 F2 : Hp} (a : Step G F F1) (b : Step G F1 F2) : Step G F F2 := ⟨a.s.trans b.s, fun x h => (b.g x h).trans (a.g x h)⟩
section
variable {K : PySem.W.Frag} {L : Fr} {G F F' H H' : Hp} {σ : L2.St} {e : Env} {v : V} {d : D} {a p : Addr} {c : C} {o : HO} {i : Nat} {s : Sl}
theorem kv_mono {K : PySem.W.Frag} {F F' : Hp} (st : Same F F') {kvs : List (Key × V)} {ds : List (Str × D)} (h : KvOk K F kvs ds) : KvOk K F' kvs ds := by
  induction h with
  | nil => exact .nil
  | cons h _ ih => exact .cons (dp_mono st h) ih
theorem fs_mono {K : PySem.W.Frag} {F F' : Hp} (st : Same F F') {kvs : List (Str × V)} {ds : List (Str × D)} (h : FsOk K F kvs ds) : FsOk K F' kvs ds := by
  induction h with
  | nil => exact .nil
  | cons h _ ih => exact .cons (dp_mono st h) ih
theorem cr_mono (st : Same F F') {o : HO} {c : C} (h : Cr K F o c) : Cr K F' o c := by
  cases c with
  | lst ds =>
    cases o <;> first | exact (show False from h).elim | skip
    exact dps_mono st h
  | dct ds =>
    cases o <;> first | exact (show False from h).elim | skip
    exact kv_mono st h
theorem Ar.dp (fh : Same F H) (h : Ar K F H v d) : Dp K H v d := by
  rcases h with h | ⟨a, xs, ds, rfl, rfl, h1, h2⟩
  · exact dp_mono fh h
  · exact .lst h1 (dps_mono fh h2)
theorem Br.mono (st : Same F F') (h : Br K G F v d) : Br K G F' v d := by
  rcases h with h | ⟨a, xs, ds, rfl, rfl, h1, h2⟩
  · exact .inl (dp_mono st h)
  · exact .inr ⟨a, xs, ds, rfl, rfl, h1, dps_mono st h2⟩
theorem Br.ar (gh : Same G H) (h : Br K G F v d) : Ar K F H v d := by
  rcases h with h | ⟨a, xs, ds, rfl, rfl, h1, h2⟩
  · exact .inl h
  · exact .inr ⟨a, xs, ds, rfl, rfl, gh.seq h1, h2⟩
theorem Own.ar {ds : List D} (h : Own K G F H a (.lst ds)) : Ar K F H (.ref a) (.list ds) := by
  obtain ⟨_, _, o, h1, h2⟩ := h
  · cases o <;> first | exact (show False from h2).elim | skip
    exact .inr ⟨a, _, ds, rfl, rfl, SqL.of h1, h2⟩
/-- the heaps grow, what slots hold stays -/
theorem Rel.grow (r : Rel K L G F H σ e) (fh : Same F' H') (hh : Same H H') (st : Same F F') (nw : ∀ a, H a ≠ none → F' a = F a) : Rel K L G F' H' σ e ∧ Step G F F' := by
  refine ⟨⟨fh, r.gh.trans hh, r.len, fun i s h => ?_, r.ap, r.bg⟩, st, fun a h => nw a fun z => h (r.gh.free z)⟩
  have q := r.sl i s h
  cases s with
  | un => trivial
  | fz d => obtain ⟨v, e1, q⟩ := q; exact ⟨v, e1, dp_mono st q⟩
  | bo d => obtain ⟨v, e1, q⟩ := q; exact ⟨v, e1, q.mono st⟩
  | xc x => obtain ⟨a, C, dd, fs, x1, x2, x3, x4⟩ := q; exact ⟨a, C, dd, fs, x1, x2, x3, fs_mono st x4⟩
  | mu t k c =>
    obtain ⟨a, e1, ⟨q1, q2, o, q3, q4⟩, q5⟩ := q
    exact ⟨a, e1, ⟨by rw [nw a (by rw [q3]; exact fun z => nomatch z)]; exact q1, q2, o, hh _ _ q3, cr_mono st q4⟩, q5⟩
theorem same_upd {H : Hp} {p : Addr} {o : HO} (h : H p = none) : Same H (upd H p o) := fun b x q => by
  rw [upd_ne (ne_of_none q h)]
  exact q
theorem same_upd2 {F H : Hp} {p : Addr} {o : HO} (s : Same F H) : Same (upd F p o) (upd H p o) := fun b x q => by
  unfold upd at q ⊢
  split at q
  · rename_i h; rw [if_pos h]; exact q
  · rename_i h; rw [if_neg h]; exact s _ _ q
/-- a new object, for good -/
theorem Rel.lay (r : Rel K L G F H σ e) (hp : H p = none) : Rel K L G (upd F p o) (upd H p o) σ e ∧ Step G F (upd F p o) := by
  refine r.grow (same_upd2 r.fh) (same_upd hp) (same_upd (r.fh.free hp)) fun a h => ?_
  refine upd_ne ?_
  rintro rfl
  exact h hp
/-- a new object, not for good yet -/
theorem Rel.put (r : Rel K L G F H σ e) (hp : H p = none) : Rel K L G F (upd H p o) σ e :=
  (r.grow (r.fh.trans (same_upd hp)) (same_upd hp) (Same.refl F) fun _ _ => rfl).1
/-- .. now for good -/
theorem Rel.keep (r : Rel K L G F H σ e) (hp : H p = some o) (hf : F p = none) (hg : G p = none) (hn : ∀ i, isMu e i → sg σ i ≠ some (.ref p)) : Rel K L G (upd F p o) H σ e ∧ Step G F (upd F p o) := by
  have st : Same F (upd F p o) := same_upd hf
  refine ⟨⟨fun b x q => ?_, r.gh, r.len, fun i s h => ?_, r.ap, r.bg⟩, st, fun a h => ?_⟩
  · unfold upd at q
    split at q
    · rename_i h; subst h; cases q; exact hp
    · exact r.fh _ _ q
  · have q := r.sl i s h
    cases s with
    | un => trivial
    | fz d => obtain ⟨v, e1, q⟩ := q; exact ⟨v, e1, dp_mono st q⟩
    | bo d => obtain ⟨v, e1, q⟩ := q; exact ⟨v, e1, q.mono st⟩
    | xc x => obtain ⟨a, C, dd, fs, x1, x2, x3, x4⟩ := q; exact ⟨a, C, dd, fs, x1, x2, x3, fs_mono st x4⟩
    | mu t k c =>
      obtain ⟨a, e1, ⟨q1, q2, o', q3, q4⟩, q5⟩ := q
      refine ⟨a, e1, ⟨?_, q2, o', q3, cr_mono st q4⟩, q5⟩
      rw [upd_ne]
      · exact q1
      · rintro rfl
        exact hn i ⟨t, k, c, h⟩ e1
  · refine upd_ne ?_
    rintro rfl
    exact h hg
theorem dp_of_cr {ds : List D} {o : HO} (h : F p = some o) (q : Cr K F o (.lst ds)) : Dp K F (.ref p) (.list ds) := by
  · cases o <;> first | exact (show False from q).elim | skip
    exact .lst (SqL.of h) q
/-- what is read of a result -/
theorem rd_ok {r : R} (q : Rel K L G F H σ e) (h : ROk K G F H σ e r v) (hd : rd e r = some d) : Ar K F H v d := by
  cases r with
  | val d' => cases hd; exact .inl h
  | fresh c =>
    cases c <;> first | (cases hd; done) | skip
    cases hd
    obtain ⟨p, rfl, ow, _⟩ := h
    exact ow.ar
  | slot i =>
    have h : sg σ i = some v := h
    dsimp only [rd] at hd
    split at hd
    · rename_i t k c he
      cases hd
      obtain ⟨a, e1, ow, _⟩ := q.sl i _ he
      rw [h] at e1; cases e1
      exact ow.ar
    · rename_i d' he
      cases hd
      obtain ⟨w, e1, br⟩ := q.sl i _ he
      rw [h] at e1; cases e1
      exact br.ar (q.bg.trans q.gh)
    · cases hd
/-- a result whose slots' content may have turned since -/
theorem ROk.later {r : R} {e' : Env} (h : ROk K G F H σ e r v) (st : Same F F') (nf : ∀ c, r ≠ .fresh c) : ROk K G F' H' σ e' r v := by
  cases r with
  | val d => exact dp_mono st h
  | slot i => exact h
  | fresh c => exact absurd rfl (nf c)
theorem getD_set_ne {α : Type} {l : List α} {i j : Nat} {x y : α} (h : i ≠ j) : (l.set i x).getD j y = l.getD j y := by
  simp [List.getD, List.getElem?_set_ne h]
/-- a slot's object is frozen -/
theorem Rel.freeze {ds : List D} (r : Rel K L G F H σ e) (h : e[i]? = some (.mu false false (.lst ds))) : ∃ F' a, sg σ i = some (.ref a) ∧ Rel K L G F' H σ (e.set i (.fz (.list ds))) ∧ Step G F F' ∧ Dp K F' (.ref a) (.list ds) := by
  obtain ⟨a, e1, ⟨q1, q2, o, q3, q4⟩, _⟩ := r.sl i _ h
  have hi : i < e.length := (List.getElem?_eq_some_iff.mp h).1
  have st : Same F (upd F a o) := same_upd q1
  have dpa : Dp K (upd F a o) (.ref a) (.list ds) := dp_of_cr upd_same (cr_mono st q4)
  refine ⟨upd F a o, a, e1, ⟨fun b x q => ?_, r.gh, by rw [List.length_set]; exact r.len, fun j s hj => ?_, fun j k b hjk m1 m2 => ?_, r.bg⟩, ⟨st, fun b h' => upd_ne (by rintro rfl; exact h' q2)⟩, dpa⟩
  · unfold upd at q
    split at q
    · rename_i h; subst h; cases q; exact q3
    · exact r.fh _ _ q
  · by_cases hji : i = j
    · subst hji
      rw [List.getElem?_set_self hi] at hj
      cases hj
      exact ⟨_, e1, dpa⟩
    · rw [List.getElem?_set_ne hji] at hj
      have q := r.sl j s hj
      cases s with
      | un => trivial
      | fz d => obtain ⟨v, e2, q⟩ := q; exact ⟨v, e2, dp_mono st q⟩
      | bo d => obtain ⟨v, e2, q⟩ := q; exact ⟨v, e2, q.mono st⟩
      | xc x => obtain ⟨a, C, dd, fs, x1, x2, x3, x4⟩ := q; exact ⟨a, C, dd, fs, x1, x2, x3, fs_mono st x4⟩
      | mu t k c' =>
        obtain ⟨b, e2, ⟨p1, p2, o', p3, p4⟩, p5⟩ := q
        refine ⟨b, e2, ⟨?_, p2, o', p3, cr_mono st p4⟩, p5⟩
        rw [upd_ne]
        · exact p1
        · rintro rfl
          exact r.ap i j b hji ⟨_, _, _, h⟩ ⟨_, _, _, hj⟩ e1 e2
  · have mm : ∀ {m : Nat}, isMu (e.set i (.fz (.list ds))) m → isMu e m := fun {m} ⟨t, k, c', z⟩ => by
      by_cases hm : i = m
      · subst hm
        rw [List.getElem?_set_self hi] at z
        cases z
      · rw [List.getElem?_set_ne hm] at z
        exact ⟨t, k, c', z⟩
    exact r.ap j k b hjk (mm m1) (mm m2)
end
end Ev
set_option Elab.async false
set_option linter.all false
set_option maxHeartbeats 1000000
/-! Ev2: operations by values. -/
namespace Ev
open PySem PySem.Spec PyProof.Rows L2
/-- what an operation gives: an old value, a new tuple, a new list -/
inductive NV where
  | old (v : V)
  | tup (vs : List V)
  | lst (vs : List V)
def NVQ : NV → Hp → VK → Prop
  | .old v, H, Q => Q v H
  | .tup vs, H, Q => ∀ p, H p = none → Q (.ref p) (upd H p (.tup vs))
  | .lst vs, H, Q => ∀ p, H p = none → Q (.ref p) (upd H p (.lst vs))
def NVOk (K : PySem.W.Frag) (F : Hp) : NV → R → Prop
  | .old v, .val d => Dp K F v d
  | .tup vs, .val (.tuple ds) => DpAll K F vs ds
  | .lst vs, .fresh (.lst ds) => DpAll K F vs ds
  | _, _ => False
/-- what is new goes into the state -/
theorem nv_state {K : PySem.W.Frag} {L : Fr} {G F H : Hp} {σ : L2.St} {e : Env} {nv : NV} {z : R} {Q : VK} (r : Rel K L G F H σ e) (h : NVOk K F nv z)
    (q : ∀ v F' H', Rel K L G F' H' σ e → Step G F F' → ROk K G F' H' σ e z v → Q v H') : NVQ nv H Q := by
  cases nv with
  | old v =>
    cases z with
    | val d => exact q v F H r (Step.refl G F) h
    | slot i => exact (show False from h).elim
    | fresh c => exact (show False from h).elim
  | tup vs =>
    cases z with
    | val d =>
      cases d <;> first | exact (show False from h).elim | skip
      intro p hp
      obtain ⟨r', st⟩ := r.lay (o := .tup vs) hp
      exact q _ _ _ r' st (.tup (SqT.of upd_same) (dps_mono st.s h))
    | slot i => exact (show False from h).elim
    | fresh c => exact (show False from h).elim
  | lst vs =>
    cases z with
    | val d => exact (show False from h).elim
    | slot i => exact (show False from h).elim
    | fresh c =>
      cases c with
      | dct _ => exact (show False from h).elim
      | lst ds =>
        intro p hp
        refine q _ F _ (r.put hp) (Step.refl G F) ⟨p, rfl, ⟨r.fh.free hp, r.gh.free hp, .lst vs, upd_same, h⟩, fun i ⟨t, k, c, hi⟩ e1 => ?_⟩
        obtain ⟨a, e2, ⟨_, _, o, q3, _⟩, _⟩ := r.sl i _ hi
        rw [e1] at e2; cases e2
        rw [hp] at q3; cases q3
section
variable {K : PySem.W.Frag} {F H : Hp} {x : V}
theorem ar_int {i : Int} (h : Ar K F H x (.int i)) : x = .int i := by
  rcases h with h | ⟨a, xs, ds, _, e, _⟩
  · cases h; rfl
  · cases e
theorem ar_bool {b : Bool} (h : Ar K F H x (.bool b)) : x = .bl b := by
  rcases h with h | ⟨a, xs, ds, _, e, _⟩
  · cases h; rfl
  · cases e
theorem ar_none (h : Ar K F H x .none) : x = .non := by
  rcases h with h | ⟨a, xs, ds, _, e, _⟩
  · cases h; rfl
  · cases e
theorem ar_str {z : Str} (h : Ar K F H x (.str z)) : x = .str z := by
  rcases h with h | ⟨a, xs, ds, _, e, _⟩
  · cases h; rfl
  · cases e
theorem ar_tup (fh : Same F H) {ds : List D} (h : Ar K F H x (.tuple ds)) : ∃ a xs, x = .ref a ∧ SqT K H a xs ∧ SqT K F a xs ∧ DpAll K F xs ds := by
  rcases h with h | ⟨a, xs, ds, _, e, _⟩
  · have h' := dp_mono fh h
    cases h with
    | tup h1 h2 =>
      refine ⟨_, _, rfl, ?_, h1, h2⟩
      rcases h1 with (h | ⟨o, h⟩) | h
      · exact .inl (.inl (fh _ _ h))
      · exact .inl (.inr ⟨o, fh _ _ h⟩)
      · exact .inr h
  · cases e
theorem ar_lst (fh : Same F H) {ds : List D} (h : Ar K F H x (.list ds)) : ∃ a xs, x = .ref a ∧ SqL K H a xs ∧ DpAll K F xs ds := by
  rcases h with h | ⟨a, xs, ds', rfl, e, h1, h2⟩
  · cases h with
    | lst h1 h2 => exact ⟨_, _, rfl, fh.seq h1, h2⟩
  · cases e
    exact ⟨a, xs, rfl, h1, h2⟩
end
/-- an operation f does what g tells -/
def OpD (X : Cx) (f : Value → Value → Sem Value) (g : D → D → Option R) : Prop :=
  ∀ (pins : List (Addr × Obj)) (s : Shared) (σ : L2.St) (H F : Hp) (x y : V) (d e : D) (z : R) (v u : Value) (Q : VK), Inv X pins σ H s → Same F H → RelV x v → RelV y u → Ar X.K F H x d → Ar X.K F H y e → g d e = some z →
    (∀ nv, NVOk X.K F nv z → NVQ nv H Q) → wpAny (model X.prog X.w) X.A (f v u) (EP X pins σ Q) X.xe s
section
variable {X : Cx}
theorem opd_of {f : Value → Value → Sem Value} {r : R2} {g : D → D → Option R} (h : OpR X f r) (k : ∀ (H F : Hp) (x y : V) (d e : D) (z : R) (Q : VK), Same F H → Ar X.K F H x d → Ar X.K F H y e → g d e = some z → (∀ nv, NVOk X.K F nv z → NVQ nv H Q) → r x y H Q) : OpD X f g :=
  fun pins s σ H F x y d e z v u Q I fh rx ry hx hy hg hq => h pins s σ H x y v u Q I rx ry (k H F x y d e z Q fh hx hy hg hq)
theorem big_eq : big = sizeLine := rfl
theorem list_cat {pins : List (Addr × Obj)} {s : Shared} {σ : L2.St} {H : Hp} {a b : Addr} {xs ys : List V} {Q : VK} (I : Inv X pins σ H s) (ha : SqL X.K H a xs) (hb : SqL X.K H b ys) (hz : xs.length + ys.length ≤ sizeLine)
    (q : ∀ p, H p = none → Q (.ref p) (upd H p (.lst (xs ++ ys)))) : wpAny (model X.prog X.w) X.A (binaryOp .Add (.ref a) (.ref b)) (EP X pins σ Q) X.xe s := by
  obtain ⟨vs, rv, pl, _⟩ := I.list ha
  obtain ⟨ws, rw', pl2, _⟩ := I.list hb
  obtain ⟨⟨c1, d1, t1, l1⟩, o1, k1, n1, m1⟩ := pl.isList
  obtain ⟨⟨c2, d2, t2, l2⟩, o2, k2, n2, m2⟩ := pl2.isList
  simp only at k1 m1 k2 m2
  subst k1 m1 k2 m2
  have e : vs.toArray ++ ws.toArray = (vs ++ ws).toArray := by simp
  have lz : (vs ++ ws).length ≤ sizeLine := by rw [List.length_append, ← rv.length, ← rw'.length]; exact hz
  have cat := list_addW a b vs.toArray ws.toArray n1 n2 d1 d2 l1 l2 (by
    rw [List.size_toArray, List.size_toArray, ← List.length_append]
    exact lz)
  refine concat_meets ⟨_, o1, rfl⟩ ⟨_, o2, rfl⟩ noFill_list_add seq_list_add PySem.F.slot_list_add PySem.F.entry_list_add (PySem.F.args_list_add_2 _ _) cat ⟨o1, o2, ?_⟩
  rw [e]
  refine ⟨.ref s.heap.objs.size, upd H s.heap.objs.size (.lst (xs ++ ys)), ?_, rfl, q _ (I.hok.fresh (Nat.le_refl _))⟩
  refine I.laid (t' := s.toks) (fun _ _ z => Heap.get?_push_of_some _ z) (Nat.le_refl _) ?_
  exact ⟨by rw [List.length_append]; exact hz, vs ++ ws, 0, rv.append rw', Heap.get?_push_size _ rfl⟩
theorem list_rep {pins : List (Addr × Obj)} {s : Shared} {σ : L2.St} {H : Hp} {a : Addr} {xs : List V} {k : Int} {t : Tok} {Q : VK} (I : Inv X pins σ H s) (ha : SqL X.K H a xs) (h1 : -(2 ^ 63) ≤ k) (h2 : k < 2 ^ 63) (hz : xs.length * k.toNat ≤ sizeLine)
    (q : ∀ p, H p = none → Q (.ref p) (upd H p (.lst (List.replicate k.toNat xs).flatten))) : wpAny (model X.prog X.w) X.A (binaryOp .Mult (.ref a) (.int k t)) (EP X pins σ Q) X.xe s := by
  obtain ⟨vs, rv, pl, _⟩ := I.list ha
  obtain ⟨⟨c1, d1, t1, l1⟩, o1, k1, n1, m1⟩ := pl.isList
  simp only at k1 m1
  subst k1 m1
  have lz : vs.toArray.size * k.toNat ≤ 2 ^ 24 := by rw [List.size_toArray, ← rv.length]; exact hz
  have go := lm_list_mul_any a vs.toArray n1 d1 l1 k t (by simp [Builtin.List.listFitsIndex]; omega) (by omega) (by simp [Builtin.List.listTooLong, sizeLine]; omega)
  refine wpAny_binaryOp_repeat_ref (T := "list") (U := "int") (by decide) ⟨_, o1, rfl⟩ (fun s' => typeIs_int s' k t) noFill_list_mul F.fills_int_mul F.slot_int_rmul repeat_list F.slot_int_index.lookup ?_
  refine call_meets F.slot_int_rmul (typeIs_int s k t) F.entry_int_rmul (F.args_int_rmul_2 _ _) (lm_int_rmul_list_any k t a vs.toArray n1 d1 l1) ⟨o1, rfl, ⟨_, o1, rfl⟩, ?_⟩
  refine call_meets F.slot_list_mul ⟨_, o1, rfl⟩ F.entry_list_mul (F.args_list_mul_2 _ _) go ⟨o1, ?_⟩
  rw [listMul_foldl_if]
  refine ⟨.ref s.heap.objs.size, upd H s.heap.objs.size (.lst (List.replicate k.toNat xs).flatten), ?_, rfl, q _ (I.hok.fresh (Nat.le_refl _))⟩
  refine I.laid (t' := s.toks) (fun _ _ z => Heap.get?_push_of_some _ z) (Nat.le_refl _) ?_
  have rr : ∀ n : Nat, Vals (List.replicate n xs).flatten (List.replicate n vs).flatten := by
    intro n
    induction n with
    | zero => exact .nil
    | succ n ih =>
      rw [List.replicate_succ, List.replicate_succ, List.flatten_cons, List.flatten_cons]
      exact rv.append ih
  refine ⟨?_, (List.replicate k.toNat vs).flatten, 0, rr _, Heap.get?_push_size _ rfl⟩
  have : (List.replicate k.toNat xs).flatten.length = k.toNat * xs.length := by simp
  rw [this, Nat.mul_comm]
  exact hz
theorem opd_add : OpD X (binaryOp .Add) (bop .Add) := by
  intro pins s σ H F x y d e z v u Q I fh rx ry hx hy hg hq
  cases d <;> cases e <;> simp only [bop, reduceCtorEq] at hg
  · rename_i i j
    cases hg
    rw [ar_int hx] at rx; rw [ar_int hy] at ry
    exact op_add pins s σ H _ _ v u Q I rx ry ⟨i, j, rfl, rfl, hq (.old _) (.int _)⟩
  · rename_i a b
    split at hg
    · rename_i hz
      cases hg
      rw [ar_str hx] at rx; rw [ar_str hy] at ry
      exact op_add_str pins s σ H _ _ v u Q I rx ry ⟨a, b, rfl, rfl, hz, hq (.old _) (.str _)⟩
    · cases hg
  · rename_i xs ys
    split at hg
    · rename_i hz
      cases hg
      obtain ⟨a, vs, rfl, h1, h2⟩ := ar_lst fh hx
      obtain ⟨b, ws, rfl, h3, h4⟩ := ar_lst fh hy
      cases rx; cases ry
      rw [← dps_len h2, ← dps_len h4] at hz
      exact list_cat I h1 h3 hz (hq (.lst (vs ++ ws)) (dps_app h2 h4))
    · cases hg
  · rename_i xs ys
    split at hg
    · rename_i hz
      cases hg
      obtain ⟨a, vs, rfl, h1, h1', h2⟩ := ar_tup fh hx
      obtain ⟨b, ws, rfl, h3, h3', h4⟩ := ar_tup fh hy
      rw [← dps_len h2, ← dps_len h4] at hz
      refine op_catA pins s σ H _ _ v u Q I rx ry ⟨a, b, vs, ws, rfl, rfl, h1, h3, hz, fun e => ?_, fun _ e => ?_, fun _ _ => hq (.tup (vs ++ ws)) (dps_app h2 h4)⟩
      · subst e
        cases h2
        exact hq (.old _) (.tup h3' h4)
      · subst e
        cases h4
        rw [List.append_nil] at hq
        exact hq (.old _) (.tup h1' h2)
    · cases hg
theorem opd_mul : OpD X (binaryOp .Mult) (bop .Mult) := by
  intro pins s σ H F x y d e z v u Q I fh rx ry hx hy hg hq
  cases d <;> cases e <;> simp only [bop, reduceCtorEq] at hg
  · rename_i i j
    split at hg
    · rename_i hc
      cases hg
      rw [ar_int hx] at rx; rw [ar_int hy] at ry
      exact op_mul pins s σ H _ _ v u Q I rx ry ⟨i, j, rfl, rfl, hc, hq (.old _) (.int _)⟩
    · cases hg
  · rename_i xs k
    split at hg
    · rename_i hc
      obtain ⟨c1, c2, c3⟩ := hc
      cases hg
      obtain ⟨a, vs, rfl, h1, h2⟩ := ar_lst fh hx
      rw [ar_int hy] at ry
      obtain ⟨t, rfl⟩ := ry
      cases rx
      rw [← dps_len h2] at c3
      exact list_rep I h1 c1 c2 c3 (hq (.lst _) (dps_rep h2 _))
    · cases hg
  · rename_i xs k
    split at hg
    · rename_i hc
      obtain ⟨c1, c2, c3, c4⟩ := hc
      cases hg
      obtain ⟨a, vs, rfl, h1, h1', h2⟩ := ar_tup fh hx
      rw [ar_int hy] at ry
      rw [← dps_len h2] at c4
      refine op_repT pins s σ H _ _ v u Q I rx ry ⟨a, k, vs, rfl, rfl, h1, ?_, c2, c3, c4, hq (.tup _) (dps_rep h2 _)⟩
      rintro rfl
      cases h2
      exact c1 rfl
    · cases hg
theorem opd_int {op : Operator} {C : Int → Int → Prop} {g : Int → Int → Int} {f : Int → Int → Option R} (h : OpR X (binaryOp op) (rI C fun i j => .int (g i j))) (hb : ∀ d e z, bop op d e = some z → ∃ i j, d = .int i ∧ e = .int j ∧ C i j ∧ z = .val (.int (g i j))) : OpD X (binaryOp op) (bop op) := by
  intro pins s σ H F x y d e z v u Q I fh rx ry hx hy hg hq
  obtain ⟨i, j, rfl, rfl, hc, rfl⟩ := hb d e z hg
  rw [ar_int hx] at rx; rw [ar_int hy] at ry
  exact h pins s σ H _ _ v u Q I rx ry ⟨i, j, rfl, rfl, hc, hq (.old _) (.int _)⟩
theorem opd_int0 {op : Operator} {g : Int → Int → Int} (h : OpR X (binaryOp op) (rI0 fun i j => .int (g i j))) (hb : ∀ d e z, bop op d e = some z → ∃ i j, d = .int i ∧ e = .int j ∧ z = .val (.int (g i j))) : OpD X (binaryOp op) (bop op) := by
  intro pins s σ H F x y d e z v u Q I fh rx ry hx hy hg hq
  obtain ⟨i, j, rfl, rfl, rfl⟩ := hb d e z hg
  rw [ar_int hx] at rx; rw [ar_int hy] at ry
  exact h pins s σ H _ _ v u Q I rx ry ⟨i, j, rfl, rfl, hq (.old _) (.int _)⟩
theorem bop_i {op : Operator} {g : Int → Int → Int} {C : Int → Int → Prop} [∀ i j, Decidable (C i j)] (h : ∀ i j, bop op (.int i) (.int j) = if C i j then some (.val (.int (g i j))) else none) (h2 : ∀ d e z, bop op d e = some z → ∃ i j, d = .int i ∧ e = .int j) :
    ∀ d e z, bop op d e = some z → ∃ i j, d = .int i ∧ e = .int j ∧ C i j ∧ z = .val (.int (g i j)) := by
  intro d e z hz
  obtain ⟨i, j, rfl, rfl⟩ := h2 d e z hz
  rw [h] at hz
  split at hz
  · rename_i c
    cases hz
    exact ⟨i, j, rfl, rfl, c, rfl⟩
  · cases hz
theorem opd_all : ∀ op : Operator, OpD X (binaryOp op) (bop op) := by
  intro op
  cases op
  case Add => exact opd_add
  case Mult => exact opd_mul
  case Sub => exact opd_int0 op_sub fun d e z hz => by cases d <;> cases e <;> simp only [bop, reduceCtorEq] at hz; cases hz; exact ⟨_, _, rfl, rfl, rfl⟩
  case FloorDiv => exact opd_int (f := fun _ _ => none) op_fdivW (bop_i (g := fun i j => i / j) (C := fun _ j => 0 < j ∧ j.natAbs.log2 < 9000) (fun i j => rfl) fun d e z hz => by cases d <;> cases e <;> simp only [bop, reduceCtorEq] at hz; exact ⟨_, _, rfl, rfl⟩)
  case Mod => exact opd_int (f := fun _ _ => none) op_mod (bop_i (g := fun i j => i % j) (C := fun _ j => 0 < j) (fun i j => rfl) fun d e z hz => by cases d <;> cases e <;> simp only [bop, reduceCtorEq] at hz; exact ⟨_, _, rfl, rfl⟩)
  case Pow => exact opd_int (f := fun _ _ => none) op_pow (bop_i (g := fun i j => i ^ j.toNat) (C := fun i j => 0 ≤ j ∧ j ≤ 1000000 ∧ i.natAbs < 2 ^ 64) (fun i j => rfl) fun d e z hz => by cases d <;> cases e <;> simp only [bop, reduceCtorEq] at hz; exact ⟨_, _, rfl, rfl⟩)
  case LShift => exact opd_int (f := fun _ _ => none) op_shl (bop_i (g := fun i j => i * 2 ^ j.toNat) (C := fun i j => 0 ≤ j ∧ j ≤ 1000000 ∧ i.natAbs < 2 ^ 64) (fun i j => rfl) fun d e z hz => by cases d <;> cases e <;> simp only [bop, reduceCtorEq] at hz; exact ⟨_, _, rfl, rfl⟩)
  case RShift => exact opd_int (f := fun _ _ => none) op_shr (bop_i (g := fun i j => i / 2 ^ j.toNat) (C := fun _ j => 0 ≤ j) (fun i j => rfl) fun d e z hz => by cases d <;> cases e <;> simp only [bop, reduceCtorEq] at hz; exact ⟨_, _, rfl, rfl⟩)
  case BitAnd => exact opd_int0 op_and fun d e z hz => by cases d <;> cases e <;> simp only [bop, reduceCtorEq] at hz; cases hz; exact ⟨_, _, rfl, rfl, rfl⟩
  case BitXor => exact opd_int0 op_xor fun d e z hz => by cases d <;> cases e <;> simp only [bop, reduceCtorEq] at hz; cases hz; exact ⟨_, _, rfl, rfl, rfl⟩
  case BitOr => exact opd_int0 op_or fun d e z hz => by cases d <;> cases e <;> simp only [bop, reduceCtorEq] at hz; cases hz; exact ⟨_, _, rfl, rfl, rfl⟩
  all_goals
    intro pins s σ H F x y d e z v u Q I fh rx ry hx hy hg hq
    cases d <;> cases e <;> simp only [bop, reduceCtorEq] at hg
end
end Ev
set_option Elab.async false
set_option linter.all false
set_option maxHeartbeats 2000000
set_option maxRecDepth 100000
/-! Ev2s: sorting tuples the first of which is empty: each is asked by its own __lt__. -/
namespace Ev
open PySem PySem.W PySem.Calls PyProof.Rows PySem.SeqAt
section
variable {A : Around} {s : Shared}
theorem ask_tuple {prog : Program} {w : World} {E : Value → Shared → Prop} {Q : Value → Shared → Prop} {l b : Addr} {its jts : Array Value} {e r : Nat → Bool} (hl : s.heap.IsTuple l its) (hb : s.heap.IsTuple b jts)
    (he : ∀ j (q1 : j < its.size) (q2 : j < jts.size), EqAt A.in1 s its[j] jts[j] (e j)) (hr : ∀ j (q1 : j < its.size) (q2 : j < jts.size), e j = false → RcLt A.in1 s its[j] jts[j] (r j))
    (k : Q (.bool (firstLt e r (decide (its.size < jts.size)) (List.range (min its.size jts.size)))) s) : wpAny (model prog w) A (call (.builtin "tuple.__lt__") [.ref l, .ref b]) Q E s := by
  obtain ⟨⟨c1, d1, t1, z1⟩, o1, p1, n1, y1⟩ := id hl
  obtain ⟨⟨c2, d2, t2, z2⟩, o2, p2, n2, y2⟩ := id hb
  simp only at p1 y1 p2 y2
  subst p1 y1 p2 y2
  exact call_meets F.slot_tuple_lt ⟨_, o1, rfl⟩ F.entry_tuple_lt (F.args_tuple_lt_2 _ _) (tuple_ltAt l b its jts n1 n2 d1 d2 z1 z2 e r) ⟨o1, o2, he, hr, k⟩
end
section
variable {prog : Program} {w : World} {A : Around} {E : Value → Shared → Prop} {s : Shared}
theorem one_tuple {xs ys : List PyData} {a b : Value} {as bs : List Addr} {Q : Bool → Shared → Prop} (ra : Reads s.heap a (.tuple xs) as) (rb : Reads s.heap b (.tuple ys) bs) (h : alike (.tuple xs) (.tuple ys) = true)
    (hu : A.units + min (PyData.depth (.tuple xs)) (PyData.depth (.tuple ys)) < cLine) (hq : Q (dataLt (.tuple xs) (.tuple ys)) s) : wpAny (model prog w) A (oneLt' true a b) Q E s := by
  have hal : alikeAll xs ys = true := by simpa [alike] using h
  cases ra with
  | @tuple l o vs n _ as₁ a1 a2 a3 a4 =>
    cases rb with
    | @tuple l' o' vs' n' _ bs₁ b1 b2 b3 b4 =>
      have n1 : vs.size = xs.length := by simpa using SeqAt.ReadsAll.length _ _ _ a4
      have n2 : vs'.size = ys.length := by simpa using SeqAt.ReadsAll.length _ _ _ b4
      rw [dataLt_tuple, ← firstLt_toks xs ys hal, ← n1, ← n2] at hq
      rw [oneLt'_eq]
      simp only [if_true]
      refine wpAny_bind (wpAny_cRoomFor (room_here hu) ?_)
      refine wpAny_bind (wpAny_callSpecialIfBound?_slot (T := "tuple") ⟨_, a1, a2⟩ F.slot_tuple_lt (ask_tuple (e := pairEq xs ys) (r := fun j => dataLt (xs.getD j .none) (ys.getD j .none)) ⟨_, a1, a2, _, a3⟩ ⟨_, b1, b2, _, b3⟩ (fun j j1 j2 => ?_) (fun j j1 j2 hj => ?_) ?_))
      · have := eqAt_alikeAll xs ys A.in1 s vs.toList vs'.toList _ _ a4 b4 hal (room_in hu) j (by simpa using j1) (by simpa using j2)
        simpa using this
      · have := rcLt_alikeAll xs ys A.in1 s vs.toList vs'.toList _ _ a4 b4 hal (room_in hu) j (by simpa using j1) (by simpa using j2) hj
        simpa using this
      · exact wpAny_truthy_bool hq
variable {M : Model}
theorem first_of {v : Value} {xs : List PyData} {as : List Addr} {Q : Option Value → Shared → Prop} (r : Reads s.heap v (.tuple xs) as) (h : ∀ o, (xs = [] → o = none) → Q o s) : wpAny M A (firstOfTuple' v) Q E s := by
  have lk : Looks M s.heap (typeOf v) (Value.type "tuple") := looks_reads (M := M) r
  cases r with
  | @tuple l o vs n _ _ a1 a2 a3 a4 =>
    rw [kas_first_eq]
    refine wpAny_bind (lk.here ?_)
    rw [if_neg (show ¬ (Value.type "tuple" != Value.type "tuple") = true by decide)]
    refine wpAny_bind (listItems_at a1 a3 (wpAny_pure (h _ fun e => ?_)))
    subst e
    have : vs.size = 0 := by simpa using SeqAt.ReadsAll.length _ _ _ a4
    simp [this]
theorem firsts_of : ∀ {vs : List Value} {Q : List (Option Value) → Shared → Prop}, (∀ v ∈ vs, ∃ xs as, Reads s.heap v (.tuple xs) as) → (∀ os, os.length = vs.length → Q os s) → wpAny M A (vs.mapM firstOfTuple') Q E s
  | [], Q, _, h => by rw [List.mapM_nil]; exact wpAny_pure (h [] rfl)
  | v :: vs, Q, hv, h => by
    rw [List.mapM_cons]
    obtain ⟨xs, as, r⟩ := hv v List.mem_cons_self
    refine wpAny_bind (first_of r fun o _ => wpAny_bind (firsts_of (Q := fun bs s' => wpAny M A (pure (o :: bs)) Q E s') (fun u hu => hv u (List.mem_cons_of_mem _ hu)) fun os hl => wpAny_pure (h (o :: os) (by simp [hl]))))
theorem kind_of {vs : List Value} {Q : SortKind → Shared → Prop} (h2 : 2 ≤ vs.length) (hv : ∀ v ∈ vs, ∃ xs as, Reads s.heap v (.tuple xs) as) (h0 : ∃ v rest as, vs = v :: rest ∧ Reads s.heap v (.tuple []) as) (h : Q oneType' s) : wpAny M A (keyKind' vs.toArray) Q E s := by
  obtain ⟨v, rest, as, rfl, r0⟩ := h0
  rw [keyKind'_eq, List.mapM_toArray, map_eq_pure_bind]
  refine wpAny_bind (wpAny_bind ?_)
  rw [List.mapM_cons]
  refine wpAny_bind (first_of r0 fun o ho => wpAny_bind (firsts_of (fun u hu => hv u (List.mem_cons_of_mem _ hu)) fun os hl => wpAny_pure (wpAny_pure ?_)))
  rw [ho rfl]
  rw [if_neg (by simp), if_neg (by simp)]
  rw [oneTypeOnly'_eq, List.mapM_toArray, map_eq_pure_bind]
  refine wpAny_bind (wpAny_bind (wpAny_bind (kas_mapM (r := Value.type "tuple") _ (fun u hu Q' hq => (by
    obtain ⟨xs, as, r⟩ := hv u hu
    exact (looks_reads (M := M) r).here hq)) (wpAny_pure ?_))))
  have hall : ((List.map (fun _ => Value.type "tuple") (v :: rest)).toArray.all fun x => x == Value.type "tuple") = true := by
    simp only [List.all_toArray, List.all_map, List.all_eq_true]
    intro _ _
    exact beq_self_eq_true _
  have h0 : (List.map (fun _ => Value.type "tuple") (v :: rest)).toArray[0]? = some (Value.type "tuple") := by simp
  rw [h0]
  simp only [hall, if_true]
  exact wpAny_pure (wpAny_pure h)
/-- tuples, the first of them empty -/
def Tup0 (ds : List PyData) : Prop := (∀ d ∈ ds, ∃ xs, d = PyData.tuple xs) ∧ ∃ rest, ds = .tuple [] :: rest
theorem sorts0 {vs : List Value} {ds : List PyData} (e : EachIs (fun v d => ∃ as, Reads s.heap v d as) vs ds) (hal : AllAlike ds) (hk : Tup0 ds) (hu : ∀ d, d ∈ ds → A.units + d.depth < cLine) : SortsAt prog w A s (dataKind s.heap ds) vs := by
  obtain ⟨ht, rest, e0⟩ := hk
  refine ⟨fun v hv => ?_, oneType', ?_, fun h2 E Q hq => ?_⟩
  · obtain ⟨d, hd, as, r⟩ := e.left v hv
    exact ⟨_, dataKind_some hal hd r⟩
  · intro E x y a b Q ha hb hq
    obtain ⟨d, as, hd, ra, rfl⟩ := dataKind_inv ha
    obtain ⟨d', as', hd', rb, rfl⟩ := dataKind_inv hb
    have hdd := hal d hd d' hd'
    have room := Nat.lt_of_le_of_lt (Nat.add_le_add_left (Nat.min_le_left d.depth d'.depth) A.units) (hu d hd)
    obtain ⟨xs, rfl⟩ := ht d hd
    obtain ⟨ys, rfl⟩ := ht d' hd'
    rw [keyLt'_oneType]
    exact one_tuple ra rb hdd room hq
  · refine kind_of h2 (fun v hv => ?_) ?_ hq
    · obtain ⟨d, hd, as, r⟩ := e.left v hv
      obtain ⟨xs, rfl⟩ := ht d hd
      exact ⟨xs, as, r⟩
    · subst e0
      cases e with
      | cons h _ =>
        obtain ⟨as, r⟩ := h
        exact ⟨_, _, as, rfl, r⟩
theorem sorted0 {β : Type} {vs : List Value} {bs : List β} {enc : β → PyData} {R : Value → β → Prop} {l : Addr} {Q : Value → Shared → Prop} (hl : s.heap.IsList l vs.toArray) (e : EachIs R vs bs) (er : EachIs (fun v b => ∃ as, Reads s.heap v (enc b) as) vs bs) (hal : AllAlike (bs.map enc)) (hk : Tup0 (bs.map enc)) (hL : bs.length ≤ sizeLine)
    (hu : ∀ b, b ∈ bs → A.units + 2 + (enc b).depth < cLine) (k : ∀ out, out.length = bs.length → EachIs R out (bs.mergeSort (dataLe false enc)) → Q (.ref (s.heap.objs.size + 1)) { s with heap := sortedAll s.heap vs (List.toArray out) }) :
    wpAny (model prog w) A (call (.builtin "sorted") [.ref l]) Q E s := by
  have er2 : EachIs (fun v b => ∃ as, Reads (sortingHeap (copyHeap s.heap vs) (s.heap.objs.size + 1) vs) v (enc b) as) vs bs := er.mono fun _ _ ⟨as, r⟩ => ⟨as, PyProof.Rows.Reads.keeps (fun _ _ => sorting_copy_old) r⟩
  refine sorted_vals hl (sorts0 (s := { s with heap := sortingHeap (copyHeap s.heap vs) (s.heap.objs.size + 1) vs }) (each_map (R := fun v d => ∃ as, Reads (sortingHeap (copyHeap s.heap vs) (s.heap.objs.size + 1) vs) v d as) enc er2) hal hk (bound_map hu)) (by rw [e.length]; exact hL) ?_
  exact k _ (by rw [sortVals_length false rfl]; exact e.length) (sortVals_data false e er2 hal)
theorem sorted_any {β : Type} {vs : List Value} {bs : List β} {enc : β → PyData} {R : Value → β → Prop} {l : Addr} {Q : Value → Shared → Prop} (hl : s.heap.IsList l vs.toArray) (e : EachIs R vs bs) (er : EachIs (fun v b => ∃ as, Reads s.heap v (enc b) as) vs bs) (hal : AllAlike (bs.map enc)) (hk : Sortable (bs.map enc) ∨ Tup0 (bs.map enc)) (hL : bs.length ≤ sizeLine)
    (hu : ∀ b, b ∈ bs → A.units + 2 + (enc b).depth < cLine) (k : ∀ out, out.length = bs.length → EachIs R out (bs.mergeSort (dataLe false enc)) → Q (.ref (s.heap.objs.size + 1)) { s with heap := sortedAll s.heap vs (List.toArray out) }) :
    wpAny (model prog w) A (call (.builtin "sorted") [.ref l]) Q E s := by
  rcases hk with hk | hk
  · exact sorted_data hl e er hal hk hL hu k
  · exact sorted0 hl e er hal hk hL hu k
end
end Ev
set_option Elab.async false
set_option linter.all false
set_option maxHeartbeats 1000000
/-! Ev3: comparisons, places, truth, built-ins, by values. -/
namespace Ev
open PySem PySem.Spec PyProof.Rows L2
section
variable {X : Cx}
theorem shp_lay {d : D} (h : shp d = true) : d.canLay0 = true ∧ d.depth ≤ 64 := by
  have h' : (d.canLay0 && decide (d.depth ≤ 64)) = true := h
  rw [Bool.and_eq_true] at h'
  exact ⟨h'.1, of_decide_eq_true h'.2⟩
theorem isN_ne {d : D} (h : isN d = false) : d ≠ .none := by
  rintro rfl
  cases h
theorem str_one {x : Str} (h : x.cps.size = 1) : x = ⟨#[x.cps.getD 0 0]⟩ := by
  obtain ⟨⟨l⟩⟩ := x
  match l, h with
  | [c], _ => rfl
def CmpD (X : Cx) (f : Value → Value → Sem Value) (g : D → D → Option Bool) : Prop :=
  ∀ (pins : List (Addr × Obj)) (s : Shared) (σ : L2.St) (H F : Hp) (x y : V) (d e : D) (k : Bool) (v u : Value) (Q : VK), Inv X pins σ H s → Same F H → RelV x v → RelV y u → Ar X.K F H x d → Ar X.K F H y e → g d e = some k →
    Q (.bl k) H → wpAny (model X.prog X.w) X.A (f v u) (EP X pins σ Q) X.xe s
theorem cmp_lt (hu : X.A.units + 100 < cLine) : CmpD X (compareOp .Lt) ltD := by
  intro pins s σ H F x y d e k v u Q I fh rx ry hx hy hg hq
  obtain ⟨as, r1⟩ := Dp.reads I d x v (hx.dp fh) rx
  obtain ⟨bs, r2⟩ := Dp.reads I e y u (hy.dp fh) ry
  unfold ltD at hg
  split at hg
  · rename_i i j
    cases hg
    rw [ar_int hx] at rx; rw [ar_int hy] at ry
    exact op_lt pins s σ H _ _ v u Q I rx ry ⟨i, j, rfl, rfl, hq⟩
  · rename_i a b
    cases hg
    rw [ar_str hx] at rx; rw [ar_str hy] at ry
    exact op_lt_str pins s σ H _ _ v u Q I rx ry ⟨a, b, rfl, rfl, hq⟩
  · split at hg
    · rename_i hc
      cases hg
      exact W.lt_data r1 r2 hc.1 (isN_ne hc.2.1) (by have := hc.2.2; omega) ⟨.bl _, H, I, rfl, hq⟩
    · cases hg
theorem cmp_gt (hu : X.A.units + 100 < cLine) : CmpD X (compareOp .Gt) (fun x y => ltD y x) := by
  intro pins s σ H F x y d e k v u Q I fh rx ry hx hy hg hq
  obtain ⟨as, r1⟩ := Dp.reads I d x v (hx.dp fh) rx
  obtain ⟨bs, r2⟩ := Dp.reads I e y u (hy.dp fh) ry
  dsimp only at hg
  unfold ltD at hg
  split at hg
  · rename_i i j
    cases hg
    rw [ar_int hx] at rx; rw [ar_int hy] at ry
    exact op_gt pins s σ H _ _ v u Q I rx ry ⟨j, i, rfl, rfl, hq⟩
  · rename_i a b
    cases hg
    rw [ar_str hx] at rx; rw [ar_str hy] at ry
    exact op_gt_str pins s σ H _ _ v u Q I rx ry ⟨b, a, rfl, rfl, hq⟩
  · split at hg
    · rename_i hc
      cases hg
      refine W.gt_data r1 r2 (by rw [W.alike_comm]; exact hc.1) (W.ne_none_both hc.1 (isN_ne hc.2.1)) (by have := hc.2.2; omega) ⟨.bl _, H, I, rfl, hq⟩
    · cases hg
theorem cmp_le (hu : X.A.units + 100 < cLine) : CmpD X (compareOp .LtE) leD := by
  intro pins s σ H F x y d e k v u Q I fh rx ry hx hy hg hq
  obtain ⟨as, r1⟩ := Dp.reads I d x v (hx.dp fh) rx
  obtain ⟨bs, r2⟩ := Dp.reads I e y u (hy.dp fh) ry
  unfold leD ltD at hg
  split at hg
  · rename_i i j
    simp only [Option.map_some, Option.some.injEq] at hg
    subst hg
    rw [ar_int hx] at rx; rw [ar_int hy] at ry
    refine op_le pins s σ H _ _ v u Q I rx ry ⟨j, i, rfl, rfl, ?_⟩
    have e : decide (j ≤ i) = !decide (i < j) := by
      by_cases h : i < j
      · simp [h]
      · have : j ≤ i := by omega
        simp [h, this]
    show Q (.bl (decide (j ≤ i))) H
    rw [e]
    exact hq
  · rename_i a b
    simp only [Option.map_some, Option.some.injEq] at hg
    subst hg
    rw [ar_str hx] at rx; rw [ar_str hy] at ry
    exact op_le_str pins s σ H _ _ v u Q I rx ry ⟨b, a, rfl, rfl, hq⟩
  · split at hg
    · rename_i hc
      simp only [Option.map_some, Option.some.injEq] at hg
      subst hg
      exact W.le_data r1 r2 (by rw [W.alike_comm]; exact hc.1) (W.ne_none_both hc.1 (isN_ne hc.2.1)) (by have := hc.2.2; omega) ⟨.bl _, H, I, rfl, hq⟩
    · cases hg
theorem cmp_ge (hu : X.A.units + 100 < cLine) : CmpD X (compareOp .GtE) (fun x y => leD y x) := by
  intro pins s σ H F x y d e k v u Q I fh rx ry hx hy hg hq
  obtain ⟨as, r1⟩ := Dp.reads I d x v (hx.dp fh) rx
  obtain ⟨bs, r2⟩ := Dp.reads I e y u (hy.dp fh) ry
  dsimp only at hg
  unfold leD ltD at hg
  split at hg
  · rename_i i j
    simp only [Option.map_some, Option.some.injEq] at hg
    subst hg
    rw [ar_int hx] at rx; rw [ar_int hy] at ry
    refine op_ge pins s σ H _ _ v u Q I rx ry ⟨i, j, rfl, rfl, ?_⟩
    have e : decide (j ≤ i) = !decide (i < j) := by
      by_cases h : i < j
      · simp [h]
      · have : j ≤ i := by omega
        simp [h, this]
    show Q (.bl (decide (j ≤ i))) H
    rw [e]
    exact hq
  · rename_i a b
    simp only [Option.map_some, Option.some.injEq] at hg
    subst hg
    rw [ar_str hx] at rx; rw [ar_str hy] at ry
    exact op_ge_str pins s σ H _ _ v u Q I rx ry ⟨a, b, rfl, rfl, hq⟩
  · split at hg
    · rename_i hc
      simp only [Option.map_some, Option.some.injEq] at hg
      subst hg
      exact W.ge_data r1 r2 hc.1 (isN_ne hc.2.1) (by have := hc.2.2; omega) ⟨.bl _, H, I, rfl, hq⟩
    · cases hg
theorem map_not {o : Option Bool} {k : Bool} (h : o.map (!·) = some k) : o = some (!k) := by
  cases o with
  | none => cases h
  | some b =>
    simp only [Option.map_some, Option.some.injEq] at h
    subst h
    simp
theorem in_cases {d e : D} {k : Bool} (h : inD d e = some k) : (∃ x z, d = .str x ∧ e = .str z ∧ x.cps.size = 1 ∧ k = decide (x.cps.getD 0 0 ∈ z.cps.toList)) ∨
    (∃ ys, (e = .list ys ∨ e = .tuple ys) ∧ d.canLay0 = true ∧ d.depth ≤ 64 ∧ PyData.canLayAll0 ys = true ∧ k = ys.any fun y => PyData.eqv y d) := by
  cases e with
  | str z =>
    cases d <;> simp only [inD, reduceCtorEq] at h
    rename_i x
    split at h
    · rename_i hc
      cases h
      exact .inl ⟨x, z, rfl, rfl, hc, rfl⟩
    · cases h
  | list ys =>
    have h' : (if shp d = true ∧ shp (.list ys) = true then some (ys.any fun y => PyData.eqv y d) else none) = some k := by cases d <;> exact h
    split at h'
    · rename_i hc
      cases h'
      exact .inr ⟨ys, .inl rfl, (shp_lay hc.1).1, (shp_lay hc.1).2, (shp_lay hc.2).1, rfl⟩
    · cases h'
  | tuple ys =>
    have h' : (if shp d = true ∧ shp (.tuple ys) = true then some (ys.any fun y => PyData.eqv y d) else none) = some k := by cases d <;> exact h
    split at h'
    · rename_i hc
      cases h'
      exact .inr ⟨ys, .inr rfl, (shp_lay hc.1).1, (shp_lay hc.1).2, (shp_lay hc.2).1, rfl⟩
    · cases h'
  | _ => cases d <;> cases h
theorem cmp_in (hu : X.A.units + 100 < cLine) : CmpD X (compareOp .In) inD := by
  intro pins s σ H F x y d e k v u Q I fh rx ry hx hy hg hq
  obtain ⟨as, r1⟩ := Dp.reads I d x v (hx.dp fh) rx
  obtain ⟨bs, r2⟩ := Dp.reads I e y u (hy.dp fh) ry
  rcases in_cases hg with ⟨a, z, rfl, rfl, h1, rfl⟩ | ⟨ys, rfl | rfl, l1, l2, l3, rfl⟩
  · rw [ar_str hx, str_one h1] at rx; rw [ar_str hy] at ry
    exact op_in_sign pins s σ H _ _ v u Q I rx ry ⟨_, z, rfl, rfl, hq⟩
  · exact SeqAt.in_list_reads r2 r1 l3 l1 (by omega) ⟨.bl _, H, I, rfl, hq⟩
  · exact SeqAt.in_tuple_reads r2 r1 l3 l1 (by omega) ⟨.bl _, H, I, rfl, hq⟩
theorem cmp_notIn (hu : X.A.units + 100 < cLine) : CmpD X (compareOp .NotIn) (fun x y => (inD x y).map (!·)) := by
  intro pins s σ H F x y d e k v u Q I fh rx ry hx hy hg hq
  obtain ⟨as, r1⟩ := Dp.reads I d x v (hx.dp fh) rx
  obtain ⟨bs, r2⟩ := Dp.reads I e y u (hy.dp fh) ry
  have hk : k = !!k := by simp
  rcases in_cases (map_not hg) with ⟨a, z, rfl, rfl, h1, h2⟩ | ⟨ys, rfl | rfl, l1, l2, l3, h2⟩ <;> rw [hk, h2] at hq
  · rw [ar_str hx, str_one h1] at rx; rw [ar_str hy] at ry
    exact op_notIn_sign pins s σ H _ _ v u Q I rx ry ⟨_, z, rfl, rfl, hq⟩
  · exact SeqAt.notIn_list_reads r2 r1 l3 l1 (by omega) ⟨.bl _, H, I, rfl, hq⟩
  · exact SeqAt.notIn_tuple_reads r2 r1 l3 l1 (by omega) ⟨.bl _, H, I, rfl, hq⟩
theorem is_cases {d e : D} {k : Bool} (h : isD d e = some k) : (e = .none ∧ k = isN d) ∨ (∃ a b, d = .bool a ∧ e = .bool b ∧ k = decide (a = b)) := by
  cases e with
  | none =>
    have h' : some (isN d) = some k := by cases d <;> exact h
    cases h'
    exact .inl ⟨rfl, rfl⟩
  | bool b =>
    cases d <;> simp only [isD, reduceCtorEq] at h
    cases h
    exact .inr ⟨_, _, rfl, rfl, rfl⟩
  | _ => cases d <;> cases h
theorem isN_v {K : PySem.W.Frag} {F H : Hp} {x : V} {d : D} (h : Ar K F H x d) : decide (x = V.non) = isN d := by
  rcases h with h | ⟨a, xs, ds, rfl, rfl, _⟩
  · cases h <;> rfl
  · rfl
theorem cmp_is : CmpD X (compareOp .Is) isD := by
  intro pins s σ H F x y d e k v u Q I fh rx ry hx hy hg hq
  rcases is_cases hg with ⟨rfl, rfl⟩ | ⟨a, b, rfl, rfl, rfl⟩
  · rw [ar_none hy] at ry
    exact op_isN pins s σ H _ _ v u Q I rx ry ⟨rfl, by rw [isN_v hx]; exact hq⟩
  · rw [ar_bool hx] at rx; rw [ar_bool hy] at ry
    exact op_isBl pins s σ H _ _ v u Q I rx ry ⟨a, b, rfl, rfl, hq⟩
theorem cmp_isNot : CmpD X (compareOp .IsNot) (fun x y => (isD x y).map (!·)) := by
  intro pins s σ H F x y d e k v u Q I fh rx ry hx hy hg hq
  have hk : k = !!k := by simp
  rcases is_cases (map_not hg) with ⟨rfl, h2⟩ | ⟨a, b, rfl, rfl, h2⟩ <;> rw [hk, h2] at hq
  · rw [ar_none hy] at ry
    exact op_notN pins s σ H _ _ v u Q I rx ry ⟨rfl, by rw [isN_v hx]; exact hq⟩
  · rw [ar_bool hx] at rx; rw [ar_bool hy] at ry
    exact op_notBl pins s σ H _ _ v u Q I rx ry ⟨a, b, rfl, rfl, hq⟩
theorem eq_cases {d e : D} {k : Bool} (h : eqD d e = some k) : (∃ a b, d = .str a ∧ e = .str b ∧ k = decide (a = b)) ∨ shp d = true ∧ shp e = true ∧ k = PyData.eqv d e := by
  unfold eqD at h
  split at h
  · cases h
    exact .inl ⟨_, _, rfl, rfl, rfl⟩
  · split at h
    · rename_i hc
      cases h
      exact .inr ⟨hc.1, hc.2, rfl⟩
    · cases h
theorem dec_vs (a b : Str) : decide (V.str a = V.str b) = decide (a = b) := decide_eq_decide.mpr ⟨fun h => by cases h; rfl, fun h => by rw [h]⟩
theorem cmp_eq (hu : X.A.units + 100 < cLine) : CmpD X (compareOp .Eq) eqD := by
  intro pins s σ H F x y d e k v u Q I fh rx ry hx hy hg hq
  rcases eq_cases hg with ⟨a, b, rfl, rfl, rfl⟩ | ⟨h1, h2, rfl⟩
  · rw [ar_str hx] at rx; rw [ar_str hy] at ry
    exact op_eq pins s σ H _ _ v u Q I rx ry ⟨rfl, by rw [dec_vs]; exact hq⟩
  · exact op_eqD (by omega) pins s σ H _ _ v u Q I rx ry ⟨d, e, hx.dp fh, hy.dp fh, h1, h2, hq⟩
theorem cmp_ne (hu : X.A.units + 100 < cLine) : CmpD X (compareOp .NotEq) (fun x y => (eqD x y).map (!·)) := by
  intro pins s σ H F x y d e k v u Q I fh rx ry hx hy hg hq
  rcases eq_cases (map_not hg) with ⟨a, b, rfl, rfl, h3⟩ | ⟨h1, h2, h3⟩
  · rw [ar_str hx] at rx; rw [ar_str hy] at ry
    refine op_ne pins s σ H _ _ v u Q I rx ry ⟨rfl, ?_⟩
    rw [dec_vs, ← h3]
    simpa using hq
  · refine op_neD (by omega) pins s σ H _ _ v u Q I rx ry ⟨d, e, hx.dp fh, hy.dp fh, h1, h2, ?_⟩
    rw [← h3]
    simpa using hq
theorem cmp_all (hu : X.A.units + 100 < cLine) : ∀ op : CmpOp, CmpD X (compareOp op) (cop op)
  | .Eq => cmp_eq hu
  | .NotEq => cmp_ne hu
  | .Lt => cmp_lt hu
  | .LtE => cmp_le hu
  | .Gt => cmp_gt hu
  | .GtE => cmp_ge hu
  | .Is => cmp_is
  | .IsNot => cmp_isNot
  | .In => cmp_in hu
  | .NotIn => cmp_notIn hu
/-! ### truth, places -/
theorem tru_v {K : PySem.W.Frag} {F H : Hp} {x : V} {d : D} {k : Bool} (fh : Same F H) (h : Ar K F H x d) (hd : truD d = some k) : TruV K x H k := by
  cases d with
  | none =>
    rw [ar_none h]
    cases hd; rfl
  | bool b =>
    rw [ar_bool h]
    cases hd; rfl
  | int i =>
    rw [ar_int h]
    cases hd; rfl
  | str z =>
    rw [ar_str h]
    simp only [truD] at hd
    split at hd
    · rename_i hz
      cases hd
      exact ⟨hz, rfl⟩
    · cases hd
  | list ds =>
    obtain ⟨a, xs, rfl, h1, h2⟩ := ar_lst fh h
    cases hd
    exact .inl ⟨xs, h1, by cases h2 <;> rfl⟩
  | tuple ds =>
    obtain ⟨a, xs, rfl, h1, _, h2⟩ := ar_tup fh h
    cases hd
    exact .inr (.inl ⟨xs, h1, by cases h2 <;> rfl⟩)
  | dict kvs => cases hd
theorem at_get {α β : Type} {xs : List α} {ys : List β} {i : Int} {y : β} (hl : xs.length = ys.length) (h : L2.atI ys i = some y) : ∃ j, L2.ixN xs.length i = some j ∧ ys[j]? = some y := by
  unfold L2.atI at h
  cases e : L2.ixN ys.length i with
  | none => rw [e] at h; cases h
  | some j =>
    rw [e] at h
    exact ⟨j, by rw [hl]; exact e, h⟩
theorem dps_at {K : PySem.W.Frag} {F : Hp} {xs : List V} {ds : List D} {i : Int} {d : D} (h : DpAll K F xs ds) (ha : L2.atI ds i = some d) : ∃ v, L2.atI xs i = some v ∧ Dp K F v d := by
  obtain ⟨j, h1, h2⟩ := at_get (dps_len h) ha
  obtain ⟨v, h3, h4⟩ := dps_get h h2
  refine ⟨v, ?_, h4⟩
  unfold L2.atI
  rw [h1]
  exact h3
theorem ix_ok (value slice : Expr) {pins : List (Addr × Obj)} {s : Shared} {σ : L2.St} {H F : Hp} {x y : V} {d e z : D} {v u : Value} {Q : VK} (I : Inv X pins σ H s) (fh : Same F H) (rx : RelV x v) (ry : RelV y u) (hx : Ar X.K F H x d) (hy : Ar X.K F H y e) (hg : iop d e = some z)
    (hq : ∀ w, Dp X.K F w z → Q w H) (hs : subscripted slice false v u = operate [v, u] (getItem v u)) : wpAny (model X.prog X.w) X.A (subscriptTail value slice v u) (EP X pins σ Q) X.xe s := by
  cases d <;> cases e <;> simp only [iop, reduceCtorEq] at hg
  · rename_i zs i
    rw [ar_int hy] at ry
    rw [ar_str hx] at rx
    split at hg
    · rename_i hlen
      cases ha : L2.atI zs.cps.toList i with
      | none => rw [ha] at hg; cases hg
      | some c =>
        rw [ha] at hg
        cases hg
        exact ix_str value slice pins s σ H _ _ _ _ Q I rx ry ⟨zs, i, c, rfl, rfl, hlen, ha, hq _ (.str _)⟩ hs
    · cases hg
  · rename_i ds i
    rw [ar_int hy] at ry
    obtain ⟨a, xs, rfl, h1, h2⟩ := ar_lst fh hx
    obtain ⟨w, hw, hd⟩ := dps_at h2 hg
    exact ix_list value slice pins s σ H _ _ _ _ Q I rx ry ⟨a, xs, i, w, rfl, rfl, h1, hw, hq w hd⟩ hs
  · rename_i ds i
    rw [ar_int hy] at ry
    obtain ⟨a, xs, rfl, h1, _, h2⟩ := ar_tup fh hx
    obtain ⟨w, hw, hd⟩ := dps_at h2 hg
    exact ix_tup value slice pins s σ H _ _ _ _ Q I rx ry ⟨a, xs, i, w, rfl, rfl, h1, hw, hq w hd⟩ hs
/-! ### slices, minus, isinstance -/
theorem sl_ok {pins : List (Addr × Obj)} {s : Shared} {σ : L2.St} {H F : Hp} {x : V} {d : D} {z : R} {v vl vu : Value} {lo hi : Option Int} {sl : Addr} {Q : VK} (I : Inv X pins σ H s) (fh : Same F H) (rx : RelV x v) (hx : Ar X.K F H x d) (hs : s.heap.IsSliceOf sl vl vu .none) (pl : IsPart vl lo) (pu : IsPart vu hi)
    (hg : sop d lo hi = some z) (hq : ∀ nv, NVOk X.K F nv z → NVQ nv H Q) : ∃ T id, typeLookup (.type T) "__getitem__" = pure (some (.builtin id)) ∧ s.TypeIs v T ∧ wpAny (model X.prog X.w) X.A (getItem v (.ref sl)) (EP X pins σ Q) X.xe s := by
  cases d <;> simp only [sop, reduceCtorEq] at hg
  · rename_i ds
    cases hg
    obtain ⟨a, xs, rfl, h1, h2⟩ := ar_lst fh hx
    exact sl_list pins s σ H _ v vl vu lo hi sl Q I rx hs pl pu ⟨a, xs, rfl, h1, hq (.lst (cutV xs lo hi)) (dps_cut h2 lo hi)⟩
  · rename_i ds
    cases hg
    obtain ⟨a, xs, rfl, h1, h1', h2⟩ := ar_tup fh hx
    refine sl_tupA pins s σ H _ v vl vu lo hi sl Q I rx hs pl pu ⟨a, xs, rfl, h1, fun hw => ?_, fun _ => hq (.tup (cutV xs lo hi)) (dps_cut h2 lo hi)⟩
    refine hq (.old _) (.tup (xs := xs) h1' ?_)
    have e : cutD ds lo hi = ds := by
      unfold cutD
      rw [← dps_len h2, hw.1, hw.2, List.drop_zero, Nat.sub_zero, dps_len h2, List.take_length]
    rw [e]
    exact h2
theorem isK_ty {K : PySem.W.Frag} {F H : Hp} {x : V} {d : D} {ty : String} {k : Bool} (fh : Same F H) (h : Ar K F H x d) (hk : isK d ty = some k) : ∃ t, TyX K H x t ∧ PySem.W.kitOne K t (.type ty) = some k := by
  refine ⟨.type (tyN d), ?_, kit_ty hk⟩
  cases d with
  | none => rw [ar_none h]; exact .base .non
  | bool b => rw [ar_bool h]; exact .base (.bl b)
  | int i => rw [ar_int h]; exact .base (.int i)
  | str z => rw [ar_str h]; exact .base (.str z)
  | list ds =>
    obtain ⟨a, xs, rfl, h1, _⟩ := ar_lst fh h
    rcases h1 with (h1 | ⟨o, h1⟩) | ⟨o, its, n, h1, h2, _⟩
    · exact .base (.lst h1)
    · exact .base (.frz h1)
    · exact .kList h1 h2
  | tuple ds =>
    obtain ⟨a, xs, rfl, h1, _⟩ := ar_tup fh h
    rcases h1 with (h1 | ⟨o, h1⟩) | ⟨o, its, n, h1, h2, _⟩
    · exact .base (.tup h1)
    · exact .fTuple h1
    · exact .kTuple h1 h2
  | dict kvs =>
    rcases h with h | ⟨_, _, _, _, e, _⟩
    · cases h
    · cases e
/-! ### built-ins -/
theorem ints_v {K : PySem.W.Frag} {F : Hp} : ∀ {xs : List V} {ds : List D} {ns : List Int}, DpAll K F xs ds → intsD ds = some ns → xs = ns.map V.int
  | _, _, ns, .nil, h => by cases h; rfl
  | _, _, ns, .cons (d := d) h t, e => by
    cases d <;> simp only [intsD, reduceCtorEq] at e
    rename_i ds i
    cases hr : intsD ds with
    | none => rw [hr] at e; cases e
    | some ms =>
      rw [hr] at e
      cases e
      cases h
      rw [List.map_cons, ints_v t hr]
theorem bools_v {K : PySem.W.Frag} {F : Hp} : ∀ {xs : List V} {ds : List D} {ns : List Bool}, DpAll K F xs ds → boolsD ds = some ns → xs = ns.map V.bl
  | _, _, ns, .nil, h => by cases h; rfl
  | _, _, ns, .cons (d := d) h t, e => by
    cases d <;> simp only [boolsD, reduceCtorEq] at e
    rename_i ds i
    cases hr : boolsD ds with
    | none => rw [hr] at e; cases e
    | some ms =>
      rw [hr] at e
      cases e
      cases h
      rw [List.map_cons, bools_v t hr]
/-- several arguments -/
inductive Ars (K : PySem.W.Frag) (F H : Hp) : List V → List D → Prop where
  | nil : Ars K F H [] []
  | cons {v : V} {vs : List V} {d : D} {ds : List D} : Ar K F H v d → Ars K F H vs ds → Ars K F H (v :: vs) (d :: ds)
def nameOf : Bi → Value
  | .len => .builtin "len"
  | .tuple => .type "tuple"
  | .list => .type "list"
  | .sum => .builtin "sum"
  | .any => .builtin "any"
  | .all => .builtin "all"
  | .abs => .builtin "abs"
  | .min2 => .builtin "min"
  | .max2 => .builtin "max"
  | .repr => .builtin "repr"
  | .strInt => .type "str"
  | .intB => .type "int"
  | .sorted => .builtin "sorted"
  | .minL => .builtin "min"
  | .maxL => .builtin "max"
  | _ => .none
def BiD (X : Cx) (f : Bi) : Prop :=
  ∀ (pins : List (Addr × Obj)) (s : Shared) (σ : L2.St) (H F : Hp) (xs : List V) (ds : List D) (z : R) (us : List Value) (Q : VK), Inv X pins σ H s → Same F H → Vals xs us → Ars X.K F H xs ds → bi f ds = some z →
    (∀ nv, NVOk X.K F nv z → NVQ nv H Q) → wpAny (model X.prog X.w) X.A (call (nameOf f) us) (EP X pins σ Q) X.xe s
theorem ars1 {K : PySem.W.Frag} {F H : Hp} {xs : List V} {d : D} (h : Ars K F H xs [d]) : ∃ x, xs = [x] ∧ Ar K F H x d := by
  cases h with
  | cons h t => cases t; exact ⟨_, rfl, h⟩
theorem ars2 {K : PySem.W.Frag} {F H : Hp} {xs : List V} {d e : D} (h : Ars K F H xs [d, e]) : ∃ x y, xs = [x, y] ∧ Ar K F H x d ∧ Ar K F H y e := by
  cases h with
  | cons h t =>
    obtain ⟨y, rfl, h2⟩ := ars1 t
    exact ⟨_, _, rfl, h, h2⟩
theorem one_d {ds : List D} {α : Type} {f : D → Option α} {z : α} (h : (match ds with | [d] => f d | _ => none) = some z) : ∃ d, ds = [d] ∧ f d = some z := by
  match ds, h with
  | [d], h => exact ⟨d, rfl, h⟩
theorem bi_len : BiD X .len := by
  intro pins s σ H F xs ds z us Q I fh rs ha hg hq
  match ds, hg with
  | [.list ys], hg =>
    cases hg
    obtain ⟨x, rfl, h⟩ := ars1 ha
    obtain ⟨a, vs, rfl, h1, h2⟩ := ar_lst fh h
    refine call_len_seq pins s σ H _ us Q I rs ⟨a, vs, rfl, .inl h1, ?_⟩
    rw [dps_len h2]
    exact hq (.old _) (.int _)
  | [.tuple ys], hg =>
    cases hg
    obtain ⟨x, rfl, h⟩ := ars1 ha
    obtain ⟨a, vs, rfl, h1, _, h2⟩ := ar_tup fh h
    refine call_len_seq pins s σ H _ us Q I rs ⟨a, vs, rfl, .inr h1, ?_⟩
    rw [dps_len h2]
    exact hq (.old _) (.int _)
  | [.str y], hg =>
    simp only [bi] at hg
    split at hg
    · rename_i hz
      cases hg
      obtain ⟨x, rfl, h⟩ := ars1 ha
      rw [ar_str h] at rs
      exact call_len pins s σ H _ us Q I rs ⟨.str y, y.length, rfl, ⟨hz, rfl⟩, hq (.old _) (.int _)⟩
    · cases hg
theorem bi_tuple : BiD X .tuple := by
  intro pins s σ H F xs ds z us Q I fh rs ha hg hq
  match ds, hg with
  | [.list ys], hg =>
    cases hg
    obtain ⟨x, rfl, h⟩ := ars1 ha
    obtain ⟨a, vs, rfl, h1, h2⟩ := ar_lst fh h
    exact call_tuple_of pins s σ H _ us Q I rs ⟨a, vs, rfl, .inl ⟨h1, hq (.tup vs) h2⟩⟩
  | [.tuple ys], hg =>
    cases hg
    obtain ⟨x, rfl, h⟩ := ars1 ha
    obtain ⟨a, vs, rfl, h1, h1', h2⟩ := ar_tup fh h
    exact call_tuple_of pins s σ H _ us Q I rs ⟨a, vs, rfl, .inr ⟨h1, hq (.old _) (.tup h1' h2)⟩⟩
theorem bi_list : BiD X .list := by
  intro pins s σ H F xs ds z us Q I fh rs ha hg hq
  match ds, hg with
  | [.list ys], hg =>
    cases hg
    obtain ⟨x, rfl, h⟩ := ars1 ha
    obtain ⟨a, vs, rfl, h1, h2⟩ := ar_lst fh h
    exact call_list_of pins s σ H _ us Q I rs ⟨a, vs, rfl, .inl h1, hq (.lst vs) h2⟩
  | [.tuple ys], hg =>
    cases hg
    obtain ⟨x, rfl, h⟩ := ars1 ha
    obtain ⟨a, vs, rfl, h1, h1', h2⟩ := ar_tup fh h
    exact call_list_of pins s σ H _ us Q I rs ⟨a, vs, rfl, .inr h1, hq (.lst vs) h2⟩
theorem bi_sum (hc : X.calm = true) : BiD X .sum := by
  intro pins s σ H F xs ds z us Q I fh rs ha hg hq
  match ds, hg with
  | [.list ys], hg =>
    simp only [bi] at hg
    cases hn : intsD ys with
    | none => rw [hn] at hg; cases hg
    | some ns =>
      rw [hn] at hg
      cases hg
      obtain ⟨x, rfl, h⟩ := ars1 ha
      obtain ⟨a, vs, rfl, h1, h2⟩ := ar_lst fh h
      rw [ints_v h2 hn] at h1
      exact cr_sum hc pins s σ H _ us Q I rs ⟨a, ns, rfl, h1, hq (.old _) (.int _)⟩
theorem bi_any (hc : X.calm = true) : BiD X .any := by
  intro pins s σ H F xs ds z us Q I fh rs ha hg hq
  match ds, hg with
  | [.list ys], hg =>
    simp only [bi] at hg
    cases hn : boolsD ys with
    | none => rw [hn] at hg; cases hg
    | some ns =>
      rw [hn] at hg
      cases hg
      obtain ⟨x, rfl, h⟩ := ars1 ha
      obtain ⟨a, vs, rfl, h1, h2⟩ := ar_lst fh h
      rw [bools_v h2 hn] at h1
      exact cr_any hc pins s σ H _ us Q I rs ⟨a, ns, rfl, h1, hq (.old _) (.bl _)⟩
theorem bi_all (hc : X.calm = true) : BiD X .all := by
  intro pins s σ H F xs ds z us Q I fh rs ha hg hq
  match ds, hg with
  | [.list ys], hg =>
    simp only [bi] at hg
    cases hn : boolsD ys with
    | none => rw [hn] at hg; cases hg
    | some ns =>
      rw [hn] at hg
      cases hg
      obtain ⟨x, rfl, h⟩ := ars1 ha
      obtain ⟨a, vs, rfl, h1, h2⟩ := ar_lst fh h
      rw [bools_v h2 hn] at h1
      exact cr_all hc pins s σ H _ us Q I rs ⟨a, ns, rfl, h1, hq (.old _) (.bl _)⟩
theorem bi_abs : BiD X .abs := by
  intro pins s σ H F xs ds z us Q I fh rs ha hg hq
  match ds, hg with
  | [.int i], hg =>
    cases hg
    obtain ⟨x, rfl, h⟩ := ars1 ha
    rw [ar_int h] at rs
    exact call_abs pins s σ H _ us Q I rs ⟨i, rfl, hq (.old _) (.int _)⟩
theorem bi_intB : BiD X .intB := by
  intro pins s σ H F xs ds z us Q I fh rs ha hg hq
  match ds, hg with
  | [.bool b], hg =>
    cases hg
    obtain ⟨x, rfl, h⟩ := ars1 ha
    rw [ar_bool h] at rs
    exact call_int1 pins s σ H _ us Q I rs (.inr ⟨b, rfl, hq (.old _) (.int _)⟩)
theorem bi_min2 (hc : X.calm = true) : BiD X .min2 := by
  intro pins s σ H F xs ds z us Q I fh rs ha hg hq
  match ds, hg with
  | [.int i, .int j], hg =>
    cases hg
    obtain ⟨x, y, rfl, h, h'⟩ := ars2 ha
    rw [ar_int h, ar_int h'] at rs
    exact call_min2 hc pins s σ H _ us Q I rs ⟨i, j, rfl, hq (.old _) (.int _)⟩
theorem bi_max2 (hc : X.calm = true) : BiD X .max2 := by
  intro pins s σ H F xs ds z us Q I fh rs ha hg hq
  match ds, hg with
  | [.int i, .int j], hg =>
    cases hg
    obtain ⟨x, y, rfl, h, h'⟩ := ars2 ha
    rw [ar_int h, ar_int h'] at rs
    exact call_max2 hc pins s σ H _ us Q I rs ⟨i, j, rfl, hq (.old _) (.int _)⟩
theorem bi_strInt : BiD X .strInt := by
  intro pins s σ H F xs ds z us Q I fh rs ha hg hq
  match ds, hg with
  | [.int i], hg =>
    simp only [bi] at hg
    split at hg
    · rename_i hz
      cases hg
      obtain ⟨x, rfl, h⟩ := ars1 ha
      rw [ar_int h] at rs
      exact call_str_int pins s σ H _ us Q I rs ⟨i, rfl, hz, hq (.old _) (.str _)⟩
    · cases hg
theorem bi_repr (hg : X.A.guards = some []) (hu : X.A.units + 100 < cLine) : BiD X .repr := by
  intro pins s σ H F xs ds z us Q I fh rs ha hz hq
  match ds, hz with
  | [d], hz =>
    simp only [bi] at hz
    split at hz
    · rename_i hc
      obtain ⟨h1, h2, h3, h4⟩ := hc
      cases hz
      obtain ⟨x, rfl, h⟩ := ars1 ha
      obtain ⟨u, rfl, ru⟩ := L2.vals1 rs
      obtain ⟨as, rd⟩ := Dp.reads I d x u (h.dp fh) ru
      have q := hq (.old (.str d.shown)) (.str _)
      cases d with
      | none =>
        rw [ar_none h] at ru; cases ru
        exact PySem.P.repr_of_none ⟨.str "None", H, I.tok _, ⟨_, rfl⟩, q⟩
      | bool b =>
        rw [ar_bool h] at ru; cases ru
        refine PySem.P.repr_of_bool ⟨.str (if b then "True" else "False"), H, I.tok _, ⟨_, rfl⟩, ?_⟩
        cases b <;> exact q
      | int i =>
        rw [ar_int h] at ru
        obtain ⟨t, rfl⟩ := ru
        have hl : i.natAbs.log2 < 1920 := of_decide_eq_true h1
        exact PySem.P.repr_of_int hl ⟨.str _, H, I.tok _, ⟨_, rfl⟩, q⟩
      | str w =>
        rw [ar_str h] at ru
        obtain ⟨t, rfl⟩ := ru
        exact PySem.P.repr_of_str ⟨.str _, H, I.tok _, ⟨_, rfl⟩, q⟩ h4
      | list ys =>
        obtain ⟨a, vs, rfl, _, _⟩ := ar_lst fh h
        cases ru
        exact repr_of_reads' rd h1 (PyData.noDict_hsm h2) hg (by omega) (fun _ _ e => e) (fun h' w tk hk => ⟨.str _, H, I.kept (t' := tk) hk, ⟨_, rfl⟩, q⟩) h4
      | tuple ys =>
        obtain ⟨a, vs, rfl, _, _⟩ := ar_tup fh h
        cases ru
        exact repr_of_reads' rd h1 (PyData.noDict_hsm h2) hg (by omega) (fun _ _ e => e) (fun h' w tk hk => ⟨.str _, H, I.kept (t' := tk) hk, ⟨_, rfl⟩, q⟩) h4
      | dict kvs => cases h2
    · cases hz
theorem dps_zip {K : PySem.W.Frag} {F : Hp} : ∀ {xs : List V} {ds : List D}, DpAll K F xs ds → ∀ p ∈ xs.zip ds, Dp K F p.1 p.2
  | _, _, .nil, p, h => by simp at h
  | _, _, .cons h t, p, hp => by
    rw [List.zip_cons_cons] at hp
    rcases List.mem_cons.mp hp with rfl | hp
    · exact h
    · exact dps_zip t p hp
theorem dps_unzip {K : PySem.W.Frag} {F : Hp} : ∀ {ps : List (V × D)}, (∀ p ∈ ps, Dp K F p.1 p.2) → DpAll K F (ps.map (·.1)) (ps.map (·.2))
  | [], _ => .nil
  | p :: ps, h => .cons (h p List.mem_cons_self) (dps_unzip fun q hq => h q (List.mem_cons_of_mem _ hq))
theorem each_vals : ∀ {out : List Value} {ps : List (V × D)}, W.EachIs (fun u p => RelV p.1 u) out ps → Vals (ps.map (·.1)) out
  | _, _, .nil => .nil
  | _, _, .cons h t => .cons h (each_vals t)
theorem each_zip {K : PySem.W.Frag} {F : Hp} : ∀ {xs : List V} {ds : List D} {us : List Value}, DpAll K F xs ds → Vals xs us → W.EachIs (fun u (p : V × D) => RelV p.1 u) us (xs.zip ds)
  | _, _, _, .nil, .nil => .nil
  | _, _, _, .cons h t, .cons r rs => .cons r (each_zip t rs)
theorem each_reads {F : Hp} {pins : List (Addr × Obj)} {σ : L2.St} {H : Hp} {s : Shared} (I : Inv X pins σ H s) (fh : Same F H) : ∀ {xs : List V} {ds : List D} {us : List Value}, DpAll X.K F xs ds → Vals xs us → W.EachIs (fun u (p : V × D) => ∃ as, Reads s.heap u p.2 as) us (xs.zip ds)
  | _, _, _, .nil, .nil => .nil
  | _, _, _, .cons h t, .cons r rs => .cons (Dp.reads I _ _ _ (dp_mono fh h) r) (each_reads I fh t rs)
theorem zip_snd {α β : Type} : ∀ {xs : List α} {ys : List β}, xs.length = ys.length → (xs.zip ys).map (·.2) = ys
  | [], [], _ => rfl
  | x :: xs, y :: ys, h => by
    rw [List.zip_cons_cons, List.map_cons, zip_snd (by simpa using h)]
theorem bi_sorted (hu : X.A.units + 100 < cLine) : BiD X .sorted := by
  intro pins s σ H F xs ds z us Q I fh rs ha hz hq
  match ds, hz with
  | [.list ys], hz =>
    simp only [bi] at hz
    split at hz
    · rename_i hc
      obtain ⟨h1, h2, h3⟩ := hc
      cases hz
      obtain ⟨x, rfl, h⟩ := ars1 ha
      obtain ⟨u, rfl, ru⟩ := L2.vals1 rs
      obtain ⟨a, vs, rfl, hl, hd⟩ := ar_lst fh h
      cases ru
      obtain ⟨its, rv, pl, hlen⟩ := I.list hl
      have ez : (vs.zip ys).map (·.2) = ys := zip_snd (dps_len hd)
      have lz : (vs.zip ys).length ≤ sizeLine := by
        rw [List.length_zip]
        exact Nat.le_trans (Nat.min_le_left _ _) hlen
      have al : W.AllAlike ((vs.zip ys).map (·.2)) := by
        rw [ez]
        intro d hd' e he
        exact List.all_eq_true.mp (List.all_eq_true.mp h1 d hd') e he
      have so : W.Sortable ((vs.zip ys).map (·.2)) ∨ Tup0 ((vs.zip ys).map (·.2)) := by
        rw [ez]
        unfold sortable at h2
        rw [Bool.or_eq_true, Bool.or_eq_true] at h2
        rcases h2 with (h2 | h2) | h2
        · refine .inl (.inl fun d hd' => ?_)
          have q := List.all_eq_true.mp h2 d hd'
          split at q
          · exact ⟨_, _, rfl⟩
          · cases q
        · refine .inl (.inr fun d hd' => ?_)
          have q := List.all_eq_true.mp h2 d hd'
          split at q
          · cases q
          · cases q
          · rename_i n1 n2
            exact ⟨n1, n2⟩
        · refine .inr ?_
          split at h2
          · rename_i rest
            refine ⟨fun d hd' => ?_, rest, rfl⟩
            have q := List.all_eq_true.mp h2 d hd'
            split at q
            · exact ⟨_, rfl⟩
            · cases q
          · cases h2
      refine sorted_any (enc := fun p : V × D => p.2) (R := fun u p => RelV p.1 u) pl.isList (each_zip hd rv) (each_reads I fh hd rv) al so lz (fun p hp => ?_) fun out ho he => ?_
      · have hm : p.2 ∈ ys := (List.of_mem_zip hp).2
        have := of_decide_eq_true (List.all_eq_true.mp h3 _ hm)
        omega
      · obtain ⟨ep, at_⟩ := PyProof.Rows.sortedAll_at s.heap its out.toArray
        have vo := each_vals he
        have hp := List.mergeSort_perm (vs.zip ys) (W.dataLe false fun p : V × D => p.2)
        have dz : DpAll X.K F (((vs.zip ys).mergeSort (W.dataLe false fun p : V × D => p.2)).map (·.1)) (((vs.zip ys).mergeSort (W.dataLe false fun p : V × D => p.2)).map (·.2)) :=
          dps_unzip fun p hm => dps_zip hd p (hp.mem_iff.mp hm)
        have es : ((vs.zip ys).mergeSort (W.dataLe false fun p : V × D => p.2)).map (·.2) = sortD ys := by
          have e1 := List.map_mergeSort (r := W.dataLe false fun p : V × D => p.2) (s := fun a b => !W.dataLt b a) (f := fun p : V × D => p.2) (l := vs.zip ys) (fun _ _ _ _ => rfl)
          rw [e1, ez]
          rfl
        rw [es] at dz
        refine ⟨.ref (s.heap.objs.size + 1), _, I.laid (t' := s.toks) (o := .lst (((vs.zip ys).mergeSort (W.dataLe false fun p : V × D => p.2)).map (·.1))) (fun _ _ => PyProof.Rows.sortedAll_old) (Nat.le_succ _) ?_, rfl, hq (.lst _) dz _ (I.hok.fresh (Nat.le_succ _))⟩
        refine ⟨?_, out, ep, vo, at_⟩
        rw [List.length_map, List.length_mergeSort]
        exact lz
    · cases hz
theorem bi_all_ok (hc : X.calm = true) (hg : X.A.guards = some []) (hu : X.A.units + 100 < cLine) : ∀ f : Bi, nameOf f ≠ .none → f ≠ .minL → f ≠ .maxL → BiD X f
  | .len, _, _, _ => bi_len
  | .tuple, _, _, _ => bi_tuple
  | .list, _, _, _ => bi_list
  | .sum, _, _, _ => bi_sum hc
  | .any, _, _, _ => bi_any hc
  | .all, _, _, _ => bi_all hc
  | .abs, _, _, _ => bi_abs
  | .min2, _, _, _ => bi_min2 hc
  | .max2, _, _, _ => bi_max2 hc
  | .repr, _, _, _ => bi_repr hg hu
  | .strInt, _, _, _ => bi_strInt
  | .intB, _, _, _ => bi_intB
  | .sorted, _, _, _ => bi_sorted hu
  | .minL, _, h, _ => absurd rfl h
  | .maxL, _, _, h => absurd rfl h
  | .lenset, h, _, _ => absurd rfl h
  | .sortset, h, _, _ => absurd rfl h
  | .sortxor, h, _, _ => absurd rfl h
end
end Ev
set_option Elab.async false
set_option linter.all false
set_option maxRecDepth 100000
set_option maxHeartbeats 4000000
/-! Ev27x: own classes of exceptions, two deep over ValueError or over LookupError: how they are made, how their fields are stored. -/
namespace Ev
open PySem PySem.Spec PyProof.Rows L2 PySem.HandSPX
inductive Bk where
  | ve
  | le
def Bk.ty : Bk → String
  | .ve => "ValueError"
  | .le => "LookupError"
def Bk.nw : Bk → String
  | .ve => "ValueError.__new__"
  | .le => "LookupError.__new__"
def Bk.ini : Bk → String
  | .ve => "ValueError.__init__"
  | .le => "LookupError.__init__"
def Bk.up : Bk → List Value
  | .ve => [.type "ValueError", .type "Exception", .type "BaseException", .type "object"]
  | .le => [.type "LookupError", .type "Exception", .type "BaseException", .type "object"]
theorem Bk.base : ∀ b : Bk, ExcBaseFacts b.ty b.nw b.ini b.up
  | .ve => PySem.F.excBase_ValueError
  | .le => PySem.F.excBase_LookupError
theorem Bk.pass (self : Value) : ∀ b : Bk, refuseLoop self "__setattr__" b.up = pure ()
  | .ve => PySem.F.store_ValueError.passes self
  | .le => PySem.F.store_LookupError.passes self
theorem Bk.obj : ∀ b : Bk, b.up.contains (.type "object") = true
  | .ve => by decide +kernel
  | .le => by decide +kernel
theorem Bk.same {C : Addr} (b : Bk) (X : String) : (Value.ref C :: b.up).contains (.type X) = b.up.contains (.type X) := by
  rw [List.contains_cons]
  rfl
/-- an own class B over the built-in one, C over B -/
structure OxC (K : PySem.W.Frag) (b : Bk) (C : Addr) : Prop where
  cls : ∃ (B : Addr) (nm q : Str) (N : Addr) (bs : List Value) (sn : List Str) (su : List Value) (ab : Bool) (co : Option Bool) (dd : Option Addr) (m0 m1 m2 m3 m5 : Option Value), K.lookup C = some (excClassObj nm q C N bs (.ref B :: b.up) true sn su ab co dd m0 m1 m2 m3 m5 b.nw)
  sa : PySem.W.findIn K (.ref C) "__setattr__" = some (some (.builtin "object.__setattr__"))
  ex : PySem.W.subIn K (.ref C) (.type "BaseException") = some true
  ty : PySem.W.typeIn K (.ref C) = some (.type "type")
  kp : PySem.W.keepIn K (.ref C) = true
section
open PySem.Calls Builtin Builtin.ObjectAttr
variable {prog : Program} {w : World} {A : Around} {R : Result → Shared → Prop} {mem : Heap} {g : Array GenState} {d : Drawn} {t : Nat} {os : OsState}
abbrev exObj (C : Addr) (dct : Option Addr) (fv : Array Value) : Obj := { cls := .ref C, dict := dct, data := .fields fv }
/-- what storing a field of an error comes to: its first one, which makes its dict; a further one -/
def Stored (mem : Heap) (g : Array GenState) (d : Drawn) (os : OsState) (R : Result → Shared → Prop) (x C : Addr) (fv : Array Value) (f : Str) (v : Value) : Option Addr → Prop
  | none => ∀ mem' n dx, (∀ b o, b ≠ x → mem.get? b = some o → mem'.get? b = some o) → mem.objs.size ≤ dx → dx ≠ x → mem'.get? x = some (exObj C (some dx) fv) → mem'.Ns1 dx (fun y => if y = f then some v else none) → R (.ok (.ret .none)) ⟨mem', g, d, n, os⟩
  | some dx => ∃ was ns, mem.Ns1 dx was ∧ Within was ns ∧ ns.length ≤ 1000 ∧ ∀ mem' n, (∀ b o, b ≠ dx → mem.get? b = some o → mem'.get? b = some o) → mem'.Ns1 dx (fun y => if y = f then some v else was y) → R (.ok (.ret .none)) ⟨mem', g, d, n, os⟩
theorem store_field {K : PySem.W.Frag} {bk : Bk} {x C B : Addr} {fv : Array Value} {dct : Option Addr} {cd : ClassData} {f : Str} {tk : Tok} {v : Value} (inK : K.In mem) (there : mem.get? x = some (exObj C dct fv)) (hcd : PySem.W.clsIn K C = some cd)
    (line : cd.mro = .ref C :: .ref B :: bk.up) (own : cd.hasDict = true) (free : PySem.W.findIn K (.ref C) f = some none) (fin : Stored mem g d os R x C fv f v dct) :
    codeAny (model prog w) A (.call (.builtin "object.__setattr__") ⟨[.ref x, .str f tk, v], []⟩) R ⟨mem, g, d, t, os⟩ := by
  have slot := PySem.F.store_object
  have obj : cd.mro.contains (.type "object") = true := by
    rw [line, List.contains_cons, List.contains_cons, bk.obj]
    simp
  have some1 : cd.mro.isEmpty = false := by rw [line]; rfl
  have type : PySem.W.Looks (model prog w) mem (typeOf (.ref x)) (.ref C) := by
    cases dct with
    | none => exact (show PySem.W.InstAt mem x (exObj C none fv) C none from ⟨there, rfl, rfl, trivial⟩).type
    | some dx =>
      obtain ⟨was, ns, at1, within, _⟩ := fin
      obtain ⟨od, _, _, get, _⟩ := at1.count within
      exact (show PySem.W.InstAt mem x (exObj C (some dx) fv) C (some od) from ⟨there, rfl, rfl, get⟩).type
  have isObj : PySem.W.Looks (model prog w) mem (isInstance (.ref x) (.type "object")) true := type.andThen (PySem.W.looks_mroIn inK (by unfold PySem.W.mroIn; rw [hcd, Option.bind_some, some1, if_neg Bool.false_ne_true, obj]))
  refine codeAny_call_builtin slot.slot.plain slot.entry (@PySem.W.check_slot (model prog w) _ _ ⟨mem, g, d, t, os⟩ "object.__setattr__" "object" "__setattr__" (.ref x) [.str f tk, v] [] _ slot.kind slot.split isObj (slot.args (.ref x) (.str f tk) v) ?_)
  rw [PySem.W.osa_eq, refuse_eq]
  have chain : PySem.W.Looks (model prog w) mem (mroOf (.ref C)) cd.mro := (PySem.W.looks_clsIn inK hcd).andThen .now
  refine wpAny_bind (wpAny_bind (type.at (wpAny_bind (chain.at ?_))))
  rw [line, refuseLoop_ref, refuseLoop_ref, bk.pass]
  have data : PySem.W.Looks (model prog w) mem (classData C) cd := PySem.W.looks_clsIn inK hcd
  have taker : PySem.W.Looks (model prog w) mem (storeTaker? none) none := .now
  refine wpAny_pure (wpAny_bind (type.at (wpAny_bind ((PySem.W.looks_findIn inK free).at (wpAny_bind (taker.at ?_))))))
  show wpAny _ _ (storeInOwnDict (.ref x) (.ref C) (.str f tk) f v false) _ _ _
  cases cd with
  | mk nm bs mro ns qn hd sn sb ab col del =>
    have own : hd = true := own
    subst own
    unfold storeInOwnDict ownDictForStores
    cases dct with
    | none =>
      have away : x ≠ mem.objs.size := Nat.ne_of_lt (Heap.lt_size there)
      repeat (first | with_reducible refine store_in_new ?_ ?_ | with_reducible refine wpAny_loadPart_at there ?_ | with_reducible refine data.at ?_ | wp_step)
      · refine ⟨_, #[], _, (Heap.get?_update_ne _ _ _ _ away.symm).trans (Heap.get?_push_at rfl rfl), rfl, fun e he => absurd he (by simp), fun _ => rfl⟩
      · intro mem' n ns' but
        have now : (mem.push { cls := .type "dict", data := .dict #[] }).get? x = some (exObj C none fv) := Heap.get?_push_of_some _ there
        refine fin mem' n mem.objs.size (fun b o hb ho => (but.2 b (Nat.ne_of_lt (Heap.lt_size ho))).trans ?_) (Nat.le_refl _) away.symm ((but.2 x away).trans (Heap.get?_update_self _ now rfl)) ns'
        exact (Heap.get?_update_ne _ _ _ _ hb).trans (Heap.get?_push_of_some _ ho)
    | some dx =>
      obtain ⟨was, ns0, at1, within, small, fin⟩ := fin
      repeat (first | with_reducible refine PySem.OEX.store_in_old at1 within small ?_ | with_reducible refine wpAny_loadPart_at there ?_ | with_reducible refine data.at ?_ | wp_step)
      exact fun mem' n ns' but => fin mem' n (fun b o hb ho => (but.2 b hb).trans ho) ns'
end
section
variable {X : Cx} {pins : List (Addr × Obj)} {σ : L2.St} {H : Hp} {s : Shared} {a C dx : Addr} {f : Str} {y : V} {u : Value} {fs : List (Str × V)} {Q : Unit → Shared → Prop} {E : Value → Shared → Prop} {A : Around}
theorem OxC.line {K : PySem.W.Frag} {bk : Bk} (T : OxC K bk C) : ∃ (B : Addr) (cd : ClassData), PySem.W.clsIn K C = some cd ∧ cd.mro = .ref C :: .ref B :: bk.up ∧ cd.hasDict = true := by
  obtain ⟨B, nm, q, N, bs, sn, su, ab, co, dd, m0, m1, m2, m3, m5, look⟩ := T.cls
  refine ⟨B, { name := nm, bases := bs, mro := .ref C :: .ref B :: bk.up, ns := N, qualname := q, hasDict := true, slotNames := sn, subclasses := su, abstract := ab, collection := co, hasDel := false }, ?_, rfl, rfl⟩
  unfold PySem.W.clsIn
  rw [look] <;> rfl
/-- self.f = y, the first field: the dict is laid while the error still stands as it was; then the error takes it -/
theorem ox_first {bk : Bk} (T : OxC X.K bk C) (I : Inv X pins σ H s) (e : H a = some (exo a C none)) (free : PySem.W.findIn X.K (.ref C) f = some none) (ry : RelV y u)
    (h : ∀ dx s', H dx = none → dx ≠ a → Inv X pins σ (upd (upd H dx (exd dx [(f, y)])) a (exo a C (some dx))) s' → Q () s') : wpAny (model X.prog X.w) A (setAttr (.ref a) f u) Q E s := by
  obtain ⟨B, cd, hcd, line, own⟩ := T.line
  obtain ⟨t1, there⟩ := exo_at I.hok e
  cases s with
  | mk mem g d t os =>
    refine PySem.W.set_plain I.kIn (ox := exObj C none #[.ref t1, .none, .none, .none, .bool false, .none]) (od := none) ⟨there, rfl, rfl, trivial⟩ T.sa (store_field I.kIn there hcd line own free (fun mem' n dx keep new ne now ns => ?_))
    have was := Heap.get?_update_self (fun _ => exObj C none #[.ref t1, .none, .none, .none, .bool false, .none]) now rfl
    have J := I.laid (t' := n) (a := dx) (o := exd dx [(f, y)]) (h' := mem'.update a fun _ => exObj C none #[.ref t1, .none, .none, .none, .bool false, .none]) (fun b o q => by
      by_cases hb : b = a
      · subst hb
        rw [was, ← there]
        exact q
      · rw [Heap.get?_update_ne _ _ _ _ hb]
        exact keep b o hb q) new (exd_ok (ns.at fun o q => by rw [Heap.get?_update_ne _ _ _ _ ne]; exact q) (relO_put (fs := []) ry fun _ => True.intro))
    refine h dx _ (I.hok.fresh new) ne (J.write (t' := n) (x := a) (e := a) (o := exo a C (some dx)) (by rw [upd_ne (Ne.symm ne), e]; exact True.intro) (.inl rfl) (fun b o hb q => ?_) ⟨_, now⟩ (exo_ok now))
    rw [Heap.get?_update_ne _ _ _ _ hb] at q
    exact q
/-- self.f = y, a further field -/
theorem ox_more {bk : Bk} (T : OxC X.K bk C) (I : Inv X pins σ H s) (e : H a = some (exo a C (some dx))) (ed : H dx = some (exd dx fs)) (small : fs.length ≤ 900) (free : PySem.W.findIn X.K (.ref C) f = some none) (ry : RelV y u)
    (h : ∀ s', Inv X pins σ (upd H dx (exd dx ((f, y) :: fs))) s' → Q () s') : wpAny (model X.prog X.w) A (setAttr (.ref a) f u) Q E s := by
  obtain ⟨B, cd, hcd, line, own⟩ := T.line
  obtain ⟨t1, there⟩ := exo_at I.hok e
  obtain ⟨was, at1, rel⟩ := exd_at I.hok ed
  obtain ⟨od, _, _, get, _⟩ := at1.count (within_of rel)
  cases s with
  | mk mem g d t os =>
    refine PySem.W.set_plain I.kIn (ox := exObj C (some dx) #[.ref t1, .none, .none, .none, .bool false, .none]) (od := some od) ⟨there, rfl, rfl, get⟩ T.sa (store_field I.kIn there hcd line own free ⟨was, _, at1, within_of rel, by rw [List.length_map]; omega, fun mem' n keep ns => ?_⟩)
    have stands : ∃ o, mem'.get? dx = some o := by
      obtain ⟨o, _, _, z, _⟩ := ns
      exact ⟨o, z⟩
    exact h _ (I.write (t' := n) (x := dx) (e := dx) (by rw [ed]; exact True.intro) (.inl rfl) keep stands (exd_ok ns (relO_put ry rel)))
/-- the built-in base's __init__ -/
theorem ox_init {us : List Value} {Q : Value → Shared → Prop} {bk : Bk} (T : OxC X.K bk C) (I : Inv X pins σ H s) (e : H a = some (exo a C none)) (small : us.length ≤ sizeLine) (h : ∀ s', Inv X pins σ H s' → Q .none s') : wpAny (model X.prog X.w) A (call (.builtin bk.ini) (.ref a :: us)) Q E s := by
  obtain ⟨B, nm, q, N, bs, sn, su, ab, co, dd, m0, m1, m2, m3, m5, look⟩ := T.cls
  obtain ⟨t1, there⟩ := exo_at I.hok e
  cases s with
  | mk mem g d t os =>
    refine wpAny_call (init_base bk.base bk.same (I.kIn _ _ look) there small fun mem' t2 keep now => ?_)
    have J := I.write (t' := t) (x := a) (e := a) (o := exo a C none) (by rw [e]; exact True.intro) (.inl rfl) keep ⟨_, now⟩ (exo_ok now)
    rw [show upd H a (exo a C none) = H from funext fun b => by
      unfold upd
      split
      · rename_i hb
        rw [hb, e]
      · rfl] at J
    exact h _ J
end
/-! ### readings -/
/-- B.__init__(self, ..) -/
def tIni (K : PySem.W.Frag) (bk : Bk) (ta : TA) : TE := fun σ H Q => ta σ H fun vs H1 => ∃ (a C : Addr) (ws : List V), vs = .ref a :: ws ∧ ws.length ≤ 1000 ∧ OxC K bk C ∧ H1 a = some (exo a C none) ∧ Q .non H1
/-- self.f = e -/
def tFld (K : PySem.W.Frag) (bk : Bk) (f : Str) (to te : TE) : TS := fun D σ H => te σ H fun y H1 => to σ H1 fun x H2 => ∃ a C : Addr, x = .ref a ∧ OxC K bk C ∧ PySem.W.findIn K (.ref C) f = some none ∧
  ((H2 a = some (exo a C none) ∧ ∀ dx, H2 dx = none → dx ≠ a → D.nx σ (upd (upd H2 dx (exd dx [(f, y)])) a (exo a C (some dx)))) ∨
    ∃ (dx : Addr) (fs : List (Str × V)), H2 a = some (exo a C (some dx)) ∧ H2 dx = some (exd dx fs) ∧ fs.length ≤ 900 ∧ D.nx σ (upd H2 dx (exd dx ((f, y) :: fs))))
/-- C(e, ..), an error of an own class whose __init__ keeps sp -/
def tNew (C : Addr) (sp : Sp) (ta : TA) : L2.St → Hp → XK → Prop := fun σ H Q => ta σ H fun vs H1 => vs.length ≤ 1000 ∧ ∀ a, H1 a = none → sp (.ref a :: vs) (upd H1 a (exo a C none))
  (fun v H2 => v = .non ∧ ∃ (d : Addr) (fs : List (Str × V)), H2 a = some (exo a C (some d)) ∧ H2 d = some (exd d fs) ∧ H1 d = none ∧ Q (.ref C) (some d) (upd (del H2 a) d (.xd fs))) (fun _ _ _ => False)
section
variable {X : Cx} {o e : Expr} {es : List Expr} {to te : TE} {ta : TA} {f x : Str} {p p' pos : Pos} {bk : Bk}
theorem ps_fld (ho : PE X o to) (he : PE X e te) (hs : swapsWith e (some (.Attribute o f p')) pos.line X.env = pure false) : PS X (.Assign [.Attribute o f p'] e pos) (tFld X.K bk f to te) :=
  ⟨fun pins s σ H D I h => plainObj_wpAny_Assign_Attribute (thn (he.run pins s σ H _ I h) fun v s1 ⟨y, H1, I1, ry, h1⟩ => thn (ho.run pins s1 σ H1 _ I1 h1) fun u s2 z => by
    obtain ⟨w, H2, I2, rw', a, C, rfl, T, free, z⟩ := z
    have eu : u = Value.ref a := rw'
    subst eu
    rcases z with ⟨at1, z⟩ | ⟨dx, fs, at1, at2, small, z⟩
    · exact ox_first T I2 at1 free ry fun dx s' n ne J => ⟨σ, _, J, z dx n ne⟩
    · exact ox_more T I2 at1 at2 small free ry fun s' J => ⟨σ, _, J, z⟩) hs⟩
theorem pmk_ox {C fI : Addr} {fd : FuncData} {ps : List Str} {sp : Sp} (T : OxC X.K bk C) (ini : PySem.W.findIn X.K (.ref C) "__init__" = some (some (.ref fI))) (fun1 : PySem.W.typeIn X.K (.ref fI) = some (.type "function"))
    (Fn : FnOk X.prog X.w X.K X.mg X.base L2.CX0 1 fI fd ps sp) (room : Room 2 X.A) (bd : Binds X.K fd ps []) (gl : Gl X x) (at' : X.mg x = some (.ref C)) (args : PA X (e :: es) ta) (hdb : (x == ("__debug__" : Str)) = false)
    (star : starEach (e :: es) X.env = (false, eval e X.env) :: starEach es X.env) (plain : (backTo pos (starEach es X.env)).any (·.1) = false) : PMk X (.Call (.Name x p) (e :: es) [] pos) (tNew C sp ta) := by
  intro pins s σ H Q I h
  obtain ⟨B, nm, q, N, bs, sn, su, ab, co, dd, m0, m1, m2, m3, m5, look⟩ := T.cls
  refine wpAny_Call_Name_kw (ld_glob I gl at' ?_ hdb)
  refine PySem.W.callWith_K (h₀ := X.base) I.ok.mod.kin T.kp (thn (args.run pos pins s σ H _ I h) fun us s1 z => ?_) star plain
  obtain ⟨vs, H1, I1, rv, small, wish⟩ := z
  refine ⟨I1.kIn, show wpAny _ _ (call (.ref C) us) _ _ _ from ?_⟩
  cases s1 with
  | mk mem g dr tk os =>
    -- the error stands behind its args' tuple
    have above : mem.objs.size ≤ mem.objs.size + 1 := Nat.le_succ _
    have wish := wish (mem.objs.size + 1) (I1.hok.fresh above)
    have stay : ∀ b u, mem.get? b = some u → ((mem.push (PySem.W.kdv_tup us)).push (excO C mem.objs.size)).get? b = some u := fun b u z => Heap.get?_push_of_some _ (Heap.get?_push_of_some _ z)
    have there : ((mem.push (PySem.W.kdv_tup us)).push (excO C mem.objs.size)).get? (mem.objs.size + 1) = some (excO C mem.objs.size) := by heap_get
    have J := I1.laid (t' := tk) (a := mem.objs.size + 1) (o := exo (mem.objs.size + 1) C none) (h' := (mem.push (PySem.W.kdv_tup us)).push (excO C mem.objs.size)) stay above (exo_ok there)
    have len := Fn.len _ _ _ _ wish
    have rv' : Vals (V.ref (mem.objs.size + 1) :: vs) (Value.ref (mem.objs.size + 1) :: us) := .cons rfl rv
    have line : us.length ≤ sizeLine := by
      rw [← Paired.length rv, sizeLine_eq]
      omega
    have bound := bd _ (Value.ref (mem.objs.size + 1) :: us) J.kIn (by rw [List.append_nil, ← len, rv'.length])
    rw [List.append_nil] at bound
    refine wpAny_call (call_own bk.base bk.same (I1.kIn _ _ look) (PySem.W.looks_findIn I1.kIn ini) (fun self => PySem.W.bind_fn I1.kIn self fun1) line
      (codeAny_mono (Fn.run _ X.stack _ _ ⟨Value.ref (mem.objs.size + 1) :: us, []⟩ _ _ _ (fun _ _ _ => False) (room.make C us []) (J.env0.make C us []) bound rv' wish) fun res s2 z => ?_))
    rcases res with err | fl
    · exact pass0 pins σ _ _ err s2 J z
    · cases fl with
      | ret u =>
        obtain ⟨v, H2, os2, bare2, un2, hok2, ru, rfl, dx, fs, at1, at2, new, fin⟩ := z
        cases s2 with
        | mk mem2 g2 d2 t2 os' => exact ⟨ru, mk_end (raises_own T.ex T.ty) I1 above stay un2 hok2 os2 bare2 at1 at2 new fin⟩
      | _ => exact False.elim z
end
end Ev
set_option Elab.async false
set_option linter.all false
set_option maxRecDepth 100000
set_option maxHeartbeats 2000000
/-! Ev28: exceptions of the program's own classes: what their __init__ does. -/
namespace Ev
open PySem PySem.Spec PyProof.Rows L2
abbrev T (x : String) : Str := Str.ofString x
section
variable {X : Cx} {e : Expr} {es : List Expr} {ta : TA} {b : Str} {B : Addr} {p1 p2 pos : Pos}
/-- what the base's class must say, so that B.__init__ is ValueError's -/
structure BaseC (K : PySem.W.Frag) (mg : Str → Option Value) (bk : Bk) (b : Str) (B : Addr) : Prop where
  at' : mg b = some (.ref B)
  ga : PySem.W.specialIn K (.ref B) "__getattribute__" = some (some (.builtin "type.__getattribute__"))
  rd : PySem.W.readsIn K B (.type "type") = true
  vi : PySem.W.findCls K (.ref B) (.type "type") "__init__" = some (.val (.builtin bk.ini))
theorem mc_eq {o : Expr} {name : Str} {apos pos : Pos} {args : List Expr} {env : PySem.Env} (hb : attributeBase o name env (eval o env) = eval o env) (hp : (apos.endLine == pos.line) = true) (hf : methodCallForm (args.length + 0) (backTo pos (starEach args env)) (backToKw pos (keywordEach [] env)) = true) :
    eval (.Call (.Attribute o name apos) args [] pos) env = (do
      let ov ← eval o env
      standAt apos.atName
      let (f, first) ← holding [ov] (getMethod ov name (do return (← importBound o env).getD true))
      callWith pos f first (backTo pos (starEach args env)) (backToKw pos (keywordEach [] env))) := by
  show (attributeBase o name env (eval o env) >>= fun ov => standAt apos.atName >>= fun _ => methodCall o name apos pos env ov (args.length + 0) (backTo pos (starEach args env)) (backToKw pos (keywordEach [] env))) = _
  rw [hb]
  unfold methodCall calleeOf methodCallPos
  rw [hf]
  simp only [Bool.not_true, Bool.false_or, hp, if_true, pure_bind]
theorem pe_binit {bk : Bk} {pl : Sem Bool} (T : BaseC X.K X.mg bk b B) (hg : Gl X b) (ha : PA X (e :: es) ta)
    (hc : eval (.Call (.Attribute (.Name b p1) "__init__" p2) (e :: es) [] pos) X.env = (do
      let ov ← eval (.Name b p1) X.env
      standAt p2.atName
      let (f, first) ← holding [ov] (getMethod ov "__init__" pl)
      callWith pos f first (backTo pos (starEach (e :: es) X.env)) (backToKw pos (keywordEach [] X.env))) := by rfl)
    (he : starEach (e :: es) X.env = (false, eval e X.env) :: starEach es X.env := by rfl) (hpl : (backTo pos (starEach es X.env)).any (·.1) = false := by rfl) (hdb : (b == ("__debug__" : Str)) = false := by decide) :
    PE X (.Call (.Attribute (.Name b p1) "__init__" p2) (e :: es) [] pos) (tIni X.K bk ta) := by
  refine ⟨fun pins s σ H Q I h => ?_⟩
  refine PySem.W.methodCall_KW (ld_glob I hg T.at' ?_ hdb) hc
  refine PySem.W.method_cls I.kIn T.ga (PySem.W.cls_value I.kIn T.rd T.vi (by cases bk <;> decide +kernel) ?_)
  show wpAny _ _ (callWith pos (Value.builtin bk.ini) [] (backTo pos (starEach (e :: es) X.env)) []) _ _ _
  refine PyProof.Rows.callWith_method1 (thn (ha.run pos pins _ σ H _ (I.tok _) h) fun us s1 ⟨vs, H1, I1, r1, a, C, ws, ev, hl, T, ea, q⟩ => ?_) he hpl
  subst ev
  cases r1 with
  | @cons _ u0 _ ur ra rw' =>
    obtain rfl : u0 = Value.ref a := ra
    have hlen : ur.length ≤ sizeLine := by
      rw [← Paired.length rw', sizeLine_eq]
      omega
    exact ox_init T I1 ea hlen fun s' J => ⟨.non, H1, J, rfl, q⟩
end
end Ev
set_option Elab.async false
set_option linter.all false
set_option maxRecDepth 100000
set_option maxHeartbeats 2000000
/-! Ev29: __init__ of an own exception: B.__init__(self, TEXT); self.f = f; .. -/
namespace Ev
open PySem PySem.Spec PyProof.Rows L2
def stK (f : Str) : Stmt → Bool
  | .Assign [.Attribute (.Name s _) g _] (.Name h _) _ => s == T "self" && g == f && h == f && !(f == ("__debug__" : Str)) && !(f == ("__classdict__" : Str))
  | _ => false
def storesK : List Str → List Stmt → Bool
  | [], [] => true
  | f :: fs, s :: ss => stK f s && storesK fs ss
  | _, _ => false
def callK (b : Str) (st : Stmt) : Bool := match st with
  | .Expr (.Call (.Attribute (.Name x _) i p2) [.Name s _, .Constant (.str _) _ _] [] p6) _ => x == b && i == T "__init__" && s == T "self" && !(b == ("__debug__" : Str)) && p2.endLine == p6.line
  | _ => false
def bodyK (b : Str) (fs : List Str) : List Stmt → Bool
  | s :: ss => callK b s && storesK fs ss
  | [] => false
def initK (b : Str) (fs : List Str) (st : Stmt) : Bool :=
  decide ((defScope st).kind = .function) && !(defScope st).isCoroutine && !(defScope st).isGenerator && decide ((T "self" :: fs).Nodup) &&
  ((T "self" :: fs).all fun x => (defScope st).names.lookup x == some .local) && ((defScope st).names.all fun y => y.2 != .free) && decide ((defScope st).names.lookup b = some .globalImplicit) &&
  decide (fs.length ≤ 9) && bodyK b fs (defBody st)
def tStores (K : PySem.W.Frag) (bk : Bk) : Nat → List Str → TS
  | _, [] => tNext
  | j, f :: fs => tSeq (tFld K bk f (tVar 0) (tVar j)) (tStores K bk (j + 1) fs)
section
variable {X : Cx} {bk : Bk}
theorem ps_store {f : Str} {st : Stmt} {j : Nat} (h0 : X.N[0]? = some (T "self")) (v0 : Vis X.env.scope (T "self")) (hj : X.N[j]? = some f) (vj : Vis X.env.scope f) (h : stK f st = true) : PS X st (tFld X.K bk f (tVar 0) (tVar j)) := by
  unfold stK at h
  split at h
  · rename_i s p1 g p2 y p3 p4
    simp only [Bool.and_eq_true, beq_iff_eq, Bool.not_eq_true'] at h
    obtain ⟨⟨⟨⟨rfl, rfl⟩, rfl⟩, h4⟩, h5⟩ := h
    exact ps_fld (pe_var h0 v0 (by decide) (by decide)) (pe_var hj vj h4 h5) rfl
  · cases h
theorem pss_stores (h0 : X.N[0]? = some (T "self")) (v0 : Vis X.env.scope (T "self")) : ∀ (fs : List Str) (sts : List Stmt) (j : Nat), storesK fs sts = true → (∀ i f, fs[i]? = some f → X.N[j + i]? = some f ∧ Vis X.env.scope f) → PSs X sts (tStores X.K bk j fs)
  | [], [], _, _, _ => pss_nil
  | [], _ :: _, _, h, _ => by cases h
  | _ :: _, [], _, h, _ => by cases h
  | f :: fs, s :: ss, j, h, hv => by
    have h : (stK f s && storesK fs ss) = true := h
    rw [Bool.and_eq_true] at h
    obtain ⟨n1, v1⟩ := hv 0 f rfl
    refine pss_cons (ps_store h0 v0 (by simpa using n1) v1 h.1) (pss_stores h0 v0 fs ss (j + 1) h.2 fun i g hg => ?_)
    have := hv (i + 1) g (by simpa using hg)
    rw [show j + 1 + i = j + (i + 1) from by omega]
    exact this
end
section
variable {bk : Bk} {K : PySem.W.Frag} {a C dx : Addr} {σ : L2.St} {D : Ends}
theorem stores_read (TC : OxC K bk C) (s0 : σ[0]? = some (some (.ref a))) (hne : dx ≠ a) : ∀ (fs : List Str) (ws : List V) (j : Nat) (H : Hp) (acc : List (Str × V)), fs.length = ws.length → (∀ i w, ws[i]? = some w → σ[j + i]? = some (some w)) →
    (∀ f ∈ fs, PySem.W.findIn K (.ref C) f = some none) → H a = some (exo a C (some dx)) → H dx = some (exd dx acc) → acc.length + fs.length ≤ 900 →
    (∀ H2, H2 a = some (exo a C (some dx)) → H2 dx = some (exd dx ((fs.zip ws).reverse ++ acc)) → (∀ b, b ≠ dx → H2 b = H b) → D.nx σ H2) → tStores K bk j fs D σ H
  | [], ws, j, H, acc, hl, hs, hf, ha, hd, hm, q => q H ha (by simpa using hd) fun _ _ => rfl
  | f :: fs, [], j, H, acc, hl, hs, hf, ha, hd, hm, q => by cases hl
  | f :: fs, w :: ws, j, H, acc, hl, hs, hf, ha, hd, hm, q => by
    refine ⟨w, by simpa using hs 0 w rfl, .ref a, s0, a, C, rfl, TC, hf f List.mem_cons_self, .inr ⟨dx, acc, ha, hd, by simp only [List.length_cons] at hm; omega, ?_⟩⟩
    refine stores_read TC s0 hne fs ws (j + 1) _ ((f, w) :: acc) (by simpa using hl) (fun i u hu => ?_) (fun g hg => hf g (List.mem_cons_of_mem _ hg)) (by rw [upd_ne (Ne.symm hne)]; exact ha) upd_same (by simp only [List.length_cons] at hm ⊢; omega) fun H2 q1 q2 q3 => ?_
    · rw [show j + 1 + i = j + (i + 1) from by omega]
      exact hs (i + 1) u (by simpa using hu)
    · refine q H2 q1 (by rw [q2]; simp) fun b hb => ?_
      rw [q3 b hb, upd_ne hb]
end
/-- what __init__ promises -/
def ISp (K : PySem.W.Frag) (bk : Bk) (fs : List Str) : Sp := fun vs H Q _ => ∃ (a C : Addr) (ws : List V), vs = .ref a :: ws ∧ ws.length = fs.length ∧ OxC K bk C ∧ (∀ f ∈ fs, PySem.W.findIn K (.ref C) f = some none) ∧ H a = some (exo a C none) ∧
  ∀ H2 dx, H dx = none → dx ≠ a → H2 a = some (exo a C (some dx)) → H2 dx = some (exd dx (fs.zip ws).reverse) → (∀ b, b ≠ a → b ≠ dx → H2 b = H b) → Q .non H2
theorem init_fn {P : Program} {w : World} {K : PySem.W.Frag} {mg : Str → Option Value} {base : Heap} {B : Addr} {f0 : Str} {fs : List Str} {qual : Str} {st : Stmt} {f : Addr} {fd : FuncData} {k : Nat} {bk : Bk} {bn : String}
    (F : L2.Fun K (T "__init__") qual st f fd) (hB : BaseC K mg bk (T bn) B) (h : initK (T bn) (f0 :: fs) st = true) : FnOk P w K mg base L2.CX0 (k + 1) f fd (T "self" :: f0 :: fs) (ISp K bk (f0 :: fs)) := by
  simp only [initK, Bool.and_eq_true, decide_eq_true_eq, Bool.not_eq_true'] at h
  obtain ⟨⟨⟨⟨⟨⟨⟨⟨h1, h2⟩, h3⟩, h4⟩, h5⟩, h6⟩, h7⟩, h8⟩, h9⟩ := h
  have loc : ∀ x ∈ T "self" :: f0 :: fs, (defScope st).names.lookup x = some .local := fun x hx => by
    have := (List.all_eq_true.mp h5) x hx
    simpa using this
  refine Fun.ok (N := T "self" :: f0 :: fs) F ⟨h1, h2, h3, h4, by simp, fun x hx => .inl (loc x hx), fun y hy => ?_⟩ (fun vs H Q E q => ?_) fun cdv A outer s H vs Q E hr q => ?_
  · have := (List.all_eq_true.mp h6) y hy
    simpa using this
  · obtain ⟨a, C, ws, rfl, hl, _⟩ := q
    simp [hl]
  · cases hb : defBody st with
    | nil => rw [hb] at h9; cases h9
    | cons s0 ss =>
      rw [hb] at h9
      have h9 : (callK (T bn) s0 && storesK (f0 :: fs) ss) = true := h9
      rw [Bool.and_eq_true] at h9
      obtain ⟨c1, c2⟩ := h9
      unfold callK at c1
      split at c1
      · rename_i x p1 i p2 sn p3 txt p4 p5 p6 p7
        simp only [Bool.and_eq_true, beq_iff_eq, Bool.not_eq_true'] at c1
        obtain ⟨⟨⟨⟨rfl, rfl⟩, rfl⟩, hdb⟩, hpl⟩ := c1
        have n0 : (cxOf CX0 P w K mg base (T "self" :: f0 :: fs) qual (defScope st) f cdv A outer s H E).nox.N[0]? = some (T "self") := rfl
        have v0 : Vis (cxOf CX0 P w K mg base (T "self" :: f0 :: fs) qual (defScope st) f cdv A outer s H E).nox.env.scope (T "self") := .inl (loc _ List.mem_cons_self)
        refine ⟨_, pss_cons (ps_expr (pe_binit (X := (cxOf CX0 P w K mg base (T "self" :: f0 :: fs) qual (defScope st) f cdv A outer s H E).nox) hB h7 (pa_cons (pe_var n0 v0 (by decide) (by decide)) (pa_cons pe_str pa_nil)) (mc_eq rfl (by simpa using hpl) rfl) rfl rfl hdb)) (pss_stores (bk := bk) n0 v0 (f0 :: fs) ss 1 c2 fun i g hg => ⟨?_, .inl (loc g (List.mem_cons_of_mem _ (List.mem_of_getElem? hg)))⟩), ?_⟩
        · rw [Nat.add_comm]
          exact hg
        · obtain ⟨a, C, ws, rfl, hl, TC, hf, ha, hq⟩ := q
          cases ws with
          | nil => cases hl
          | cons w0 ws =>
            have st0 : L2.start (T "self" :: f0 :: fs) (.ref a :: w0 :: ws) = some (.ref a) :: some w0 :: (ws.map some) := by
              unfold L2.start
              simp at hl
              simp [hl]
            rw [st0]
            refine ⟨.ref a, rfl, a, C, [.str _], rfl, by simp, TC, ha, ?_⟩
            refine ⟨w0, rfl, .ref a, rfl, a, C, rfl, TC, hf f0 List.mem_cons_self, .inl ⟨ha, fun dx hdx hne => ?_⟩⟩
            refine stores_read TC rfl hne fs ws 2 _ [(f0, w0)] (by simpa using hl.symm) (fun i u hu => ?_) (fun g hg => hf g (List.mem_cons_of_mem _ hg)) upd_same (by rw [upd_ne hne, upd_same]) (by simp only [List.length_cons, List.length_nil] at h8 ⊢; omega) fun H2 q1 q2 q3 => ?_
            · rw [Nat.add_comm]
              simp [hu]
            · refine hq H2 dx hdx hne q1 (by rw [q2]; simp) fun c n1 n2 => ?_
              rw [q3 c n2, upd_ne n1, upd_ne n2]
      · cases c1
/-- a class of exceptions with its fields -/
def XcOk (P : Program) (w : World) (K : PySem.W.Frag) (mg : Str → Option Value) (base : Heap) (x : String) (fs : List Str) : Prop :=
  ∃ (bk : Bk) (C fI : Addr) (fd : FuncData), mg (T x) = some (.ref C) ∧ OxC K bk C ∧ PySem.W.findIn K (.ref C) "__init__" = some (some (.ref fI)) ∧ PySem.W.typeIn K (.ref fI) = some (.type "function") ∧
    FnOk P w K mg base L2.CX0 1 fI fd (T "self" :: fs) (ISp K bk fs) ∧ Binds K fd (T "self" :: fs) [] ∧ ∀ f ∈ fs, PySem.W.findIn K (.ref C) f = some none
/-- what is known of a class c beside the class x: e is one of x, or not -/
def SubOk (K : PySem.W.Frag) (mg : Str → Option Value) (c : Str) (x : String) (b : Bool) : Prop := ∀ C : Addr, mg c = some (.ref C) → ExcC K C ∧ ∃ (v : V) (u : Value), (mg (T x) = some u ∨ (mg (T x) = none ∧ bootBuiltins (T x) = some u ∧ T x ≠ "__name__")) ∧ RelV v u ∧ (∀ u', RelV v u' → u' = u) ∧
  PySem.W.kitOne K (.ref C) u = some b ∧ PySem.W.exmOne K (.ref C) u = some b
/-- f is a field of c's errors -/
def FldOk (K : PySem.W.Frag) (mg : Str → Option Value) (c : Str) (f : String) : Prop := ∀ C : Addr, mg c = some (.ref C) → XfC K C ∧ PySem.W.findIn K (.ref C) (T f) = some none
end Ev
set_option Elab.async false
set_option linter.all false
set_option maxHeartbeats 1000000
/-! Ev4: expressions: readings from what the evaluator computes. -/
namespace Ev
open PySem PySem.Spec PyProof.Rows L2
/-- as the layer's own promise of a def, where nothing is being shown around -/
structure FnG (P : Program) (w : World) (K : PySem.W.Frag) (mg : Str → Option Value) (base : Heap) (k : Nat) (f : Addr) (fd : FuncData) (ps : List Str) (sp : Sp) : Prop where
  len : ∀ vs H Q E, sp vs H Q E → vs.length = ps.length
  run : ∀ (A : Around) (outer : List PySem.Env) (s : Shared) (H : Hp) (args : Args) (us : List Value) (vs : List V) (Q : VK) (E : XK), Room k A → A.guards = some [] → Env0 P w K mg base A outer s H → BindsTo s fd args (ps.zip us) → Vals vs us →
    sp vs H Q E → codeAny (model P w) A (.call (.ref f) args) (CR (L2.CX P w) outer P w H s Q E) s
section
variable (K : PySem.W.Frag) (mg : Str → Option Value)
/-- an exception's object -/
def XOk (F H : Hp) (x : Xn) (cls : Value) (dd : Option Addr) : Prop :=
  ∃ C d fs, mg x.cls = some (.ref C) ∧ cls = .ref C ∧ dd = some d ∧ H d = some (.xd fs) ∧ FsOk K F fs x.fs
/-- the heap without what is lent -/
def cut (H : Hp) (ls : List Addr) : Hp := fun a => if a ∈ ls then none else H a
def lents : List Mo → List V → List Addr
  | .l :: ms, .ref a :: vs => a :: lents ms vs
  | _ :: ms, _ :: vs => lents ms vs
  | _, _ => []
inductive ArgsOk (F H : Hp) (ls : List Addr) : List Mo → List V → List D → Prop where
  | nil : ArgsOk F H ls [] [] []
  | f {ms : List Mo} {v : V} {vs : List V} {d : D} {ds : List D} : Dp K F v d → ArgsOk F H ls ms vs ds → ArgsOk F H ls (.f :: ms) (v :: vs) (d :: ds)
  | b {ms : List Mo} {v : V} {vs : List V} {d : D} {ds : List D} : Br K (cut H ls) F v d → ArgsOk F H ls ms vs ds → ArgsOk F H ls (.b :: ms) (v :: vs) (d :: ds)
  | l {ms : List Mo} {a : Addr} {c : C} {vs : List V} {ds : List D} : Own K (cut H ls) F H a c → a ∈ ls → ArgsOk F H ls ms vs ds → ArgsOk F H ls (.l :: ms) (.ref a :: vs) (c.d :: ds)
inductive LentOk (G F H : Hp) : List Addr → List C → Prop where
  | nil : LentOk G F H [] []
  | cons {a : Addr} {c : C} {ls : List Addr} {cs : List C} : Own K G F H a c → LentOk G F H ls cs → LentOk G F H (a :: ls) (c :: cs)
/-- behind a def -/
structure Aft (G F F' H' : Hp) (ls : List Addr) (cs : List C) : Prop where
  s1 : Same F F'
  s2 : Same F' H'
  s3 : Same G H'
  s4 : ∀ a, G a ≠ none → F' a = F a
  lo : LentOk K G F' H' ls cs
/-- a def's promise by its function -/
def FSp (ms : List Mo) (φ : List D → FRes) : Sp := fun vs H Q E => vs.length = ms.length ∧ ∃ F ds, Same F H ∧ (lents ms vs).Nodup ∧ ArgsOk K F H (lents ms vs) ms vs ds ∧
  match φ ds with
  | .bad => False
  | .ret d cs => ∀ v F' H', Aft K (cut H (lents ms vs)) F F' H' (lents ms vs) cs → Dp K F' v d → Q v H'
  | .fresh c cs => ∀ p F' H', Aft K (cut H (lents ms vs)) F F' H' (lents ms vs) cs → Own K (cut H (lents ms vs)) F' H' p c → p ∉ lents ms vs → Q (.ref p) H'
  | .exc x cs => ∀ cls dd F' H', Aft K (cut H (lents ms vs)) F F' H' (lents ms vs) cs → XOk K mg F' H' x cls dd → E cls dd H'
end
/-- how a call with names binds -/
def KbOk (K : PySem.W.Frag) (KB : List (String × Nat × List String × List Nat)) (f : String) (fd : FuncData) (ps : List Str) : Prop := ∀ q ∈ KB, q.1 = f → ∀ (s : Shared) (us ws zs : List Value), K.In s.heap → us.length = q.2.1 → ws.length = q.2.2.1.length → pick q.2.2.2 (us ++ ws) = some zs → BindsTo s fd ⟨us, (q.2.2.1.map T).zip ws⟩ (ps.zip zs)
/-- a call with names: the def, how many values ahead, the names, the parameters' order -/
abbrev KbE := String × Nat × List String × List Nat
theorem FnG.weaken {P : Program} {w : World} {K : PySem.W.Frag} {mg : Str → Option Value} {base : Heap} {k : Nat} {f : Addr} {fd : FuncData} {ps : List Str} {sp sp' : Sp} (F : FnG P w K mg base k f fd ps sp) (h : ∀ vs H Q E, sp' vs H Q E → sp vs H Q E) : FnG P w K mg base k f fd ps sp' :=
  ⟨fun vs H Q E q => F.len vs H Q E (h vs H Q E q), fun A outer s H args us vs Q E hr hg e0 hb r q => F.run A outer s H args us vs Q E hr hg e0 hb r (h vs H Q E q)⟩
/-- a def that may be called: what it is called without stands at the end -/
def CalOk (P : Program) (w : World) (K : PySem.W.Frag) (mg : Str → Option Value) (base : Heap) (KB : List KbE) (k : Nat) (f : String) (a : Addr) (ms : List Mo) (φ : List D → FRes) : Prop :=
  ∃ fd ps ds dvs, Binds K fd ps ds ∧ Vals dvs ds ∧ FnG P w K mg base k a fd ps (fun vs H Q E => ∃ vs0, vs = vs0 ++ dvs ∧ FSp K mg ms φ vs0 H Q E)
/-- .. with all values told, by names -/
def CalKOk (P : Program) (w : World) (K : PySem.W.Frag) (mg : Str → Option Value) (base : Heap) (KB : List KbE) (k : Nat) (f : String) (a : Addr) (ms : List Mo) (φ : List D → FRes) : Prop :=
  ∃ fd ps, FnG P w K mg base k a fd ps (FSp K mg ms φ) ∧ KbOk K KB f fd ps
/-- what stands around an expression -/
structure Ok (X : Cx) (W : WX) (BN : List String) (GL : List (String × D)) (KB : List KbE) (G : Gm) : Prop where
  nd : X.N.Nodup
  un : X.A.units + 100 < cLine
  gd : X.A.guards = some []
  bn : ∀ x ∈ BN, X.mg (T x) = none
  gl : ∀ p ∈ GL, ∃ u v, X.mg (T p.1) = some u ∧ RelV v u ∧ Dp X.K (fun _ => none) v p.2
  tk : Takes X W
  xc : X.calm = true → ∀ x, G.xc x ≠ [] → Room 2 X.A ∧ XcOk X.prog X.w X.K X.mg X.base x (G.xc x)
  sub : ∀ c x b, G.sub c x = some b → SubOk X.K X.mg c x b
  fld : ∀ c f, G.fld c f = true → FldOk X.K X.mg c f
  fns : X.calm = true → ∀ f ms φ, G.fn f = some (ms, φ) → ∃ k a, Room k X.A ∧ X.mg (T f) = some (.ref a) ∧ PySem.W.keepIn X.K (.ref a) = true ∧ CalOk X.prog X.w X.K X.mg X.base KB k f a ms φ
  fks : X.calm = true → ∀ f ms φ, G.fk f = some (ms, φ) → ∃ k a, Room k X.A ∧ X.mg (T f) = some (.ref a) ∧ PySem.W.keepIn X.K (.ref a) = true ∧ CalKOk X.prog X.w X.K X.mg X.base KB k f a ms φ
  kn : ∀ x ∈ G.kn, ∃ C, X.mg (T x) = some (.ref C)
abbrev Rl (α β : Type) := Hp → Hp → Hp → L2.St → Env → α → β → Prop
def After (X : Cx) (W : WX) {α β : Type} (L : Fr) (G F : Hp) (σ : L2.St) (P : Rl α β) (Q : β → Hp → Prop) : Res α → Prop
  | .bad => False
  | .ok a e => ∀ b F' H', Rel X.K L G F' H' σ e → Step G F F' → P G F' H' σ e a b → Q b H'
  | .exc x e => ∀ c dd F' H', Rel X.K L G F' H' σ e → Step G F F' → XOk X.K X.mg F' H' x c dd → W c dd σ H'
/-- the error in hand stands where the context says -/
def XL (X : Cx) (L : Fr) : Prop := X.calm = false → ∀ a C dd x, L.xa = some (a, C, dd, x) → X.mg x = some (.ref C) ∧ ∃ oe, (a, oe) ∈ X.pn ∧ Zc (.ref C) (some dd) oe ∧ ∃ vs, oe.data = .fields vs
abbrev FrX (X : Cx) := {L : Fr // XL X L}
def Tr (X : Cx) (W : WX) {α β : Type} (c : Env → Res α) (P : Rl α β) : L2.St → Hp → (β → Hp → Prop) → Prop := fun σ H Q =>
  ∃ (L : FrX X) (G F : Hp) (e : Env), Rel X.K L G F H σ e ∧ After X W L G F σ P Q (c e)
section
variable {X : Cx} {W : WX} {α β γ δ : Type} {L : Fr} {G F F1 : Hp} {σ : L2.St} {P : Rl α β} {P1 : Rl γ δ} {Q Q' : β → Hp → Prop} {r : Res α}
theorem After.mono (h : After X W L G F σ P Q r) (k : ∀ b H, Q b H → Q' b H) : After X W L G F σ P Q' r := by
  cases r with
  | bad => exact h
  | ok a e => exact fun b F' H' r1 st p => k _ _ (h b F' H' r1 st p)
  | exc x e => exact h
theorem After.step (h : After X W L G F σ P Q r) (st : Step G F F1) : After X W L G F1 σ P Q r := by
  cases r with
  | bad => exact h
  | ok a e => exact fun b F' H' r1 s1 p => h b F' H' r1 (st.trans s1) p
  | exc x e => exact fun c dd F' H' r1 s1 p => h c dd F' H' r1 (st.trans s1) p
/-- what is left behind a first part -/
def Left (X : Cx) (W : WX) {α β γ δ : Type} (L : Fr) (G F : Hp) (σ : L2.St) (P1 : Rl γ δ) (f : γ → Env → Res α) (P : Rl α β) (Q : β → Hp → Prop) : δ → Hp → Prop := fun b1 H1 =>
  ∃ F1 e1 a, Rel X.K L G F1 H1 σ e1 ∧ Step G F F1 ∧ P1 G F1 H1 σ e1 a b1 ∧ After X W L G F1 σ P Q (f a e1)
theorem After.bind {c : Res γ} {f : γ → Env → Res α} (h : After X W L G F σ P Q (c.bind f)) : After X W L G F σ P1 (Left X W L G F σ P1 f P Q) c := by
  cases c with
  | bad => exact h
  | ok a e => exact fun b F' H' r1 st p => ⟨F', e, a, r1, st, p, After.step h st⟩
  | exc x e => exact h
theorem After.ofO {o : Option γ} {f : γ → Env → Res α} {e : Env} (h : After X W L G F σ P Q ((ofO o e).bind f)) : ∃ a, o = some a ∧ After X W L G F σ P Q (f a e) := by
  cases o with
  | none => exact h.elim
  | some a => exact ⟨a, rfl, h⟩
theorem After.ofO' {o : Option α} {e : Env} (h : After X W L G F σ P Q (Ev.ofO o e)) : ∃ a, o = some a ∧ After X W L G F σ P Q (.ok a e) := by
  cases o with
  | none => exact h.elim
  | some a => exact ⟨a, rfl, h⟩
end
theorem pe_imp {X : Cx} {e : Expr} {t t' : TE} (h : PE X e t) (k : ∀ σ H Q, t' σ H Q → t σ H Q) : PE X e t' := ⟨fun pins s σ H Q I q => h.run pins s σ H Q I (k σ H Q q)⟩
theorem pt_imp {X : Cx} {e : Expr} {t t' : TT} (h : PT X e t) (k : ∀ σ H Q, t' σ H Q → t σ H Q) : PT X e t' := ⟨fun pins s σ H Q I q => h.run pins s σ H Q I (k σ H Q q)⟩
theorem pw_imp {X : Cx} {e : Expr} {t t' : TT} (h : PW X e t) (k : ∀ σ H Q, t' σ H Q → t σ H Q) : PW X e t' := ⟨fun wh pins s σ H Q I q => h.run wh pins s σ H Q I (k σ H Q q)⟩
theorem pa_imp {X : Cx} {es : List Expr} {t t' : TA} (h : PA X es t) (k : ∀ σ H Q, t' σ H Q → t σ H Q) : PA X es t' := ⟨fun pos pins s σ H Q I q => h.run pos pins s σ H Q I (k σ H Q q)⟩
theorem ps_imp {X : Cx} {e : Stmt} {t t' : TS} (h : PS X e t) (k : ∀ D σ H, t' D σ H → t D σ H) : PS X e t' := ⟨fun pins s σ H D I q => h.run pins s σ H D I (k D σ H q)⟩
theorem pss_imp {X : Cx} {e : List Stmt} {t t' : TS} (h : PSs X e t) (k : ∀ D σ H, t' D σ H → t D σ H) : PSs X e t' := ⟨fun pins s σ H D I q => h.run pins s σ H D I (k D σ H q)⟩
/-- the three readings of a piece: a value, a test -/
abbrev PV (X : Cx) (W : WX) (e : Expr) (c : Vc) : Prop := PE X e (Tr X W c (ROk X.K))
def BOk : Rl Bool Bool := fun _ _ _ _ _ a b => a = b
abbrev PB (X : Cx) (W : WX) (e : Expr) (t : Env → Res Bool) : Prop := PT X e (Tr X W t BOk)
def nF : R → Prop
  | .fresh _ => False
  | _ => True
/-- a result that stands on -/
def RNk (K : PySem.W.Frag) : Rl R V := fun G F H σ e r v => ROk K G F H σ e r v ∧ nF r
def DOk (K : PySem.W.Frag) : Rl D V := fun _ F _ _ _ d v => Dp K F v d
theorem RNk.later {K : PySem.W.Frag} {G F F' H H' : Hp} {σ : L2.St} {e e' : Env} {r : R} {v : V} (h : RNk K G F H σ e r v) (st : Same F F') : RNk K G F' H' σ e' r v :=
  ⟨h.1.later st (fun c z => by subst z; exact h.2), h.2⟩
section
variable {X : Cx} {W : WX} {ex ea eb : Expr} {c ca cb : Vc} {pos : Pos}
theorem sg_some {σ : L2.St} {i : Nat} {v : V} (h : sg σ i = some v) : σ[i]? = some (some v) := by
  unfold sg List.getD at h
  cases e : σ[i]? with
  | none => rw [e] at h; cases h
  | some o => rw [e] at h; simp only [Option.getD_some] at h; rw [h]
/-- new objects let stand -/
theorem setl_state {L : Fr} {G F H : Hp} {σ : L2.St} {e : Env} {r : R} {v : V} {Q : VK} (rl : Rel X.K L G F H σ e) (h : ROk X.K G F H σ e r v) (q : After X W L G F σ (RNk X.K) Q (setl e r)) : Q v H := by
  cases r with
  | val d => exact q v F H rl (Step.refl G F) ⟨h, trivial⟩
  | slot i => exact q v F H rl (Step.refl G F) ⟨h, trivial⟩
  | fresh cc =>
    cases cc <;> first | exact (show False from q).elim | skip
    obtain ⟨p, rfl, ⟨q1, q2, o, q3, q4⟩, hn⟩ := h
    obtain ⟨r', st⟩ := rl.keep (o := o) q3 q1 q2 hn
    exact q (.ref p) _ H r' st ⟨dp_of_cr upd_same (cr_mono st.s q4), trivial⟩
theorem pv_n (h : PV X W ex c) : PE X ex (Tr X W (vN c) (RNk X.K)) := pe_imp h fun σ H Q ⟨L, G, F, e, r, a⟩ =>
  ⟨L, G, F, e, r, (After.bind (P1 := ROk X.K) a).mono fun v H1 ⟨F1, e1, rr, r1, st, p1, a1⟩ => setl_state r1 p1 a1⟩
theorem esc_state {L : Fr} {G F H : Hp} {σ : L2.St} {e : Env} {r : R} {v : V} {Q : VK} (rl : Rel X.K L G F H σ e) (h : ROk X.K G F H σ e r v) (q : After X W L G F σ (DOk X.K) Q (esc e r)) : Q v H := by
  cases r with
  | val d => exact q v F H rl (Step.refl G F) h
  | fresh cc =>
    cases cc <;> first | exact (show False from q).elim | skip
    obtain ⟨p, rfl, ⟨q1, q2, o, q3, q4⟩, hn⟩ := h
    obtain ⟨r', st⟩ := rl.keep (o := o) q3 q1 q2 hn
    exact q (.ref p) _ H r' st (dp_of_cr upd_same (cr_mono st.s q4))
  | slot i =>
    have h : sg σ i = some v := h
    dsimp only [esc] at q
    split at q
    · rename_i cc hi
      obtain ⟨F', a, e1, r', st, dp⟩ := rl.freeze hi
      rw [h] at e1
      cases e1
      exact q _ F' H r' st dp
    · exact q.elim
/-- as a value for good -/
theorem pv_e (h : PV X W ex c) : PE X ex (Tr X W (vE c) (DOk X.K)) := pe_imp h fun σ H Q ⟨L, G, F, e, r, a⟩ =>
  ⟨L, G, F, e, r, (After.bind (P1 := ROk X.K) a).mono fun v H1 ⟨F1, e1, rr, r1, st, p1, a1⟩ => esc_state r1 p1 a1⟩
/-- read at once -/
def AOk (K : PySem.W.Frag) : Rl D V := fun _ F H _ _ d v => Ar K F H v d
theorem pv_d (h : PV X W ex c) : PE X ex (Tr X W (vD c) (AOk X.K)) := pe_imp h fun σ H Q ⟨L, G, F, e, r, a⟩ =>
  ⟨L, G, F, e, r, (After.bind (P1 := ROk X.K) a).mono fun v H1 ⟨F1, e1, rr, r1, st, p1, a1⟩ => by
    obtain ⟨d, hd, a2⟩ := a1.ofO'
    exact a2 v F1 H1 r1 (Step.refl G F1) (rd_ok r1 p1 hd)⟩
theorem pv_var {i : Nat} {x : Str} (hN : X.N[i]? = some x) (hv : Vis X.env.scope x) (hd : (x == ("__debug__" : Str)) = false) (hcd : (x == ("__classdict__" : Str)) = false) : PV X W (.Name x pos) (varC i) :=
  pe_imp (pe_var hN hv hd hcd) fun σ H Q ⟨L, G, F, e, r, a⟩ => by
    unfold varC at a
    split at a
    · rename_i d hi
      obtain ⟨v, e1, q⟩ := r.sl i _ hi
      exact ⟨v, sg_some e1, a v F H r (Step.refl G F) q⟩
    · rename_i d hi
      obtain ⟨v, e1, q⟩ := r.sl i _ hi
      split at a
      · exact ⟨v, sg_some e1, a v F H r (Step.refl G F) e1⟩
      · rename_i hl
        rcases q with q | ⟨_, _, _, _, rfl, _⟩
        · exact ⟨v, sg_some e1, a v F H r (Step.refl G F) q⟩
        · exact absurd rfl hl
    · rename_i t k cc hi
      obtain ⟨b, e1, _⟩ := r.sl i _ hi
      exact ⟨_, sg_some e1, a _ F H r (Step.refl G F) e1⟩
    · exact a.elim
theorem pv_con {d : D} {v : V} (h : PE X ex (tC v)) (hd : ∀ F : Hp, Dp X.K F v d) : PV X W ex (conC d) := pe_imp h fun σ H Q q => by
  obtain ⟨L, G, F, e, r, a⟩ := q
  exact a v F H r (Step.refl G F) (hd F)
theorem dp_none_mono {K : PySem.W.Frag} {v : V} {d : D} (h : Dp K (fun _ => none) v d) (F : Hp) : Dp K F v d := dp_mono (by intro b o z; exact absurd z (by simp)) h
/-! ### several -/
inductive DsOk (K : PySem.W.Frag) (F : Hp) : List D → List V → Prop where
  | nil : DsOk K F [] []
  | cons {d : D} {ds : List D} {v : V} {vs : List V} : Dp K F v d → DsOk K F ds vs → DsOk K F (d :: ds) (v :: vs)
theorem DsOk.dps {K : PySem.W.Frag} {F : Hp} : ∀ {ds : List D} {vs : List V}, DsOk K F ds vs → DpAll K F vs ds
  | _, _, .nil => .nil
  | _, _, .cons h t => .cons h t.dps
def DsR (K : PySem.W.Frag) : Rl (List D) (List V) := fun _ F _ _ _ ds vs => DpAll K F vs ds
inductive RsOk (K : PySem.W.Frag) (G F H : Hp) (σ : L2.St) (e : Env) : List R → List V → Prop where
  | nil : RsOk K G F H σ e [] []
  | cons {r : R} {rs : List R} {v : V} {vs : List V} : RNk K G F H σ e r v → RsOk K G F H σ e rs vs → RsOk K G F H σ e (r :: rs) (v :: vs)
/-- pieces one by one -/
inductive PVs (X : Cx) (W : WX) : List Expr → List Vc → Prop where
  | nil : PVs X W [] []
  | cons {e : Expr} {es : List Expr} {c : Vc} {cs : List Vc} : PV X W e c → (starEach (e :: es) X.env = (false, eval e X.env) :: starEach es X.env) → PVs X W es cs → PVs X W (e :: es) (c :: cs)
theorem pa_es : ∀ {es : List Expr} {cs : List Vc}, PVs X W es cs → PA X es (Tr X W (vEs cs) (DsR X.K))
  | _, _, .nil => pa_imp pa_nil fun σ H Q q => by
      obtain ⟨L, G, F, e, r, a⟩ := q
      exact a [] F H r (Step.refl G F) .nil
  | _, _, .cons h hs t => pa_imp (pa_cons (pv_e h) (pa_es t) hs) fun σ H Q ⟨L, G, F, e, r, a⟩ =>
      ⟨L, G, F, e, r, (After.bind (P1 := DOk X.K) a).mono fun v H1 ⟨F1, e1, d, r1, st, p1, a1⟩ =>
        ⟨L, G, F1, e1, r1, (After.bind (P1 := DsR X.K) a1).mono fun vs H2 ⟨F2, e2, ds, r2, st2, p2, a2⟩ => a2 (v :: vs) F2 H2 r2 (Step.refl G F2) (.cons (dp_mono st2.s p1) p2)⟩⟩
theorem pa_ns : ∀ {es : List Expr} {cs : List Vc}, PVs X W es cs → PA X es (Tr X W (vNs cs) (RsOk X.K))
  | _, _, .nil => pa_imp pa_nil fun σ H Q q => by
      obtain ⟨L, G, F, e, r, a⟩ := q
      exact a [] F H r (Step.refl G F) .nil
  | _, _, .cons h hs t => pa_imp (pa_cons (pv_n h) (pa_ns t) hs) fun σ H Q ⟨L, G, F, e, r, a⟩ =>
      ⟨L, G, F, e, r, (After.bind (P1 := RNk X.K) a).mono fun v H1 ⟨F1, e1, d, r1, st, p1, a1⟩ =>
        ⟨L, G, F1, e1, r1, (After.bind (P1 := RsOk X.K) a1).mono fun vs H2 ⟨F2, e2, ds, r2, st2, p2, a2⟩ => a2 (v :: vs) F2 H2 r2 (Step.refl G F2) (.cons (p1.later st2.s) p2)⟩⟩
theorem vEs_len : ∀ {cs : List Vc} {e : Env} {ds : List D} {e' : Env}, vEs cs e = .ok ds e' → ds.length = cs.length := by
  intro cs
  induction cs with
  | nil => intro e ds e' z; cases z; rfl
  | cons c cs ih =>
    intro e ds e' z
    unfold vEs at z
    cases h1 : vE c e with
    | bad => rw [h1] at z; cases z
    | exc x e2 => rw [h1] at z; cases z
    | ok d e1 =>
      rw [h1, bind_ok] at z
      cases h2 : vEs cs e1 with
      | bad => rw [h2] at z; cases z
      | exc x e2 => rw [h2] at z; cases z
      | ok ds' e2 =>
        rw [h2, bind_ok] at z
        cases z
        rw [List.length_cons, List.length_cons, ih h2]
theorem PVs.len {es : List Expr} {cs : List Vc} (h : PVs X W es cs) : cs.length = es.length := by
  induction h with
  | nil => rfl
  | cons _ _ _ ih => simp [ih]
theorem pv_tup {es : List Expr} {cs : List Vc} {k : Nat} (h : PVs X W es cs) (hl : es.length ≤ sizeLine) : PV X W (.Tuple es k pos) (tupC cs) := by
  refine pe_imp (pe_tup (pa_es h)) fun σ H Q q => ?_
  obtain ⟨L, G, F, e, r, a⟩ := q
  refine ⟨L, G, F, e, r, ?_⟩
  unfold tupC at a
  cases hv : vEs cs e with
  | bad => rw [hv] at a; exact a.elim
  | exc x e2 => rw [hv] at a; exact a
  | ok ds e1 =>
    rw [hv, bind_ok] at a
    intro vs F1 H1 r1 st p1
    have p1 : DpAll X.K F1 vs ds := p1
    refine ⟨by rw [dps_len p1, vEs_len hv, h.len]; exact hl, fun p hp => ?_⟩
    obtain ⟨r2, st2⟩ := r1.lay (o := .tup vs) hp
    exact a (.ref p) _ _ r2 (st.trans st2) (.tup (SqT.of upd_same) (dps_mono st2.s p1))
theorem fresh_put {L : Fr} {G F H : Hp} {σ : L2.St} {e : Env} {p : Addr} {vs : List V} {ds : List D} (r : Rel X.K L G F H σ e) (hp : H p = none) (h : DpAll X.K F vs ds) :
    Rel X.K L G F (upd H p (.lst vs)) σ e ∧ ROk X.K G F (upd H p (.lst vs)) σ e (.fresh (.lst ds)) (.ref p) := by
  refine ⟨r.put hp, p, rfl, ⟨r.fh.free hp, r.gh.free hp, .lst vs, upd_same, h⟩, fun i m e1 => ?_⟩
  obtain ⟨t, k, c, hi⟩ := m
  obtain ⟨a, e2, ⟨_, _, o, q3, _⟩, _⟩ := r.sl i _ hi
  rw [e1] at e2; cases e2
  rw [hp] at q3; cases q3
theorem pv_lst {es : List Expr} {cs : List Vc} (h : PVs X W es cs) (hl : es.length ≤ sizeLine) : PV X W (.List es pos) (lstC cs) := by
  refine pe_imp (pe_lst (pa_es h)) fun σ H Q q => ?_
  obtain ⟨L, G, F, e, r, a⟩ := q
  refine ⟨L, G, F, e, r, ?_⟩
  unfold lstC at a
  cases hv : vEs cs e with
  | bad => rw [hv] at a; exact a.elim
  | exc x e2 => rw [hv] at a; exact a
  | ok ds e1 =>
    rw [hv, bind_ok] at a
    intro vs F1 H1 r1 st p1
    have p1 : DpAll X.K F1 vs ds := p1
    refine ⟨by rw [dps_len p1, vEs_len hv, h.len]; exact hl, fun p hp => ?_⟩
    obtain ⟨r2, o2⟩ := fresh_put r1 hp p1
    exact a (.ref p) _ _ r2 st o2
/-! ### operations -/
theorem v2_eq {α : Type} (a b : Vc) (f : D × D → Env → Res α) (e : Env) : (v2 a b e).bind f = ((vN a e).bind fun r e1 => ((vN b e1).bind fun q e2 => ((ofO (rd e2 r) e2).bind fun x e3 => ((ofO (rd e3 q) e3).bind fun y e4 => f (x, y) e4)))) := by
  unfold v2
  cases vN a e with
  | bad => rfl
  | exc _ _ => rfl
  | ok r1 e1 =>
    simp only [bind_ok]
    cases vN b e1 with
    | bad => rfl
    | exc _ _ => rfl
    | ok r2 e2 =>
      simp only [bind_ok]
      cases rd e2 r1 with
      | none => rfl
      | some d =>
        simp only [ofO_some, bind_ok]
        cases rd e2 r2 with
        | none => rfl
        | some d' => rfl
/-- two operands, read behind both -/
theorem two_tr {α β : Type} {P : Rl α β} {a b : Vc} {f : D × D → Env → Res α} {r : R2} {Q : β → Hp → Prop} {Q' : VK}  {σ : L2.St} {H : Hp}
    (k : ∀ (L : FrX X) (G F H : Hp) (e : Env) (x y : V) (d d' : D), Rel X.K L G F H σ e → Ar X.K F H x d → Ar X.K F H y d' → After X W L G F σ P Q (f (d, d') e) → r x y H Q') (q : Tr X W (fun e => (v2 a b e).bind f) P σ H Q) :
    tOp r (Tr X W (vN a) (RNk X.K)) (Tr X W (vN b) (RNk X.K)) σ H Q' := by
  obtain ⟨L, G, F, e, r0, h⟩ := q
  have h : After X W L G F σ P Q ((v2 a b e).bind f) := h
  rw [v2_eq] at h
  refine ⟨L, G, F, e, r0, (After.bind (P1 := RNk X.K) h).mono fun x H1 z => ?_⟩
  obtain ⟨F1, e1, ra, r1, st1, p1, a1⟩ := z
  refine ⟨L, G, F1, e1, r1, (After.bind (P1 := RNk X.K) a1).mono fun y H2 z => ?_⟩
  obtain ⟨F2, e2, rb, r2, st2, p2, a2⟩ := z
  obtain ⟨d, hd, a3⟩ := a2.ofO
  obtain ⟨d', hd', a4⟩ := a3.ofO
  exact k L G F2 H2 e2 x y d d' r2 (rd_ok r2 (p1.later st2.s).1 hd) (rd_ok r2 p2.1 hd') a4
def rOpD (X : Cx) (g : D → D → Option R) : R2 := fun x y H Q => ∃ F d d' z, Same F H ∧ Ar X.K F H x d ∧ Ar X.K F H y d' ∧ g d d' = some z ∧ ∀ nv, NVOk X.K F nv z → NVQ nv H Q
theorem opr_of {f : Value → Value → Sem Value} {g : D → D → Option R} (h : OpD X f g) : OpR X f (rOpD X g) := fun pins s σ H x y v u Q I rx ry q => by
  obtain ⟨F, d, d', z, fh, h1, h2, h3, h4⟩ := q
  exact h pins s σ H F x y d d' z v u Q I fh rx ry h1 h2 h3 h4
def rCmpD (X : Cx) (g : D → D → Option Bool) : R2 := fun x y H Q => ∃ F d d' k, Same F H ∧ Ar X.K F H x d ∧ Ar X.K F H y d' ∧ g d d' = some k ∧ Q (.bl k) H
theorem cmpr_of {f : Value → Value → Sem Value} {g : D → D → Option Bool} (h : CmpD X f g) : OpR X f (rCmpD X g) := fun pins s σ H x y v u Q I rx ry q => by
  obtain ⟨F, d, d', z, fh, h1, h2, h3, h4⟩ := q
  exact h pins s σ H F x y d d' z v u Q I fh rx ry h1 h2 h3 h4
theorem pv_bin {op : Operator} (ha : PV X W ea ca) (hb : PV X W eb cb) : PV X W (.BinOp ea op eb pos) (binC op ca cb) :=
  pe_imp (pe_op (opr_of (opd_all op)) (pv_n ha) (pv_n hb)) fun σ H Q q => two_tr (P := ROk X.K) (Q := Q) (fun L G F H e x y d d' r hx hy a => by
    obtain ⟨z, hz, a1⟩ := a.ofO'
    exact ⟨F, d, d', z, r.fh, hx, hy, hz, fun nv hnv => nv_state r hnv fun v F' H' r' st p => a1 v F' H' r' st p⟩) q
theorem pb_cmp {op : CmpOp} (hu : X.A.units + 100 < cLine) (ha : PV X W ea ca) (hb : PV X W eb cb) (hm : behindInMarks op eb = false) : PB X W (.Compare ea [op] [eb] pos) (cmpB op ca cb) :=
  pt_imp (pt_cmpR (cmpr_of (cmp_all hu op)) (pv_n ha) (pv_n hb) hm) fun σ H Q q => two_tr (P := BOk) (Q := Q) (fun L G F H e x y d d' r hx hy a => by
    obtain ⟨k, hk, a1⟩ := a.ofO'
    exact ⟨F, d, d', k, r.fh, hx, hy, hk, k, rfl, a1 k F H r (Step.refl G F) rfl⟩) q
theorem boolR_bind {α : Type} (c : Env → Res α) (f : α → Env → Res Bool) (e : Env) : boolR (fun e => (c e).bind f) e = (c e).bind fun a e1 => (f a e1).bind fun k e2 => .ok (.val (.bool k)) e2 := by
  show ((c e).bind f).bind _ = _
  cases c e <;> rfl
theorem tr_congr {α β : Type} {c c' : Env → Res α} {P : Rl α β} {σ : L2.St} {H : Hp} {Q : β → Hp → Prop} (h : ∀ e, c e = c' e) (q : Tr X W c P σ H Q) : Tr X W c' P σ H Q := by
  obtain ⟨L, G, F, e, r, a⟩ := q
  exact ⟨L, G, F, e, r, by rw [← h e]; exact a⟩
theorem pv_cmp {op : CmpOp} (hu : X.A.units + 100 < cLine) (ha : PV X W ea ca) (hb : PV X W eb cb) (hm : behindInMarks op eb = false) : PV X W (.Compare ea [op] [eb] pos) (boolR (cmpB op ca cb)) :=
  pe_imp (pe_cmpR (cmpr_of (cmp_all hu op)) (pv_n ha) (pv_n hb) hm) fun σ H Q q => by
    refine two_tr (P := ROk X.K) (Q := Q) (f := fun p e2 => (ofO (cop op p.1 p.2) e2).bind fun k e3 => .ok (.val (.bool k)) e3) (fun L G F H e x y d d' r hx hy a => ?_) ?_
    · obtain ⟨k, hk, a1⟩ := a.ofO
      exact ⟨F, d, d', k, r.fh, hx, hy, hk, a1 (.bl k) F H r (Step.refl G F) (.bl k)⟩
    · exact tr_congr (fun e => boolR_bind (v2 ca cb) _ e) q
theorem ar_notL {K : PySem.W.Frag} {F H : Hp} {v : V} {d : D} (h : Ar K F H v d) (hl : isL d = false) : Dp K F v d := by
  rcases h with h | ⟨_, _, _, _, rfl, _⟩
  · exact h
  · cases hl
theorem isL_opt {d : D} {o : Option Bool} {k : Bool} (h : (if isL d = true then none else o) = some k) : isL d = false ∧ o = some k := by
  cases hd : isL d with
  | true => rw [hd] at h; cases h
  | false => rw [hd] at h; exact ⟨rfl, h⟩
/-- a chain's reading -/
theorem chn_tr {α β : Type} {P : Rl α β} {op op' : CmpOp} {a b c : Vc} {g : Bool → Env → Res α} {Q : β → Hp → Prop} {Q' : VK} {σ : L2.St} {H : Hp}
    (k : ∀ (L : FrX X) (G F H : Hp) (e : Env) (b : Bool), Rel X.K L G F H σ e → After X W L G F σ P Q (g b e) → Q' (.bl b) H)
    (q : Tr X W (fun e => (chnB op op' a b c e).bind g) P σ H Q) : tChain (rCmpD X (cop op)) (rCmpD X (cop op')) (Tr X W (vN a) (RNk X.K)) (Tr X W (vN b) (RNk X.K)) (Tr X W (vD c) (AOk X.K)) σ H Q' := by
  have q2 : Tr X W (fun e => (v2 a b e).bind fun p e2 => (ofO (if isL p.2 = true then none else cop op p.1 p.2) e2).bind fun k e3 => (if k = true then (vD c e3).bind fun z e4 => ofO (cop op' p.2 z) e4 else .ok false e3 : Res Bool).bind g) P σ H Q := by
    refine tr_congr (fun e => ?_) q
    show (chnB op op' a b c e).bind g = (v2 a b e).bind fun p e2 => (ofO (if isL p.2 = true then none else cop op p.1 p.2) e2).bind fun k e3 => (if k = true then (vD c e3).bind fun z e4 => ofO (cop op' p.2 z) e4 else .ok false e3 : Res Bool).bind g
    unfold chnB
    cases v2 a b e with
    | bad => rfl
    | exc _ _ => rfl
    | ok p e2 =>
      simp only [bind_ok]
      cases (if isL p.2 = true then none else cop op p.1 p.2) <;> rfl
  refine two_tr (P := P) (Q := Q) (r := fun x y H Q2 => rCmpD X (cop op) x y H fun z H3 => ∃ k, z = .bl k ∧ (if k = true then (Tr X W (vD c) (AOk X.K)) σ H3 fun w' H4 => rCmpD X (cop op') y w' H4 Q2 else Q2 (.bl false) H3)) (fun L G F H e x y d d' r hx hy h => ?_) q2
  obtain ⟨b1, hb1, h1⟩ := h.ofO
  obtain ⟨nl, hb1⟩ := isL_opt hb1
  have dy := ar_notL hy nl
  refine ⟨F, d, d', b1, r.fh, hx, hy, hb1, b1, rfl, ?_⟩
  cases b1 with
  | false =>
    rw [if_neg Bool.false_ne_true]
    exact k L G F H e false r h1
  | true =>
    rw [if_pos rfl]
    rw [if_pos rfl] at h1
    have h2 : After X W L G F σ P Q ((vD c e).bind fun z e4 => (ofO (cop op' d' z) e4).bind g) := by
      have e2 : ((vD c e).bind fun z e4 => ofO (cop op' d' z) e4 : Res Bool).bind g = (vD c e).bind fun z e4 => (ofO (cop op' d' z) e4).bind g := by
        cases vD c e <;> rfl
      rw [← e2]
      exact h1
    refine ⟨L, G, F, e, r, (After.bind (P1 := AOk X.K) h2).mono fun w H4 z => ?_⟩
    obtain ⟨F4, e4, z, r4, st4, p4, a4⟩ := z
    obtain ⟨b2, hb2, a5⟩ := a4.ofO
    exact ⟨F4, d', z, b2, r4.fh, .inl (dp_mono st4.s dy), p4, hb2, k L G F4 H4 e4 b2 r4 a5⟩
theorem res_bind_ok {α : Type} (r : Res α) : r.bind (fun a e => .ok a e) = r := by cases r <;> rfl
theorem pb_chn {op op' : CmpOp} {ec : Expr} {cc : Vc} (hu : X.A.units + 100 < cLine) (ha : PV X W ea ca) (hb : PV X W eb cb) (hc : PV X W ec cc) (hm : lastMarks [op, op'] [eb, ec] = false) : PB X W (.Compare ea [op, op'] [eb, ec] pos) (chnB op op' ca cb cc) :=
  pt_imp (pt_chain (cmpr_of (cmp_all hu op)) (cmpr_of (cmp_all hu op')) (pv_n ha) (pv_n hb) (pv_d hc) hm) fun σ H Q q => by
    refine chn_tr (P := BOk) (Q := Q) (g := fun a e => .ok a e) (fun L G F H e b r a => ⟨b, rfl, a b F H r (Step.refl G F) rfl⟩) ?_
    exact tr_congr (fun e => (res_bind_ok _).symm) q
theorem pv_chn {op op' : CmpOp} {ec : Expr} {cc : Vc} (hu : X.A.units + 100 < cLine) (ha : PV X W ea ca) (hb : PV X W eb cb) (hc : PV X W ec cc) (hm : lastMarks [op, op'] [eb, ec] = false) : PV X W (.Compare ea [op, op'] [eb, ec] pos) (boolR (chnB op op' ca cb cc)) :=
  pe_imp (pe_chain (cmpr_of (cmp_all hu op)) (cmpr_of (cmp_all hu op')) (pv_n ha) (pv_n hb) (pv_d hc) hm) fun σ H Q q =>
    chn_tr (P := ROk X.K) (Q := Q) (g := fun k e => .ok (.val (.bool k)) e) (fun L G F H e b r a => a (.bl b) F H r (Step.refl G F) (.bl b)) q
/-! ### truth -/
theorem pb_tru (ha : PV X W ea ca) (he : ∀ whole, isTrue ea X.env whole = (do let v ← whole; standAt ea.pos; holding [v] (truthy v))) : PB X W ea (tOf ca) :=
  pt_imp (pt_truth (pv_d ha) he) fun σ H Q q => by
    obtain ⟨L, G, F, e, r, a⟩ := q
    refine ⟨L, G, F, e, r, (After.bind (P1 := AOk X.K) a).mono fun x H1 z => ?_⟩
    obtain ⟨F1, e1, d, r1, st1, p1, a1⟩ := z
    obtain ⟨k, hk, a2⟩ := a1.ofO'
    exact ⟨k, tru_v r1.fh p1 hk, a2 k F1 H1 r1 (Step.refl G F1) rfl⟩
theorem pv_not (ha : PV X W ea ca) : PV X W (.UnaryOp .Not ea pos) (notC ca) :=
  pe_imp (pe_notT (pv_d ha)) fun σ H Q q => by
    obtain ⟨L, G, F, e, r, a⟩ := q
    refine ⟨L, G, F, e, r, (After.bind (P1 := AOk X.K) a).mono fun x H1 z => ?_⟩
    obtain ⟨F1, e1, d, r1, st1, p1, a1⟩ := z
    obtain ⟨k, hk, a2⟩ := a1.ofO
    exact ⟨k, tru_v r1.fh p1 hk, a2 (.bl (!k)) F1 H1 r1 (Step.refl G F1) (.bl _)⟩
variable {ta tb : Env → Res Bool}
theorem pb_not (ha : PB X W ea ta) : PB X W (.UnaryOp .Not ea pos) (notT ta) :=
  pt_imp (pt_not ha) fun σ H Q q => by
    obtain ⟨L, G, F, e, r, a⟩ := q
    refine ⟨L, G, F, e, r, (After.bind (P1 := BOk) a).mono fun x H1 z => ?_⟩
    obtain ⟨F1, e1, k, r1, st1, p1, a1⟩ := z
    cases p1
    exact a1 (!x) F1 H1 r1 (Step.refl G F1) rfl
end
end Ev
set_option Elab.async false
set_option linter.all false
set_option maxHeartbeats 1000000
/-! Ev5: calls of defs. -/
namespace Ev
open PySem PySem.Spec PyProof.Rows L2
section
variable {X : Cx} {L : Fr} {G F H : Hp} {σ : L2.St} {e : Env}
theorem esc_at {r : R} {v : V} {d : D} {e' : Env} (rl : Rel X.K L G F H σ e) (h : ROk X.K G F H σ e r v) (q : esc e r = .ok d e') : ∃ F', Rel X.K L G F' H σ e' ∧ Step G F F' ∧ Dp X.K F' v d := by
  cases r with
  | val d' => cases q; exact ⟨F, rl, Step.refl G F, h⟩
  | fresh cc =>
    cases cc <;> first | (cases q; done) | skip
    cases q
    obtain ⟨p, rfl, ⟨q1, q2, o, q3, q4⟩, hn⟩ := h
    obtain ⟨r', st⟩ := rl.keep (o := o) q3 q1 q2 hn
    exact ⟨_, r', st, dp_of_cr upd_same (cr_mono st.s q4)⟩
  | slot i =>
    have h : sg σ i = some v := h
    dsimp only [esc] at q
    split at q
    · rename_i cc hi
      cases q
      obtain ⟨F', a, e1, r', st, dp⟩ := rl.freeze hi
      rw [h] at e1
      cases e1
      exact ⟨F', r', st, dp⟩
    · cases q
theorem RsOk.later {G F F' H H' : Hp} {K : PySem.W.Frag} {e' : Env} {rs : List R} {vs : List V} (h : RsOk K G F H σ e rs vs) (st : Same F F') : RsOk K G F' H' σ e' rs vs := by
  induction h with
  | nil => exact .nil
  | cons h _ ih => exact .cons (h.later st) ih
theorem escAll_at : ∀ {ms : List Mo} {rs qs : List R} {vs : List V} {F : Hp} {e e' : Env}, Rel X.K L G F H σ e → RsOk X.K G F H σ e rs vs → escAll ms rs e = some (qs, e') → ∃ F', Rel X.K L G F' H σ e' ∧ Step G F F' ∧ RsOk X.K G F' H σ e' qs vs
  | [], [], qs, vs, F, e, e', rl, h, q => by
    cases q
    exact ⟨F, rl, Step.refl G F, h⟩
  | .f :: ms, r :: rs, qs, vs, F, e, e', rl, h, q => by
    cases h with
    | cons h t =>
      dsimp only [escAll] at q
      split at q
      · rename_i d e1 he
        obtain ⟨F1, r1, st1, dp⟩ := esc_at rl h.1 he
        cases hr : escAll ms rs e1 with
        | none => rw [hr] at q; cases q
        | some z =>
          rw [hr] at q
          cases q
          obtain ⟨F2, r2, st2, t2⟩ := escAll_at r1 (t.later st1.s) hr
          exact ⟨F2, r2, st1.trans st2, .cons ⟨dp_mono st2.s dp, trivial⟩ t2⟩
      · cases q
  | .b :: ms, r :: rs, qs, vs, F, e, e', rl, h, q => by
    cases h with
    | cons h t =>
      dsimp only [escAll] at q
      cases hr : escAll ms rs e with
      | none => rw [hr] at q; cases q
      | some z =>
        rw [hr] at q
        cases q
        obtain ⟨F2, r2, st2, t2⟩ := escAll_at rl t hr
        exact ⟨F2, r2, st2, .cons (h.later st2.s) t2⟩
  | .l :: ms, r :: rs, qs, vs, F, e, e', rl, h, q => by
    cases h with
    | cons h t =>
      dsimp only [escAll] at q
      cases hr : escAll ms rs e with
      | none => rw [hr] at q; cases q
      | some z =>
        rw [hr] at q
        cases q
        obtain ⟨F2, r2, st2, t2⟩ := escAll_at rl t hr
        exact ⟨F2, r2, st2, .cons (h.later st2.s) t2⟩
  | [], r :: rs, qs, vs, F, e, e', rl, h, q => by cases q
  | m :: ms, [], qs, vs, F, e, e', rl, h, q => by cases m <;> cases q
/-- the lent slots and where their objects stand -/
inductive Lents (σ : L2.St) (e : Env) : List Nat → List Addr → Prop where
  | nil : Lents σ e [] []
  | cons {i : Nat} {a : Addr} {t : Bool} {c : C} {is : List Nat} {as : List Addr} : sg σ i = some (.ref a) → e[i]? = some (.mu t false c) → Lents σ e is as → Lents σ e (i :: is) (a :: as)
theorem Lents.mem {is : List Nat} {as : List Addr} (h : Lents σ e is as) {a : Addr} (ha : a ∈ as) : ∃ i ∈ is, sg σ i = some (.ref a) ∧ isMu e i := by
  induction h with
  | nil => cases ha
  | cons h1 h2 _ ih =>
    rcases List.mem_cons.mp ha with rfl | ha
    · exact ⟨_, List.mem_cons_self, h1, _, _, _, h2⟩
    · obtain ⟨i, hi, q⟩ := ih ha
      exact ⟨i, List.mem_cons_of_mem _ hi, q⟩
theorem Lents.memI {is : List Nat} {as : List Addr} (h : Lents σ e is as) {i : Nat} (hi : i ∈ is) : ∃ a ∈ as, sg σ i = some (.ref a) ∧ ∃ t c, e[i]? = some (.mu t false c) := by
  induction h with
  | nil => cases hi
  | cons h1 h2 _ ih =>
    rcases List.mem_cons.mp hi with rfl | hi
    · exact ⟨_, List.mem_cons_self, h1, _, _, h2⟩
    · obtain ⟨a, ha, q⟩ := ih hi
      exact ⟨a, List.mem_cons_of_mem _ ha, q⟩
theorem not_mem_of {xs : List Nat} {x : Nat} (h : (!xs.contains x) = true) : x ∉ xs := by
  intro hx
  have : xs.contains x = true := by simpa using hx
  rw [this] at h
  cases h
theorem Lents.nodup (rl : Rel X.K L G F H σ e) : ∀ {is : List Nat} {as : List Addr}, Lents σ e is as → uniq is = true → as.Nodup
  | _, _, .nil, _ => List.nodup_nil
  | _, _, .cons h1 h2 t, u => by
    unfold uniq at u
    rw [Bool.and_eq_true] at u
    refine List.nodup_cons.mpr ⟨fun hm => ?_, Lents.nodup rl t u.2⟩
    obtain ⟨j, hj, q1, q2⟩ := t.mem hm
    refine rl.ap _ j _ ?_ ⟨_, _, _, h2⟩ q2 h1 q1
    rintro rfl
    exact not_mem_of u.1 hj
/-- the arguments as the def wants them; LS: all that is lent -/
theorem readAll_at {LS : List Addr} {ls₀ : List Nat} (rl : Rel X.K L G F H σ e) (hLS : ∀ a ∈ LS, ∃ i ∈ ls₀, sg σ i = some (.ref a) ∧ isMu e i) (hin : ∀ i ∈ ls₀, ∃ a ∈ LS, sg σ i = some (.ref a)) :
    ∀ {ms : List Mo} {qs : List R} {vs : List V} {ds : List D} {ls : List Nat}, RsOk X.K G F H σ e qs vs → readAll e ms qs = some (ds, ls) → apart ls₀ ms qs = true → (∀ i ∈ ls, i ∈ ls₀) →
      ArgsOk X.K F H LS ms vs ds ∧ Lents σ e ls (lents ms vs) ∧ vs.length = ms.length
  | [], [], vs, ds, ls, h, q, _, _ => by
    cases h
    cases q
    exact ⟨.nil, .nil, rfl⟩
  | .f :: ms, .val d :: rs, vs, ds, ls, h, q, ap, hs => by
    cases h with
    | cons h t =>
      dsimp only [readAll] at q
      cases hr : readAll e ms rs with
      | none => rw [hr] at q; cases q
      | some z =>
        rw [hr] at q
        cases q
        obtain ⟨h1, h2, h3⟩ := readAll_at rl hLS hin t hr ap hs
        exact ⟨.f h.1 h1, by cases ‹V› <;> exact h2, by rw [List.length_cons, h3]; rfl⟩
  | .b :: ms, r :: rs, vs, ds, ls, h, q, ap, hs => by
    cases h with
    | @cons _ _ v _ h t =>
      dsimp only [readAll] at q
      cases hd : rd e r with
      | none => rw [hd] at q; cases q
      | some d =>
        rw [hd] at q
        simp only [Option.bind_some] at q
        cases hr : readAll e ms rs with
        | none => rw [hr] at q; cases q
        | some z =>
          rw [hr] at q
          cases q
          have ap2 : apart ls₀ ms rs = true := by
            cases r <;> first | exact ap | (simp only [apart, Bool.and_eq_true] at ap; exact ap.2)
          obtain ⟨h1, h2, h3⟩ := readAll_at rl hLS hin t hr ap2 hs
          have br : Br X.K (cut H LS) F v d := by
            cases r with
            | val d' => cases hd; exact .inl h.1
            | fresh c => exact (show False from h.2).elim
            | slot j =>
              have hj : sg σ j = some v := h.1
              have nj : j ∉ ls₀ := by
                simp only [apart, Bool.and_eq_true] at ap
                exact not_mem_of ap.1
              dsimp only [rd] at hd
              split at hd
              · rename_i t' k c he
                cases hd
                obtain ⟨a, e1, ⟨q1, q2, o, q3, q4⟩, _⟩ := rl.sl j _ he
                rw [hj] at e1; cases e1
                have na : a ∉ LS := fun ha => by
                  obtain ⟨i, hi, q5, q6⟩ := hLS a ha
                  refine rl.ap i j a ?_ q6 ⟨_, _, _, he⟩ q5 hj
                  rintro rfl
                  exact nj hi
                · cases o <;> first | exact (show False from q4).elim | skip
                  refine .inr ⟨a, _, _, rfl, rfl, SqL.of ?_, q4⟩
                  unfold cut
                  rw [if_neg na]
                  exact q3
              · rename_i d' he
                cases hd
                obtain ⟨w, e1, b⟩ := rl.sl j _ he
                rw [hj] at e1; cases e1
                rcases b with b | ⟨a, xs, ds', rfl, rfl, b1, b2⟩
                · exact .inl b
                · refine .inr ⟨a, xs, ds', rfl, rfl, ?_, b2⟩
                  refine Same.seq (H := L.b) (fun x y hx => ?_) b1
                  have hg := rl.bg _ _ hx
                  have nx : x ∉ LS := fun ha => by
                    obtain ⟨i, _, q5, t', k', c', q6⟩ := hLS x ha
                    obtain ⟨a', e2, ⟨_, g2, _⟩, _⟩ := rl.sl i _ q6
                    rw [q5] at e2; cases e2
                    rw [hg] at g2; cases g2
                  unfold cut
                  rw [if_neg nx]
                  exact rl.gh _ _ hg
              · cases hd
          exact ⟨.b br h1, by cases v <;> exact h2, by rw [List.length_cons, h3]; rfl⟩
  | .l :: ms, .slot i :: rs, vs, ds, ls, h, q, ap, hs => by
    cases h with
    | @cons _ _ v _ h t =>
      dsimp only [readAll] at q
      split at q
      · rename_i t' c he
        cases hr : readAll e ms rs with
        | none => rw [hr] at q; cases q
        | some z =>
          rw [hr] at q
          cases q
          obtain ⟨h1, h2, h3⟩ := readAll_at rl hLS hin t hr ap fun j hj => hs j (List.mem_cons_of_mem _ hj)
          have hi : sg σ i = some v := h.1
          obtain ⟨a, e1, ⟨q1, q2, o, q3, q4⟩, _⟩ := rl.sl i _ he
          rw [hi] at e1; cases e1
          have ma : a ∈ LS := by
            obtain ⟨a', ha', e2⟩ := hin i (hs i List.mem_cons_self)
            rw [hi] at e2; cases e2
            exact ha'
          refine ⟨.l ⟨q1, ?_, o, q3, q4⟩ ma h1, .cons hi he h2, by rw [List.length_cons, h3]; rfl⟩
          unfold cut
          rw [if_pos ma]
      · cases q
  | [], r :: rs, vs, ds, ls, h, q, _, _ => by cases q
  | .f :: ms, [], vs, ds, ls, h, q, _, _ => by cases q
  | .b :: ms, [], vs, ds, ls, h, q, _, _ => by cases q
  | .l :: ms, [], vs, ds, ls, h, q, _, _ => by cases q
  | .f :: ms, .slot _ :: rs, vs, ds, ls, h, q, _, _ => by cases q
  | .f :: ms, .fresh _ :: rs, vs, ds, ls, h, q, _, _ => by cases q
  | .l :: ms, .val _ :: rs, vs, ds, ls, h, q, _, _ => by cases q
  | .l :: ms, .fresh _ :: rs, vs, ds, ls, h, q, _, _ => by cases q
/-- the lent addresses alone, ahead -/
theorem readAll_ls : ∀ {ms : List Mo} {qs : List R} {vs : List V} {ds : List D} {ls : List Nat}, Rel X.K L G F H σ e → RsOk X.K G F H σ e qs vs → readAll e ms qs = some (ds, ls) → Lents σ e ls (lents ms vs)
  | [], [], vs, ds, ls, rl, h, q => by
    cases h
    cases q
    exact .nil
  | .f :: ms, .val d :: rs, vs, ds, ls, rl, h, q => by
    cases h with
    | @cons _ _ v _ h t =>
      dsimp only [readAll] at q
      cases hr : readAll e ms rs with
      | none => rw [hr] at q; cases q
      | some z =>
        rw [hr] at q
        cases q
        have := readAll_ls rl t hr
        cases v <;> exact this
  | .b :: ms, r :: rs, vs, ds, ls, rl, h, q => by
    cases h with
    | @cons _ _ v _ h t =>
      dsimp only [readAll] at q
      cases hd : rd e r with
      | none => rw [hd] at q; cases q
      | some d =>
        rw [hd] at q
        simp only [Option.bind_some] at q
        cases hr : readAll e ms rs with
        | none => rw [hr] at q; cases q
        | some z =>
          rw [hr] at q
          cases q
          have := readAll_ls rl t hr
          cases v <;> exact this
  | .l :: ms, .slot i :: rs, vs, ds, ls, rl, h, q => by
    cases h with
    | @cons _ _ v _ h t =>
      dsimp only [readAll] at q
      split at q
      · rename_i t' c he
        cases hr : readAll e ms rs with
        | none => rw [hr] at q; cases q
        | some z =>
          rw [hr] at q
          cases q
          have hi : sg σ i = some v := h.1
          obtain ⟨a, e1, _⟩ := rl.sl i _ he
          rw [hi] at e1; cases e1
          exact .cons hi he (readAll_ls rl t hr)
      · cases q
  | [], r :: rs, vs, ds, ls, rl, h, q => by cases q
  | .f :: ms, [], vs, ds, ls, rl, h, q => by cases q
  | .b :: ms, [], vs, ds, ls, rl, h, q => by cases q
  | .l :: ms, [], vs, ds, ls, rl, h, q => by cases q
  | .f :: ms, .slot _ :: rs, vs, ds, ls, rl, h, q => by cases q
  | .f :: ms, .fresh _ :: rs, vs, ds, ls, rl, h, q => by cases q
  | .l :: ms, .val _ :: rs, vs, ds, ls, rl, h, q => by cases q
  | .l :: ms, .fresh _ :: rs, vs, ds, ls, rl, h, q => by cases q
end
end Ev
set_option Elab.async false
set_option linter.all false
set_option maxHeartbeats 1000000
/-! Ev6: behind a call; the rest of the expressions. -/
namespace Ev
open PySem PySem.Spec PyProof.Rows L2
section
variable {X : Cx} {W : WX} {L : Fr} {G F H : Hp} {σ : L2.St} {e : Env}
/-- what putBack does, slot by slot -/
theorem putBack_get : ∀ {ls : List Nat} {cs : List C} {e e' : Env} {as : List Addr}, Lents σ e ls as → uniq ls = true → putBack ls cs e = some e' → cs.length = ls.length ∧ e'.length = e.length ∧ (∀ j, j ∉ ls → e'[j]? = e[j]?) ∧ ∀ (k : Nat) (i : Nat) (c : C), ls[k]? = some i → cs[k]? = some c → ∃ t c0, e[i]? = some (.mu t false c0) ∧ e'[i]? = some (.mu t false c)
  | [], [], e, e', as, _, _, q => by
    cases q
    exact ⟨rfl, rfl, fun _ _ => rfl, fun k i c h _ => by simp at h⟩
  | i :: is, c :: cs, e, e', _, @Lents.cons _ _ _ _ t c0 _ as2 h1 h2 h3, u, q => by
    unfold uniq at u
    rw [Bool.and_eq_true] at u
    have ni := not_mem_of u.1
    have hi : i < e.length := (List.getElem?_eq_some_iff.mp h2).1
    unfold putBack at q
    rw [h2] at q
    dsimp only at q
    have h3' : Lents σ (e.set i (.mu t false c)) is as2 := by
      have : ∀ {is : List Nat} {as : List Addr}, Lents σ e is as → i ∉ is → Lents σ (e.set i (.mu t false c)) is as := by
        intro is as h
        induction h with
        | nil => intro _; exact .nil
        | cons g1 g2 _ ih =>
          intro n
          exact .cons g1 ((List.getElem?_set_ne (fun z => n (by rw [z]; exact List.mem_cons_self))).trans g2) (ih fun z => n (List.mem_cons_of_mem _ z))
      exact this h3 ni
    obtain ⟨q1, q2, q3, q4⟩ := putBack_get h3' u.2 q
    refine ⟨by simp [q1], by rw [q2, List.length_set], fun j hj => ?_, fun k j c' hk hc => ?_⟩
    · rw [q3 j fun z => hj (List.mem_cons_of_mem _ z), List.getElem?_set_ne]
      rintro rfl
      exact hj List.mem_cons_self
    · cases k with
      | zero =>
        simp only [List.getElem?_cons_zero, Option.some.injEq] at hk hc
        subst hk hc
        refine ⟨t, c0, h2, ?_⟩
        rw [q3 i ni, List.getElem?_set_self hi]
      | succ k =>
        simp only [List.getElem?_cons_succ] at hk hc
        obtain ⟨t', c1, g1, g2⟩ := q4 k j c' hk hc
        refine ⟨t', c1, ?_, g2⟩
        rw [List.getElem?_set_ne] at g1
        · exact g1
        · rintro rfl
          exact ni (List.mem_of_getElem? hk)
  | [], c :: cs, e, e', as, _, _, q => by cases q
  | i :: is, [], e, e', as, _, _, q => by cases q
theorem Lents.at {is : List Nat} {as : List Addr} (h : Lents σ e is as) : ∀ {k : Nat} {i : Nat}, is[k]? = some i → ∃ a, as[k]? = some a ∧ sg σ i = some (.ref a) := by
  induction h with
  | nil => intro k i hk; simp at hk
  | cons h1 h2 _ ih =>
    intro k i hk
    cases k with
    | zero => simp at hk; subst hk; exact ⟨_, rfl, h1⟩
    | succ k =>
      obtain ⟨a, q1, q2⟩ := ih (k := k) (i := i) (by simpa using hk)
      exact ⟨a, by simpa using q1, q2⟩
theorem LentOk.at {K : PySem.W.Frag} {G F H : Hp} {as : List Addr} {cs : List C} (h : LentOk K G F H as cs) : ∀ {k : Nat} {a : Addr} {c : C}, as[k]? = some a → cs[k]? = some c → Own K G F H a c := by
  induction h with
  | nil => intro k a c hk; simp at hk
  | cons h _ ih =>
    intro k a c hk hc
    cases k with
    | zero => simp at hk hc; subst hk hc; exact h
    | succ k => exact ih (by simpa using hk) (by simpa using hc)
theorem cut_ne {H : Hp} {ls : List Addr} {a : Addr} (h : a ∉ ls) : cut H ls a = H a := if_neg h
/-- the state behind a call -/
theorem aft_state {ls : List Nat} {LS : List Addr} {cs : List C} {e' : Env} {F' H' : Hp} (rl : Rel X.K L G F H σ e) (le : Lents σ e ls LS) (u : uniq ls = true) (pb : putBack ls cs e = some e') (af : Aft X.K (cut H LS) F F' H' LS cs) :
    Rel X.K L G F' H' σ e' ∧ Step G F F' := by
  obtain ⟨p1, p2, p3, p4⟩ := putBack_get le u pb
  have gn : ∀ a, G a ≠ none → a ∉ LS := fun a ha hm => by
    obtain ⟨i, _, q5, t', k', c', q6⟩ := le.mem hm
    obtain ⟨a', e2, ⟨_, g2, _⟩, _⟩ := rl.sl i _ q6
    rw [q5] at e2; cases e2
    exact ha g2
  have mus : ∀ i, isMu e' i → isMu e i := fun i ⟨t, k, c, h⟩ => by
    by_cases hi : i ∈ ls
    · obtain ⟨a, _, _, t', c', q⟩ := le.memI hi
      exact ⟨_, _, _, q⟩
    · rw [p3 i hi] at h
      exact ⟨t, k, c, h⟩
  refine ⟨⟨af.s2, fun a o h => ?_, by rw [rl.len, p2], fun i s h => ?_, fun i j a hij m1 m2 => rl.ap i j a hij (mus i m1) (mus j m2), rl.bg⟩, af.s1, fun a h => ?_⟩
  · refine af.s3 a o ?_
    rw [cut_ne (gn a (by rw [h]; exact fun z => nomatch z))]
    exact rl.gh _ _ h
  · by_cases hi : i ∈ ls
    · obtain ⟨k, hk⟩ := List.getElem?_of_mem hi
      have hkl : k < cs.length := by
        rw [p1]
        exact (List.getElem?_eq_some_iff.mp hk).1
      obtain ⟨t, c0, g1, g2⟩ := p4 k i cs[k] hk (List.getElem?_eq_getElem hkl)
      rw [h] at g2
      cases g2
      obtain ⟨a, ha, hs⟩ := le.at hk
      obtain ⟨a', e2, ⟨_, q2, _⟩, q5⟩ := rl.sl i _ g1
      have e3 : (some (V.ref a') : Option V) = some (.ref a) := e2.symm.trans hs
      cases e3
      obtain ⟨o1, _, o3⟩ := af.lo.at ha (List.getElem?_eq_getElem hkl)
      exact ⟨a, hs, ⟨o1, q2, o3⟩, q5⟩
    · rw [p3 i hi] at h
      have q := rl.sl i s h
      cases s with
      | un => trivial
      | fz d => obtain ⟨v, e1, q⟩ := q; exact ⟨v, e1, dp_mono af.s1 q⟩
      | bo d => obtain ⟨v, e1, q⟩ := q; exact ⟨v, e1, q.mono af.s1⟩
      | xc x => obtain ⟨a, C, dd, fs, x1, x2, x3, x4⟩ := q; exact ⟨a, C, dd, fs, x1, x2, x3, fs_mono af.s1 x4⟩
      | mu t k c =>
        obtain ⟨a, e1, ⟨q1, q2, o, q3, q4⟩, q5⟩ := q
        have na : a ∉ LS := fun hm => by
          obtain ⟨j, hj, q6, q7⟩ := le.mem hm
          refine rl.ap j i a ?_ q7 ⟨_, _, _, h⟩ q6 e1
          rintro rfl
          exact hi hj
        have hc : cut H LS a = some o := by rw [cut_ne na]; exact q3
        refine ⟨a, e1, ⟨?_, q2, o, af.s3 _ _ hc, cr_mono af.s1 q4⟩, q5⟩
        rw [af.s4 a (by rw [hc]; exact fun z => nomatch z)]
        exact q1
  · refine af.s4 a ?_
    rw [cut_ne (gn a h)]
    exact fun z => h (rl.gh.free z)
theorem fresh_aft {LS : List Addr} {p : Addr} {c : C} {e' : Env} {F' H' : Hp} (rl : Rel X.K L G F H σ e) (mus : ∀ i, isMu e' i → isMu e i) (ow : Own X.K (cut H LS) F' H' p c) (np : p ∉ LS) : ROk X.K G F' H' σ e' (.fresh c) (.ref p) := by
  obtain ⟨o1, o2, o3⟩ := ow
  rw [cut_ne np] at o2
  refine ⟨p, rfl, ⟨o1, rl.gh.free o2, o3⟩, fun i m e1 => ?_⟩
  obtain ⟨t, k, c', hi⟩ := mus i m
  obtain ⟨a, e2, ⟨_, _, o, q3, _⟩, _⟩ := rl.sl i _ hi
  rw [e1] at e2; cases e2
  rw [o2] at q3; cases q3
theorem putBack_mu {ls : List Nat} {LS : List Addr} {cs : List C} {e' : Env} (le : Lents σ e ls LS) (u : uniq ls = true) (pb : putBack ls cs e = some e') : ∀ i, isMu e' i → isMu e i := fun i ⟨t, k, c, h⟩ => by
  obtain ⟨p1, p2, p3, p4⟩ := putBack_get le u pb
  by_cases hi : i ∈ ls
  · obtain ⟨a, _, _, t', c', q⟩ := le.memI hi
    exact ⟨_, _, _, q⟩
  · rw [p3 i hi] at h
    exact ⟨t, k, c, h⟩
/-- what a call wants and gives -/
theorem call_sp {rs : List R} {vs : List V} {Q : VK} {o : Option (List Mo × (List D → FRes))} {ms : List Mo} {φ : List D → FRes} (rl : Rel X.K L G F H σ e) (h : RsOk X.K G F H σ e rs vs) (hf : o = some (ms, φ)) (a : After X W L G F σ (ROk X.K) Q (callO o rs e)) :
    FSp X.K X.mg ms φ vs H Q (fun cls dd H' => W cls dd σ H') := by
  subst hf
  unfold callO at a
  dsimp only at a
  cases he : escAll ms rs e with
  | none => rw [he] at a; exact a.elim
  | some z =>
    obtain ⟨qs, e2⟩ := z
    rw [he] at a
    dsimp only at a
    obtain ⟨F2, r2, st2, t2⟩ := escAll_at rl h he
    cases hr : readAll e2 ms qs with
    | none => rw [hr] at a; exact a.elim
    | some z =>
      obtain ⟨ds, ls⟩ := z
      rw [hr] at a
      dsimp only at a
      split at a
      · rename_i hc
        obtain ⟨ha, hu⟩ := hc
        have le := readAll_ls r2 t2 hr
        obtain ⟨ao, _, len⟩ := readAll_at (LS := lents ms vs) (ls₀ := ls) r2 (fun b hb => le.mem hb) (fun i hi => by
          obtain ⟨b, hb, q, _⟩ := le.memI hi
          exact ⟨b, hb, q⟩) t2 hr ha fun _ hi => hi
        refine ⟨len, F2, ds, r2.fh, le.nodup r2 hu, ao, ?_⟩
        cases hφ : φ ds with
        | bad => rw [hφ] at a; exact a.elim
        | ret d cs =>
          rw [hφ] at a
          dsimp only [behind] at a ⊢
          intro v F' H' af dp
          cases hp : putBack ls cs e2 with
          | none => rw [hp] at a; exact a.elim
          | some e3 =>
            rw [hp] at a
            obtain ⟨r3, st3⟩ := aft_state r2 le hu hp af
            exact a v F' H' r3 (st2.trans st3) dp
        | fresh c cs =>
          rw [hφ] at a
          dsimp only [behind] at a ⊢
          intro p F' H' af ow np
          cases hp : putBack ls cs e2 with
          | none => rw [hp] at a; exact a.elim
          | some e3 =>
            rw [hp] at a
            obtain ⟨r3, st3⟩ := aft_state r2 le hu hp af
            exact a (.ref p) F' H' r3 (st2.trans st3) (fresh_aft r2 (putBack_mu le hu hp) ow np)
        | exc x cs =>
          rw [hφ] at a
          dsimp only [behind] at a ⊢
          intro cls dd F' H' af xo
          cases hp : putBack ls cs e2 with
          | none => rw [hp] at a; exact a.elim
          | some e3 =>
            rw [hp] at a
            obtain ⟨r3, st3⟩ := aft_state r2 le hu hp af
            exact a cls dd F' H' r3 (st2.trans st3) xo
      · exact a.elim
end
section
variable {X : Cx} {W : WX} {pos p : Pos}
theorem run_g {pins : List (Addr × Obj)} {σ : L2.St} {H : Hp} {s : Shared} {Q : VK} {us : List Value} {vs : List V} {k : Nat} {f : Addr} {fd : FuncData} {ps : List Str} {sp : Sp} {ds : List Value} {dvs : List V} (Fn : FnG X.prog X.w X.K X.mg X.base k f fd ps (fun vs H Q E => ∃ vs0, vs = vs0 ++ dvs ∧ sp vs0 H Q E)) (hr : Room k X.A) (hg : X.A.guards = some []) (hb : Binds X.K fd ps ds) (hd : Vals dvs ds) (tk : L2.Takes X W)
    (I : Inv X pins σ H s) (r : Vals vs us) (h : sp vs H Q fun cls dd H' => W cls dd σ H') : wpAny (model X.prog X.w) X.A (call (.ref f) us) (EP X pins σ Q) X.xe s := by
  have hl : (us ++ ds).length = ps.length := by
    have := Fn.len (vs ++ dvs) H Q _ ⟨vs, rfl, h⟩
    rw [List.length_append, r.length, hd.length] at this
    rw [List.length_append]
    exact this
  have b := hb s us I.kIn hl
  refine wpAny_call (codeAny_mono (Fn.run X.A X.stack s H ⟨us, []⟩ (us ++ ds) (vs ++ dvs) Q _ hr hg I.env0 b (r.append hd) ⟨vs, rfl, h⟩) fun res s' hq => ?_)
  cases res with
  | error x => exact tk x s' (XE.of_call I (fun _ _ _ z => z) hq)
  | ok fl =>
    cases fl with
    | ret u => exact I.after hq
    | _ => exact False.elim hq
theorem backTo_any (l : List (Bool × Sem Value)) : (backTo pos l).any (·.1) = l.any (·.1) := by
  unfold backTo
  rw [List.any_map]
  rfl
theorem starEach_len : ∀ {es : List Expr} {cs : List Vc}, PVs X W es cs → (starEach es X.env).any (·.1) = false
  | _, _, .nil => rfl
  | _, _, .cons _ hs t => by
    rw [hs, List.any_cons, starEach_len t]
    rfl
theorem pv_cal {BN : List String} {GL : List (String × D)} {KB : List KbE} {Gf : Gm} {f : String} {es : List Expr} {cs : List Vc} (hcalm : X.calm = true) (ok : Ok X W BN GL KB Gf) (hg : Gl X (T f)) (hdb : (T f == ("__debug__" : Str)) = false) (h : PVs X W es cs) : PV X W (.Call (.Name (T f) p) es [] pos) (calC Gf f cs) := by
  refine ⟨fun pins s σ H Q I q => ?_⟩
  obtain ⟨L, G, F, e, r, a⟩ := q
  cases hf : Gf.fn f with
  | none =>
    unfold calC at a
    rw [hf] at a
    exact a.elim
  | some z =>
    obtain ⟨ms, φ⟩ := z
    obtain ⟨k, ad, hr, hm, hk, fd, ps, dds, dvs, hb, hdv, Fn⟩ := ok.fns hcalm f ms φ hf
    have a : After X W L G F σ (ROk X.K) Q ((vNs cs e).bind fun rs e1 => callD Gf f rs e1) := by
      unfold calC at a
      rw [hf] at a
      exact a
    refine wpAny_Call_Name_kw (ld_glob I hg hm ?_ hdb)
    cases h with
    | nil =>
      have a : After X W L G F σ (ROk X.K) Q (callD Gf f [] e) := a
      exact PySem.W.callWith_K0 I.kIn hk (run_g (us := []) Fn hr ok.gd hb hdv ok.tk I .nil (call_sp r .nil hf a))
    | cons h hs t =>
      have PAh := pa_ns (.cons h hs t)
      refine PySem.W.callWith_K (h₀ := X.base) I.ok.mod.kin hk (thn (PAh.run pos pins s σ H _ I ⟨L, G, F, e, r, After.bind (P1 := RsOk X.K) a⟩) fun us s1 z => ?_) hs (by rw [backTo_any]; exact starEach_len t)
      obtain ⟨vs, H1, I1, rv, F1, e1, rs, r1, st1, p1, a1⟩ := z
      exact ⟨I1.kIn, run_g Fn hr ok.gd hb hdv ok.tk I1 rv (call_sp r1 p1 hf a1)⟩
end
end Ev
set_option Elab.async false
set_option linter.all false
set_option maxHeartbeats 1000000
set_option maxRecDepth 100000
/-! Ev6t: enumerate over a tuple, by its number of turns. -/
namespace Ev
open PySem PySem.Spec PyProof.Rows L2
/-- what iter(..) lays is wrapped: enumerate(v) where v begins with o -/
theorem meets_enB {v : Value} {o : Obj} {H : Heap → Prop} (B : Begins v o H) :
    Meets (Builtin.«enumerate.__new__» ⟨[.type "enumerate", v], []⟩) (fun _ R s => H s.heap ∧
      R (.ok (.ret (.ref (s.heap.push o).objs.size)))
        { s with heap := (s.heap.push o).push { cls := .type "enumerate", data := .fields #[.none, .bool false, .ref s.heap.objs.size, rawInt 0, .none, .none] } }) :=
  .of_wp fun prog w A R s h => by
    obtain ⟨hp, g, d, tk, os⟩ := s
    obtain ⟨h1, h⟩ := h
    have hsub := sub_enumerate
    have q1 : ∀ {A' : Around} {E : Value → Shared → Prop} {Q : Value → Shared → Prop}, Q (.ref hp.objs.size) ⟨(hp.push o), g, d, tk, os⟩ → wpAny (model prog w) A' (pyIter v) Q E ⟨hp, g, d, tk, os⟩ :=
      fun q => B.iter prog w _ _ ⟨hp, g, d, tk, os⟩ _ h1 q
    wp_walk
    refine wpAny_stack_any fun st => wpAny_pure ?_
    split
    · rename_i c _ _ _ _ _
      cases (c == Value.type "enumerate")
      · wp_walk using q1
        exact ⟨_, rfl, h⟩
      · wp_walk using q1
        exact ⟨_, rfl, h⟩
    · wp_walk using q1
      exact ⟨_, rfl, h⟩
theorem call_enB {prog : Program} {w : World} {A : Around} {E : Value → Shared → Prop} {s : Shared} {v : Value} {o : Obj} {H : Heap → Prop} {Q : Value → Shared → Prop} (B : Begins v o H) (h1 : H s.heap)
    (h : ∀ h', IsEnum h' (s.heap.objs.size + 1) s.heap.objs.size 0 .none → h'.get? s.heap.objs.size = some o →
      (∀ b o, s.heap.get? b = some o → h'.get? b = some o) → Q (.ref (s.heap.objs.size + 1)) { s with heap := h' }) :
    wpAny (model prog w) A (call (.type "enumerate") [v]) Q E s := by
  refine callType_new F.called_enumerate (by decide) (F.typeCall_enumerate_1 _) (F.newCall_enumerate_1 _) (fun obj => F.args_object_init_2 obj _) F.entry_enumerate_new (meets_enB B) ⟨h1, ?_⟩
  have hz : (s.heap.push o).objs.size = s.heap.objs.size + 1 := Heap.size_push ..
  have he : ((s.heap.push o).push { cls := .type "enumerate", data := .fields #[.none, .bool false, .ref s.heap.objs.size, rawInt 0, .none, .none] }).get? (s.heap.objs.size + 1) = some { cls := .type "enumerate", data := .fields #[.none, .bool false, .ref s.heap.objs.size, rawInt 0, .none, .none] } := by
    rw [← hz]
    exact Heap.get?_push_size _ rfl
  show _ ∧ _
  rw [hz]
  exact ⟨⟨_, he, rfl⟩, h _ he (Heap.get?_push_of_some _ (Heap.get?_push_size _ B.free)) fun b o' y => Heap.get?_push_of_some _ (Heap.get?_push_of_some _ y)⟩
/-- the tuple at a, numbered -/
def IteT (K : PySem.W.Frag) (a : Addr) : It where
  go := fun i H => ∃ (xs : List V) (x : V), SqT K H a xs ∧ xs[i]? = some x
  yld := fun i H v H' => ∃ T x, v = .ref T ∧ H T = none ∧ H' = upd H T (.tup [.int (i : Nat), x]) ∧ ∀ xs, SqT K H a xs → xs[i]? = some x
  stop := fun i H => ∃ xs : List V, SqT K H a xs ∧ xs.length = i
theorem apart_it {h : Heap} {it a : Addr} {i : Nat} {its : Array Value} (h1 : h.IsTupleIter it a i) (h2 : h.IsTuple a its) : a ≠ it := by
  rintro rfl
  obtain ⟨o, e, c, _⟩ := h1
  obtain ⟨o2, e2, c2, _⟩ := h2
  rw [e] at e2
  cases e2
  rw [c] at c2
  exact absurd c2 (by decide)
theorem turn_enT {P : Program} {w : World} {K : PySem.W.Frag} {elts : List Expr} {kk : Nat} {tpos : Pos} (a e it : Addr) :
    Turn P w K (.Tuple elts kk tpos) (IteT K a) [e, it] e (fun i h => (∃ old, IsEnum h e it ((i : Nat) : Int) old) ∧ h.IsTupleIter it a i ∧ e ≠ it) where
  mem := by simp
  obj := fun i h st b hb => by
    obtain ⟨⟨old, he⟩, ⟨o, ho, hc, hd⟩, _⟩ := st
    rcases List.mem_cons.mp hb with z | z
    · rw [z]; exact ⟨_, he, fun v q => nomatch q⟩
    · rw [List.mem_singleton.mp z]; exact ⟨o, ho, fun v q => by rw [hd] at q; cases q⟩
  keep := fun i h h' st k => ⟨st.1.imp fun _ he => k e (by simp) _ he, st.2.1.at fun o q => k it (by simp) o q, st.2.2⟩
  item := by
    intro X hP hw hK hc i pins s σ H E I hf st hg
    subst hP hw hK
    obtain ⟨⟨old, he⟩, hit, hne⟩ := st
    obtain ⟨xs, x, hq, hx⟩ := hg
    obtain ⟨its, rv, p, _⟩ := I.tuple hq
    obtain ⟨u, hu, ru⟩ := rv.get hx
    have pT : s.heap.IsTuple a its.toArray := p
    have nb := apart_it hit pT
    have hel : e < s.heap.objs.size := Heap.lt_size he
    have hlt : ∀ b ∈ [e, it], b < s.heap.objs.size := fun b hb => by
      rcases List.mem_cons.mp hb with z | z
      · rw [z]; exact hel
      · rw [List.mem_singleton.mp z]; obtain ⟨_, q, _⟩ := hit; exact Heap.lt_size q
    have hea : e ≠ a := by
      rintro rfl
      obtain ⟨o2, e2, c2, _⟩ := pT
      rw [show s.heap.get? e = some _ from he] at e2
      cases e2
      exact absurd (show Value.type "enumerate" = Value.type "tuple" from c2) (by decide)
    have hil : i < its.toArray.size := by
      have := (List.getElem?_eq_some_iff.mp hu).1
      simpa using this
    refine wpAny_pyNext_enum_itemD (Draws.tuple (A := X.A.in1) (show X.A.in1.handled = none from I.ok.hd hc) it a nb its.toArray) he ⟨hit, pT⟩ hil hne (by simp [hne, hea]) fun y h' tk py ho st2 hT hsz hk => ?_
    have ey : y = u := by
      have e2 : its[i]? = some y := by simpa using py
      rw [hu] at e2
      exact (Option.some.inj e2).symm
    subst ey
    refine ⟨_, rfl, wpAny_letOwnedTupleGo_enum (s := { s with heap := h', toks := tk + 1 }) ho fun h'' he' sb => ?_⟩
    have hT2 : h''.get? s.heap.objs.size = some { cls := .type "tuple", data := .seq #[.int i tk, y] } := (sb.2 _ (Nat.ne_of_gt hel)).trans hT
    have new : ObjOk X.prog X.w (upd H s.heap.objs.size (.tup [.int (i : Nat), x])) h'' s.heap.objs.size (.tup [.int (i : Nat), x]) :=
      ⟨by show 2 ≤ sizeLine; decide, [.int i tk, y], .cons ⟨_, rfl⟩ (.cons ru .nil), ⟨_, hT2, rfl, _, rfl⟩⟩
    have I1 : Inv X pins σ (upd H s.heap.objs.size (.tup [.int (i : Nat), x])) { s with heap := h'', toks := tk + 1 } :=
      I.turnedNew (ch := [e, it]) (fun b ob hb q => (sb.2 b (fun z => hb (by simp [z]))).trans (hk b ob (fun z => hb (by simp [z])) (fun z => hb (by simp [z])) q)) hf (Nat.le_refl _) new
    refine ⟨.ref s.heap.objs.size, _, I1, rfl, ⟨_, x, rfl, I.hok.fresh (Nat.le_refl _), rfl, fun l hl => by rw [I.tuple_inj hl hq]; exact hx⟩, ⟨⟨y, ?_⟩, st2.1.at fun o q => (sb.2 it (Ne.symm hne)).trans q, hne⟩, fun b hb => ?_⟩
    · rw [show ((i + 1 : Nat) : Int) = (i : Int) + 1 by omega]
      exact he'
    · rw [upd_ne (Nat.ne_of_lt (hlt b hb))]
      exact (hf b hb).1
  done := by
    intro X hP hw hK hc i pins s σ H E I hf st hg
    subst hP hw hK
    obtain ⟨⟨old, he⟩, hit, hne⟩ := st
    obtain ⟨xs, hq, hx⟩ := hg
    obtain ⟨its, rv, p, _⟩ := I.tuple hq
    have pT : s.heap.IsTuple a its.toArray := p
    obtain ⟨f0, f1, f2, f3, f4, f5⟩ := hf it (by simp)
    have hl := rv.length
    have es : i = its.toArray.size := by rw [← hx, hl]; simp
    subst es
    exact wpAny_pyNext_enum_endD (Draws.tuple (A := X.A.in1) (show X.A.in1.handled = none from I.ok.hd hc) it a (apart_it hit pT) its.toArray) he ⟨hit, pT⟩ fun h' eb => ⟨rfl, I.turned (t' := s.toks) (fun b o hb q => eb b o hb q) f0 f1 f3 f4 f5⟩
  self := fun A i s Q E st h => let ⟨⟨_, he⟩, _⟩ := st; wpAny_pyIter_enum he h
def iEnumA (K : PySem.W.Frag) (ta : TA) : TI := fun σ H R => ta σ H fun vs H1 => ∃ a xs, vs = [.ref a] ∧ ((SqL K H1 a xs ∧ R (Ite K a) H1) ∨ (SqT K H1 a xs ∧ R (IteT K a) H1))
/-- enumerate(e), a list or a tuple -/
theorem pi_enumA {X : Cx} {e : Expr} {ta : TA} {p pos tpos : Pos} {elts : List Expr} {kk : Nat} (hg : Gl X "enumerate") (hm : X.mg "enumerate" = none) (ha : PA X [e] ta) (hs : starEach [e] X.env = [(false, eval e X.env)] := by rfl) :
    PI X (.Tuple elts kk tpos) (.Call (.Name "enumerate" p) [e] [] pos) (iEnumA X.K ta) := by
  refine ⟨fun pins s σ H R I h => Call_ (ld_blt I hg hm boot_enumerate (PyProof.Rows.callWith_type1 (thn (ha.run pos pins s σ H _ I h) fun us s1 w => ?_) hs rfl))⟩
  obtain ⟨vs, H1, I1, r1, a, xs, ex, q⟩ := w
  subst ex
  cases r1 with
  | cons r rr =>
    cases rr
    cases r
    have fp : ∀ b ∈ [s1.heap.objs.size + 1, s1.heap.objs.size], FpOk X pins H1 b := fun b hb => by
      have hle : s1.heap.objs.size ≤ b := by
        rcases List.mem_cons.mp hb with z | z
        · rw [z]; exact Nat.le_add_right _ _
        · rw [List.mem_singleton.mp z]; exact Nat.le_refl _
      exact I1.fpOk hle (I1.hok.fresh hle)
    rcases q with ⟨hq, q⟩ | ⟨hq, q⟩
    · obtain ⟨its, rv, p', _⟩ := I1.list hq
      exact call_enB (begins_list a its.toArray) p'.isList fun h' he ho hk => wpAny_pyIter_enum he
        ⟨_, [s1.heap.objs.size + 1, s1.heap.objs.size], _, _, H1, rfl, I1.kept (t' := s1.toks) hk, turn_enum a (s1.heap.objs.size + 1) s1.heap.objs.size, ⟨⟨.none, he⟩, ⟨_, ho, rfl, rfl⟩, Nat.succ_ne_self _⟩, fp, q⟩
    · obtain ⟨its, rv, p', _⟩ := I1.tuple hq
      exact call_enB (begins_tuple a its.toArray) (show s1.heap.IsTuple a its.toArray from p') fun h' he ho hk => wpAny_pyIter_enum he
        ⟨_, [s1.heap.objs.size + 1, s1.heap.objs.size], _, _, H1, rfl, I1.kept (t' := s1.toks) hk, turn_enT a (s1.heap.objs.size + 1) s1.heap.objs.size, ⟨⟨.none, he⟩, ⟨_, ho, rfl, rfl⟩, Nat.succ_ne_self _⟩, fp, q⟩
end Ev
set_option Elab.async false
set_option linter.all false
set_option maxHeartbeats 1000000
/-! Ev7: the rest of the expressions; what is walked. -/
namespace Ev
open PySem PySem.Spec PyProof.Rows L2
section
variable {X : Cx} {W : WX} {ea eb ec : Expr} {ca cb cc : Vc} {ta tb : Env → Res Bool} {pos p p2 : Pos} {rest : List Expr}
/-! ### and, or, if -/
theorem bol_v {K : PySem.W.Frag} {F H : Hp} {x : V} {d : D} {k : Bool} (h : Ar K F H x d) (hk : bolD d = some k) : x = .bl k := by
  cases d <;> simp only [bolD, reduceCtorEq] at hk
  cases hk
  exact ar_bool h
theorem pv_one {op : BoolOp} (h : PV X W ea ca) : PV X W (.BoolOp op [ea] pos) ca := pe_one h
theorem pv_and (ha : PV X W ea ca) (hb : PV X W (.BoolOp .And (eb :: rest) pos) cb) : PV X W (.BoolOp .And (ea :: eb :: rest) pos) (andC ca cb) :=
  pe_imp (pe_and (pv_d ha) hb) fun σ H Q q => by
    obtain ⟨L, G, F, e, r, a⟩ := q
    refine ⟨L, G, F, e, r, (After.bind (P1 := AOk X.K) a).mono fun x H1 z => ?_⟩
    obtain ⟨F1, e1, d, r1, st1, p1, a1⟩ := z
    obtain ⟨k, hk, a2⟩ := a1.ofO
    refine ⟨k, bol_v p1 hk, ?_⟩
    cases k with
    | true =>
      rw [if_pos rfl] at a2 ⊢
      exact ⟨L, G, F1, e1, r1, a2⟩
    | false =>
      rw [if_neg Bool.false_ne_true] at a2 ⊢
      exact a2 (.bl false) F1 H1 r1 (Step.refl G F1) (.bl false)
theorem pv_or (ha : PV X W ea ca) (hb : PV X W (.BoolOp .Or (eb :: rest) pos) cb) : PV X W (.BoolOp .Or (ea :: eb :: rest) pos) (orC ca cb) :=
  pe_imp (pe_or (pv_d ha) hb) fun σ H Q q => by
    obtain ⟨L, G, F, e, r, a⟩ := q
    refine ⟨L, G, F, e, r, (After.bind (P1 := AOk X.K) a).mono fun x H1 z => ?_⟩
    obtain ⟨F1, e1, d, r1, st1, p1, a1⟩ := z
    obtain ⟨k, hk, a2⟩ := a1.ofO
    refine ⟨k, bol_v p1 hk, ?_⟩
    cases k with
    | true =>
      rw [if_pos rfl] at a2 ⊢
      exact a2 (.bl true) F1 H1 r1 (Step.refl G F1) (.bl true)
    | false =>
      rw [if_neg Bool.false_ne_true] at a2 ⊢
      exact ⟨L, G, F1, e1, r1, a2⟩
abbrev PBW (X : Cx) (W : WX) (e : Expr) (t : Env → Res Bool) : Prop := PW X e (Tr X W t BOk)
theorem pw_a1 (h : PB X W ea ta) : PBW X W (.BoolOp .And [ea] pos) ta := pw_and1 h
theorem pw_o1 (h : PB X W ea ta) : PBW X W (.BoolOp .Or [ea] pos) ta := pw_or1 h
theorem pbw_and (ha : PB X W ea ta) (hb : PBW X W (.BoolOp .And (eb :: rest) pos) tb) : PBW X W (.BoolOp .And (ea :: eb :: rest) pos) (andT ta tb) :=
  pw_imp (L2.pw_and ha hb) fun σ H Q q => by
    obtain ⟨L, G, F, e, r, a⟩ := q
    refine ⟨L, G, F, e, r, (After.bind (P1 := BOk) a).mono fun x H1 z => ?_⟩
    obtain ⟨F1, e1, k, r1, st1, p1, a1⟩ := z
    cases p1
    cases x with
    | true =>
      dsimp only at a1
      rw [if_pos rfl] at a1 ⊢
      exact ⟨L, G, F1, e1, r1, a1⟩
    | false =>
      dsimp only at a1
      rw [if_neg Bool.false_ne_true] at a1 ⊢
      exact a1 false F1 H1 r1 (Step.refl G F1) rfl
theorem pbw_or (ha : PB X W ea ta) (hb : PBW X W (.BoolOp .Or (eb :: rest) pos) tb) : PBW X W (.BoolOp .Or (ea :: eb :: rest) pos) (orT ta tb) :=
  pw_imp (L2.pw_or ha hb) fun σ H Q q => by
    obtain ⟨L, G, F, e, r, a⟩ := q
    refine ⟨L, G, F, e, r, (After.bind (P1 := BOk) a).mono fun x H1 z => ?_⟩
    obtain ⟨F1, e1, k, r1, st1, p1, a1⟩ := z
    cases p1
    cases x with
    | true =>
      dsimp only at a1
      rw [if_pos rfl] at a1 ⊢
      exact a1 true F1 H1 r1 (Step.refl G F1) rfl
    | false =>
      dsimp only at a1
      rw [if_neg Bool.false_ne_true] at a1 ⊢
      exact ⟨L, G, F1, e1, r1, a1⟩
theorem pv_ite (hc : PB X W ec ta) (ha : PV X W ea ca) (hb : PV X W eb cb) : PV X W (.IfExp ec ea eb pos) (iteC ta ca cb) :=
  pe_imp (pe_ifExp hc ha hb) fun σ H Q q => by
    obtain ⟨L, G, F, e, r, a⟩ := q
    refine ⟨L, G, F, e, r, (After.bind (P1 := BOk) a).mono fun x H1 z => ?_⟩
    obtain ⟨F1, e1, k, r1, st1, p1, a1⟩ := z
    cases p1
    cases x with
    | true =>
      dsimp only at a1
      rw [if_pos rfl] at a1 ⊢
      exact ⟨L, G, F1, e1, r1, a1⟩
    | false =>
      dsimp only at a1
      rw [if_neg Bool.false_ne_true] at a1 ⊢
      exact ⟨L, G, F1, e1, r1, a1⟩
/-! ### places, slices, minus -/
def rIxD (X : Cx) : R2 := fun x y H Q => ∃ F d d' z, Same F H ∧ Ar X.K F H x d ∧ Ar X.K F H y d' ∧ iop d d' = some z ∧ ∀ w, Dp X.K F w z → Q w H
theorem ixr_of : IxR X (rIxD X) := fun value slice pins s σ H x y v u Q I rx ry q hs => by
  obtain ⟨F, d, d', z, fh, h1, h2, h3, h4⟩ := q
  exact ix_ok value slice I fh rx ry h1 h2 h3 h4 hs
theorem pv_idx (ha : PV X W ea ca) (hb : PV X W eb cb) (hs : PlainIx eb) : PV X W (.Subscript ea eb pos) (idxC ca cb) :=
  pe_imp (pe_ix ixr_of (pv_n ha) (pv_n hb) hs) fun σ H Q q => two_tr (P := ROk X.K) (Q := Q) (fun L G F H e x y d d' r hx hy a => by
    obtain ⟨z, hz, a1⟩ := a.ofO
    exact ⟨F, d, d', z, r.fh, hx, hy, hz, fun w hw => a1 w F H r (Step.refl G F) hw⟩) q
theorem pv_neg (ha : PV X W ea ca) : PV X W (.UnaryOp .USub ea pos) (negC ca) :=
  pe_imp (pe_un un_neg (pv_d ha)) fun σ H Q q => by
    obtain ⟨L, G, F, e, r, a⟩ := q
    refine ⟨L, G, F, e, r, (After.bind (P1 := AOk X.K) a).mono fun x H1 z => ?_⟩
    obtain ⟨F1, e1, d, r1, st1, p1, a1⟩ := z
    cases d <;> first | exact a1.elim | skip
    rename_i i
    exact ⟨i, ar_int p1, a1 (.int (-i)) F1 H1 r1 (Step.refl G F1) (.int _)⟩
/-- a part of a slice -/
inductive POs (X : Cx) (W : WX) : Option Expr → Option Vc → Prop where
  | none : POs X W none none
  | some {e : Expr} {c : Vc} : PV X W e c → POs X W (some e) (some c)
def OOk : Rl (Option Int) (Option Int) := fun _ _ _ _ _ a b => a = b
theorem po_of {lo : Option Expr} {c : Option Vc} (h : POs X W lo c) : PO X lo (Tr X W (optC c) OOk) := by
  cases h with
  | none =>
    refine ⟨fun pins s σ H Q I q => po_none.run pins s σ H Q I ?_⟩
    obtain ⟨L, G, F, e, r, a⟩ := q
    exact a none F H r (Step.refl G F) rfl
  | some h =>
    refine ⟨fun pins s σ H Q I q => (po_some (pv_d h)).run pins s σ H Q I ?_⟩
    obtain ⟨L, G, F, e, r, a⟩ := q
    refine ⟨L, G, F, e, r, (After.bind (P1 := AOk X.K) a).mono fun x H1 z => ?_⟩
    obtain ⟨F1, e1, d, r1, st1, p1, a1⟩ := z
    obtain ⟨i, hi, a2⟩ := a1.ofO
    refine ⟨i, ?_, a2 (some i) F1 H1 r1 (Step.refl G F1) rfl⟩
    cases d <;> simp only [intD, reduceCtorEq] at hi
    cases hi
    exact ar_int p1
def rSlD (X : Cx) : V → Option Int → Option Int → Hp → VK → Prop := fun x lo hi H Q => ∃ F d z, Same F H ∧ Ar X.K F H x d ∧ sop d lo hi = some z ∧ ∀ nv, NVOk X.K F nv z → NVQ nv H Q
theorem slr_of : SlR X (rSlD X) := fun pins s σ H x v vl vu lo hi sl Q I rx hs pl pu q => by
  obtain ⟨F, d, z, fh, h1, h2, h3⟩ := q
  exact sl_ok I fh rx h1 hs pl pu h2 h3
theorem pv_sli {lo hi : Option Expr} {cl ch : Option Vc} (ha : PV X W ea ca) (hl : POs X W lo cl) (hh : POs X W hi ch) : PV X W (.Subscript ea (.Slice lo hi none p2) pos) (sliC ca cl ch) :=
  pe_imp (pe_slice slr_of (pv_n ha) (po_of hl) (po_of hh)) fun σ H Q q => by
    obtain ⟨L, G, F, e, r, a⟩ := q
    refine ⟨L, G, F, e, r, (After.bind (P1 := RNk X.K) a).mono fun x H1 z => ?_⟩
    obtain ⟨F1, e1, rr, r1, st1, p1, a1⟩ := z
    refine ⟨L, G, F1, e1, r1, (After.bind (P1 := OOk) a1).mono fun lo' H2 z => ?_⟩
    obtain ⟨F2, e2, o, r2, st2, p2, a2⟩ := z
    cases p2
    refine ⟨L, G, F2, e2, r2, (After.bind (P1 := OOk) a2).mono fun hi' H3 z => ?_⟩
    obtain ⟨F3, e3, o', r3, st3, p3, a3⟩ := z
    cases p3
    obtain ⟨d, hd, a4⟩ := a3.ofO
    obtain ⟨w, hw, a5⟩ := a4.ofO'
    exact ⟨F3, d, w, r3.fh, rd_ok r3 (p1.later (st2.s.trans st3.s)).1 hd, hw, fun nv hnv => nv_state r3 hnv fun v F' H' r' st p => a5 v F' H' r' st p⟩
/-! ### built-ins -/
theorem ars_of {L : Fr} {G F H : Hp} {σ : L2.St} {e : Env} (rl : Rel X.K L G F H σ e) : ∀ {rs : List R} {vs : List V} {ds : List D}, RsOk X.K G F H σ e rs vs → rdAll e rs = some ds → Ars X.K F H vs ds
  | [], _, _, .nil, q => by cases q; exact .nil
  | r :: rs, _, ds, .cons h t, q => by
    unfold rdAll at q
    cases hd : rd e r with
    | none => rw [hd] at q; cases q
    | some d =>
      rw [hd] at q
      simp only [Option.bind_some] at q
      cases hr : rdAll e rs with
      | none => rw [hr] at q; cases q
      | some ds' =>
        rw [hr] at q
        cases q
        exact .cons (rd_ok rl h.1 hd) (ars_of rl t hr)
def rBiD (X : Cx) (f : Bi) : List V → Hp → VK → Prop := fun xs H Q => ∃ F ds z, Same F H ∧ Ars X.K F H xs ds ∧ bi f ds = some z ∧ ∀ nv, NVOk X.K F nv z → NVQ nv H Q
theorem callr_of {f : Bi} (h : BiD X f) : CallR X (nameOf f) (rBiD X f) := fun pins s σ H xs us Q I rs q => by
  obtain ⟨F, ds, z, fh, h1, h2, h3⟩ := q
  exact h pins s σ H F xs ds z us Q I fh rs h1 h2 h3
theorem bif_tr {f : Bi} {cs : List Vc} {σ : L2.St} {H : Hp} {Q : VK} (q : Tr X W (bifC f cs) (ROk X.K) σ H Q) : tCB (rBiD X f) (Tr X W (vNs cs) (RsOk X.K)) σ H Q := by
  obtain ⟨L, G, F, e, r, a⟩ := q
  refine ⟨L, G, F, e, r, (After.bind (P1 := RsOk X.K) a).mono fun vs H1 z => ?_⟩
  obtain ⟨F1, e1, rs, r1, st1, p1, a1⟩ := z
  obtain ⟨ds, hd, a2⟩ := a1.ofO
  obtain ⟨w, hw, a3⟩ := a2.ofO'
  exact ⟨F1, ds, w, r1.fh, ars_of r1 p1 hd, hw, fun nv hnv => nv_state r1 hnv fun v F' H' r' st p => a3 v F' H' r' st p⟩
theorem pv_biB {f : Bi} {id : String} {x : Str} {es : List Expr} {cs : List Vc} (hf : nameOf f = .builtin id) (hb : BiD X f) (hg : Gl X x) (hm : X.mg x = none) (hv : bootBuiltins x = some (.builtin id)) (h : PVs X W es cs) (hne : es ≠ []) (hn : x ≠ "__name__") (hdb : (x == ("__debug__" : Str)) = false) :
    PV X W (.Call (.Name x p) es [] pos) (bifC f cs) := by
  cases h with
  | nil => exact absurd rfl hne
  | cons h hs t => exact pe_imp (pe_callB (hf ▸ callr_of hb) hg hm hv (pa_ns (.cons h hs t)) hn hdb hs (by rw [backTo_any]; exact starEach_len t)) fun σ H Q q => bif_tr q
theorem pv_biT {f : Bi} {id : String} {x : Str} {es : List Expr} {cs : List Vc} (hf : nameOf f = .type id) (hb : BiD X f) (hg : Gl X x) (hm : X.mg x = none) (hv : bootBuiltins x = some (.type id)) (h : PVs X W es cs) (hne : es ≠ []) (hn : x ≠ "__name__") (hdb : (x == ("__debug__" : Str)) = false) :
    PV X W (.Call (.Name x p) es [] pos) (bifC f cs) := by
  cases h with
  | nil => exact absurd rfl hne
  | cons h hs t => exact pe_imp (pe_callTy (hf ▸ callr_of hb) hg hm hv (pa_ns (.cons h hs t)) hn hdb hs (by rw [backTo_any]; exact starEach_len t)) fun σ H Q q => bif_tr q
theorem pv_isi {ty : String} {x : Str} (hg : Gl X "isinstance") (hm : X.mg "isinstance" = none) (hgt : Gl X x) (hmt : X.mg x = none) (hvt : bootBuiltins x = some (.type ty)) (hnt : x ≠ "__name__") (hdt : (x == ("__debug__" : Str)) = false) (h : PV X W ea ca)
    (hs : starEach [ea, .Name x p2] X.env = (false, eval ea X.env) :: starEach [.Name x p2] X.env) : PV X W (.Call (.Name "isinstance" p) [ea, .Name x p2] [] pos) (isiC ca ty) := by
  have hT : PE X (.Name x p2) (tC (.ty ty)) := pe_bltn hgt hmt hvt rfl hnt hdt
  refine pe_imp (pe_callB call_isi hg hm boot_isinstance (pa_cons (pv_d h) (pa_cons hT pa_nil rfl) hs) (by decide) (by decide) hs rfl) fun σ H Q q => ?_
  obtain ⟨L, G, F, e, r, a⟩ := q
  refine ⟨L, G, F, e, r, (After.bind (P1 := AOk X.K) a).mono fun x H1 z => ?_⟩
  obtain ⟨F1, e1, d, r1, st1, p1, a1⟩ := z
  obtain ⟨k, hk, a2⟩ := a1.ofO
  obtain ⟨t, ht, hkit⟩ := isK_ty r1.fh p1 hk
  exact ⟨x, .ty ty, t, .type ty, k, rfl, by exact .ty ty, ht, hkit, a2 (.bl k) F1 H1 r1 (Step.refl G F1) (.bl k)⟩
/-! ### what is walked -/
variable {tg ei : Expr} {ci : Vc}
/-- an iterator walks the source -/
def SrcR (X : Cx) : Rl Src It := fun G F H σ e s J => match s with
  | .vals ds => ∀ (L' : Fr) (G' F' H' : Hp) (σ' : L2.St) (e' : Env), Same F F' → Rel X.K L' G' F' H' σ' e' → Same G G' → (∀ k, k < ds.length → J.go k H') ∧ J.stop ds.length H' ∧
      ∀ k x H3, J.yld k H' x H3 → ∀ d, ds[k]? = some d → ∃ F3, Rel X.K L' G' F3 H3 σ' e' ∧ Step G' F' F3 ∧ Dp X.K F3 x d
  | .slot i en => ∃ a, sg σ i = some (.ref a) ∧ ∀ (L' : Fr) (G' F' H' : Hp) (σ' : L2.St) (e' : Env) (k : Nat), L'.l i = some a → Rel X.K L' G' F' H' σ' e' → ∀ o, itemAt i en k e' = some o → match o with
      | none => J.stop k H'
      | some d => J.go k H' ∧ ∀ x H3, J.yld k H' x H3 → ∃ F3, Rel X.K L' G' F3 H3 σ' e' ∧ Step G' F' F3 ∧ Dp X.K F3 x d
abbrev PIs (X : Cx) (W : WX) (tg e : Expr) (w : Env → Res Src) : Prop := PI X tg e (Tr X W w (SrcR X))
theorem pi_imp {t t' : TI} (h : PI X tg ei t) (k : ∀ σ H Q, t' σ H Q → t σ H Q) : PI X tg ei t' := ⟨fun pins s σ H Q I q => h.run pins s σ H Q I (k σ H Q q)⟩
theorem SqT.mono {K : PySem.W.Frag} {F F' : Hp} {a : Addr} {xs : List V} (s : Same F F') (h : SqT K F a xs) : SqT K F' a xs := by
  rcases h with (h | ⟨o, h⟩) | h
  · exact .inl (.inl (s _ _ h))
  · exact .inl (.inr ⟨o, s _ _ h⟩)
  · exact .inr h
/-- a list that stands still, walked -/
theorem src_list {L : Fr} {G F H : Hp} {σ : L2.St} {e : Env} {a : Addr} {xs : List V} {ds : List D} (h : ∀ (L' : Fr) (G' F' H' : Hp) (σ' : L2.St) (e' : Env), Same F F' → Rel X.K L' G' F' H' σ' e' → Same G G' → SqL X.K H' a xs) (hd : DpAll X.K F xs ds) : SrcR X G F H σ e (.vals ds) (Itl X.K a) := by
  intro L' G' F' H' σ' e' st r sg'
  have q := h L' G' F' H' σ' e' st r sg'
  have hl := dps_len hd
  refine ⟨fun k hk => ⟨xs, xs[k]'(by omega), q, by simp [show k < xs.length by omega]⟩, ⟨xs, q, by omega⟩, fun k x H3 y d hdk => ?_⟩
  obtain ⟨rfl, y⟩ := y
  obtain ⟨v, h1, h2⟩ := dps_get hd hdk
  have e1 := y xs q
  rw [h1] at e1
  cases e1
  exact ⟨F', r, Step.refl G' F', dp_mono st h2⟩
theorem src_tup {G F H : Hp} {σ : L2.St} {e : Env} {a : Addr} {xs : List V} {ds : List D} (h : SqT X.K F a xs) (hd : DpAll X.K F xs ds) : SrcR X G F H σ e (.vals ds) (Itt X.K a) := by
  intro L' G' F' H' σ' e' st r sg'
  have q := SqT.mono (st.trans r.fh) h
  have hl := dps_len hd
  refine ⟨fun k hk => ⟨xs, xs[k]'(by omega), q, by simp [show k < xs.length by omega]⟩, ⟨xs, q, by omega⟩, fun k x H3 y d hdk => ?_⟩
  obtain ⟨rfl, y⟩ := y
  obtain ⟨v, h1, h2⟩ := dps_get hd hdk
  have e1 := y xs q
  rw [h1] at e1
  cases e1
  exact ⟨F', r, Step.refl G' F', dp_mono st h2⟩
theorem src_str {G F H : Hp} {σ : L2.St} {e : Env} {z : Str} : SrcR X G F H σ e (.vals (z.cps.toList.map fun c => PyData.str ⟨#[c]⟩)) (Its z) := by
  intro L' G' F' H' σ' e' st r sg'
  refine ⟨fun k hk => by simpa [Its] using hk, by simp [Its], fun k x H3 y d hdk => ?_⟩
  obtain ⟨rfl, c, hc, rfl⟩ := y
  refine ⟨F', r, Step.refl G' F', ?_⟩
  rw [List.getElem?_map, Array.getElem?_toList, hc] at hdk
  cases hdk
  exact .str _
theorem src_range {G F H : Hp} {σ : L2.St} {e : Env} {lo : Int} {n : Nat} : SrcR X G F H σ e (.vals (rngD lo n)) (Itr lo n) := by
  intro L' G' F' H' σ' e' st r sg'
  have hl : (rngD lo n).length = n := by simp [rngD]
  refine ⟨fun k hk => by rw [hl] at hk; exact hk, by rw [hl]; exact Nat.le_refl n, fun k x H3 y d hdk => ?_⟩
  obtain ⟨rfl, rfl⟩ := y
  refine ⟨F', r, Step.refl G' F', ?_⟩
  unfold rngD at hdk
  rw [List.getElem?_map] at hdk
  cases hk : (List.range n)[k]? with
  | none => rw [hk] at hdk; cases hdk
  | some j =>
    rw [hk] at hdk
    cases hdk
    obtain ⟨h1, h2⟩ := List.getElem?_eq_some_iff.mp hk
    rw [List.getElem_range] at h2
    subst h2
    exact .int _
/-- the list that a slot holds, walked -/
theorem src_slot {L : Fr} {G F H : Hp} {σ : L2.St} {e : Env} {i : Nat} {a : Addr} (h : sg σ i = some (.ref a)) : SrcR X G F H σ e (.slot i false) (Itl X.K a) := by
  refine ⟨a, h, fun L' G' F' H' σ' e' k hL r o ho => ?_⟩
  unfold itemAt at ho
  split at ho
  · rename_i t ds he
    cases ho
    obtain ⟨b, e1, ⟨q1, q2, ob, q3, q4⟩, q5⟩ := r.sl i _ he
    have eb : b = a := by
      have := q5 (.inr rfl)
      rw [hL] at this
      exact (Option.some.inj this).symm
    subst eb
    cases ob <;> first | exact (show False from q4).elim | skip
    rename_i xs
    have hq : SqL X.K H' b xs := SqL.of q3
    have hl := dps_len (show DpAll X.K F' xs ds from q4)
    rw [if_neg Bool.false_ne_true]
    cases hd : ds[k]? with
    | none =>
      have : ds.length ≤ k := List.getElem?_eq_none_iff.mp hd
      exact ⟨xs, hq, by omega⟩
    | some d =>
      obtain ⟨v, h1, h2⟩ := dps_get (show DpAll X.K F' xs ds from q4) hd
      refine ⟨⟨xs, v, hq, h1⟩, fun x H3 y => ?_⟩
      obtain ⟨rfl, y⟩ := y
      have e2 := y xs hq
      rw [h1] at e2
      cases e2
      exact ⟨F', r, Step.refl G' F', h2⟩
  · cases ho
/-- any value -/
theorem pi_val (h : PV X W ei ci) : PIs X W tg ei (wOf ci) := by
  refine ⟨fun pins s σ H R I q => ?_⟩
  obtain ⟨L, G, F, e, r, a⟩ := q
  have a : After X W L G F σ (SrcR X) R ((vN ci e).bind fun r e1 => srcOf false e1 r) := a
  cases hv : vN ci e with
  | bad => rw [hv] at a; exact a.elim
  | exc x e2 =>
    rw [hv] at a
    exact (pi_list (pv_n h)).run pins s σ H R I ⟨L, G, F, e, r, by rw [hv]; exact a⟩
  | ok rr e1 =>
    rw [hv, bind_ok] at a
    cases rr with
    | fresh c => exact a.elim
    | val d =>
      dsimp only [srcOf] at a
      rw [if_neg (by simp)] at a
      obtain ⟨ds, hds, a1⟩ := a.ofO
      cases d <;> simp only [itemsD, reduceCtorEq, Option.some.injEq] at hds
      · rename_i z
        subst hds
        refine (pi_str (pv_n h)).run pins s σ H R I ⟨L, G, F, e, r, ?_⟩
        rw [hv]
        intro v F' H' r' st p
        have p1 : Dp X.K F' v (.str z) := p.1
        cases p1
        exact ⟨z, rfl, a1 (Its z) F' H' r' st src_str⟩
      · subst hds
        refine (pi_list (pv_n h)).run pins s σ H R I ⟨L, G, F, e, r, ?_⟩
        rw [hv]
        intro v F' H' r' st p
        cases (show Dp X.K F' v _ from p.1) with
        | lst h1 h2 => exact ⟨_, rfl, ⟨_, r'.fh.seq h1⟩, a1 _ F' H' r' st (src_list (L := L) (fun L2 G2 F2 H2 σ2 e2 st2 r2 _ => (st2.trans r2.fh).seq h1) h2)⟩
      · subst hds
        refine (pi_tup (pv_n h)).run pins s σ H R I ⟨L, G, F, e, r, ?_⟩
        rw [hv]
        intro v F' H' r' st p
        cases (show Dp X.K F' v _ from p.1) with
        | tup h1 h2 => exact ⟨_, rfl, ⟨_, SqT.mono r'.fh h1⟩, a1 _ F' H' r' st (src_tup h1 h2)⟩
    | slot i =>
      refine (pi_list (pv_n h)).run pins s σ H R I ⟨L, G, F, e, r, ?_⟩
      rw [hv]
      intro v F' H' r' st p
      have hi : sg σ i = some v := p.1
      dsimp only [srcOf] at a
      split at a
      · rename_i ds he
        rw [if_neg Bool.false_ne_true] at a
        obtain ⟨w, e1', br⟩ := r'.sl i _ he
        rw [hi] at e1'; cases e1'
        rcases br with br | ⟨b, xs, ds', rfl, ed, b1, b2⟩
        · cases br with
          | lst h1 h2 => exact ⟨_, rfl, ⟨_, r'.fh.seq h1⟩, a _ F' H' r' st (src_list (L := L) (fun L2 G2 F2 H2 σ2 e2 st2 r2 _ => (st2.trans r2.fh).seq h1) h2)⟩
        · cases ed
          refine ⟨b, rfl, ⟨xs, (r'.bg.trans r'.gh).seq b1⟩, a _ F' H' r' st (src_list (L := L) (fun L2 G2 F2 H2 σ2 e2 st2 r2 gg => ?_) b2)⟩
          exact ((r'.bg.trans gg).trans r2.gh).seq b1
      · rename_i t k ds he
        obtain ⟨b, e1', ⟨q1, q2, o, q3, q4⟩, q5⟩ := r'.sl i _ he
        rw [hi] at e1'; cases e1'
        cases o <;> first | exact (show False from q4).elim | skip
        exact ⟨b, rfl, ⟨_, SqL.of q3⟩, a _ F' H' r' st (src_slot (L := L) hi)⟩
      · exact a.elim
/-! ### numbered, in pairs, numbers -/
theorem pair_step {L' : Fr} {G' F' H' : Hp} {σ' : L2.St} {e' : Env} {T : Addr} {x y : V} {d d' : D} (r : Rel X.K L' G' F' H' σ' e') (hT : H' T = none) (hx : Dp X.K F' x d) (hy : Dp X.K F' y d') :
    ∃ F3, Rel X.K L' G' F3 (upd H' T (.tup [x, y])) σ' e' ∧ Step G' F' F3 ∧ Dp X.K F3 (.ref T) (.tuple [d, d']) := by
  obtain ⟨r2, st2⟩ := r.lay (o := .tup [x, y]) hT
  exact ⟨_, r2, st2, .tup (SqT.of upd_same) (.cons (dp_mono st2.s hx) (.cons (dp_mono st2.s hy) .nil))⟩
theorem src_enum {G F H : Hp} {σ : L2.St} {e : Env} {a : Addr} {xs : List V} {ds : List D} (h : ∀ (L' : Fr) (G' F' H' : Hp) (σ' : L2.St) (e' : Env), Same F F' → Rel X.K L' G' F' H' σ' e' → Same G G' → SqL X.K H' a xs) (hd : DpAll X.K F xs ds) : SrcR X G F H σ e (.vals (enumD ds)) (Ite X.K a) := by
  intro L' G' F' H' σ' e' st r sg'
  have q := h L' G' F' H' σ' e' st r sg'
  have hl := dps_len hd
  have he : (enumD ds).length = ds.length := by simp [enumD]
  refine ⟨fun k hk => ⟨xs, xs[k]'(by omega), q, by simp [show k < xs.length by omega]⟩, ⟨xs, q, by omega⟩, fun k x H3 y d hdk => ?_⟩
  obtain ⟨T, v, rfl, hT, rfl, y⟩ := y
  unfold enumD at hdk
  rw [List.getElem?_map, List.getElem?_zipIdx] at hdk
  cases hk : ds[k]? with
  | none => rw [hk] at hdk; cases hdk
  | some d0 =>
    rw [hk] at hdk
    simp only [Option.map_some, Option.some.injEq, Nat.zero_add] at hdk
    subst hdk
    obtain ⟨w, h1, h2⟩ := dps_get hd hk
    have e1 := y xs q
    rw [h1] at e1
    cases e1
    exact pair_step r hT (.int _) (dp_mono st h2)
theorem src_enumT {G F H : Hp} {σ : L2.St} {e : Env} {a : Addr} {xs : List V} {ds : List D} (h : SqT X.K F a xs) (hd : DpAll X.K F xs ds) : SrcR X G F H σ e (.vals (enumD ds)) (IteT X.K a) := by
  intro L' G' F' H' σ' e' st r sg'
  have q : SqT X.K H' a xs := SqT.mono (st.trans r.fh) h
  have hl := dps_len hd
  have he : (enumD ds).length = ds.length := by simp [enumD]
  refine ⟨fun k hk => ⟨xs, xs[k]'(by omega), q, by simp [show k < xs.length by omega]⟩, ⟨xs, q, by omega⟩, fun k x H3 y d hdk => ?_⟩
  obtain ⟨T, v, rfl, hT, rfl, y⟩ := y
  unfold enumD at hdk
  rw [List.getElem?_map, List.getElem?_zipIdx] at hdk
  cases hk : ds[k]? with
  | none => rw [hk] at hdk; cases hdk
  | some d0 =>
    rw [hk] at hdk
    simp only [Option.map_some, Option.some.injEq, Nat.zero_add] at hdk
    subst hdk
    obtain ⟨w, h1, h2⟩ := dps_get hd hk
    have e1 := y xs q
    rw [h1] at e1
    cases e1
    exact pair_step r hT (.int _) (dp_mono st h2)
theorem src_eslot {G F H : Hp} {σ : L2.St} {e : Env} {i : Nat} {a : Addr} (h : sg σ i = some (.ref a)) : SrcR X G F H σ e (.slot i true) (Ite X.K a) := by
  refine ⟨a, h, fun L' G' F' H' σ' e' k hL r o ho => ?_⟩
  unfold itemAt at ho
  split at ho
  · rename_i t ds he
    cases ho
    obtain ⟨b, e1, ⟨q1, q2, ob, q3, q4⟩, q5⟩ := r.sl i _ he
    have eb : b = a := by
      have := q5 (.inr rfl)
      rw [hL] at this
      exact (Option.some.inj this).symm
    subst eb
    cases ob <;> first | exact (show False from q4).elim | skip
    rename_i xs
    have hq : SqL X.K H' b xs := SqL.of q3
    have hl := dps_len (show DpAll X.K F' xs ds from q4)
    rw [if_pos rfl]
    cases hd : ds[k]? with
    | none =>
      have : ds.length ≤ k := List.getElem?_eq_none_iff.mp hd
      exact ⟨xs, hq, by omega⟩
    | some d =>
      obtain ⟨v, h1, h2⟩ := dps_get (show DpAll X.K F' xs ds from q4) hd
      refine ⟨⟨xs, v, hq, h1⟩, fun x H3 y => ?_⟩
      obtain ⟨T, w, rfl, hT, rfl, y⟩ := y
      have e2 := y xs hq
      rw [h1] at e2
      cases e2
      exact pair_step r hT (.int _) h2
  · cases ho
variable {elts : List Expr} {kk : Nat} {tpos : Pos}
theorem ns1_bind {α : Type} (c : Vc) (f : R → Env → Res α) (e : Env) : ((vN c e).bind f) = (vNs [c] e).bind fun rs e1 => match rs with | [r] => f r e1 | _ => .bad := by
  unfold vNs vNs
  cases vN c e <;> rfl
theorem pi_en (hg : Gl X "enumerate") (hm : X.mg "enumerate" = none) (h : PV X W ei ci) (hs : starEach [ei] X.env = [(false, eval ei X.env)]) : PIs X W (.Tuple elts kk tpos) (.Call (.Name "enumerate" p) [ei] [] pos) (enW ci) := by
  have hp : PVs X W [ei] [ci] := .cons h hs .nil
  refine pi_imp (pi_enumA hg hm (pa_ns hp) hs) fun σ H Q q => ?_
  obtain ⟨L, G, F, e, r, a⟩ := q
  have a : After X W L G F σ (SrcR X) Q ((vN ci e).bind fun r e1 => srcOf true e1 r) := a
  rw [ns1_bind] at a
  refine ⟨L, G, F, e, r, (After.bind (P1 := RsOk X.K) a).mono fun vs H1 z => ?_⟩
  obtain ⟨F1, e1, rs, r1, st1, p1, a1⟩ := z
  cases p1 with
  | nil => exact a1.elim
  | @cons rr _ v _ p1 t =>
    cases t with
    | cons _ _ => exact a1.elim
    | nil =>
      dsimp only at a1
      cases rr with
      | fresh c => exact a1.elim
      | val d =>
        dsimp only [srcOf] at a1
        rw [if_pos rfl] at a1
        obtain ⟨ds, hds, a2⟩ := a1.ofO
        rw [if_pos rfl] at a2
        cases d with
        | list xs =>
          cases hds
          cases (show Dp X.K F1 v _ from p1.1) with
          | lst h1 h2 => exact ⟨_, _, rfl, .inl ⟨r1.fh.seq h1, a2 _ F1 H1 r1 (Step.refl G F1) (src_enum (fun L2 G2 F2 H2 σ2 e2 st2 r2 _ => (st2.trans r2.fh).seq h1) h2)⟩⟩
        | tuple xs =>
          cases hds
          cases (show Dp X.K F1 v _ from p1.1) with
          | tup h1 h2 => exact ⟨_, _, rfl, .inr ⟨SqT.mono r1.fh h1, a2 _ F1 H1 r1 (Step.refl G F1) (src_enumT h1 h2)⟩⟩
        | _ => cases hds
      | slot i =>
        have hi : sg σ i = some v := p1.1
        dsimp only [srcOf] at a1
        split at a1
        · rename_i ds he
          rw [if_pos rfl] at a1
          obtain ⟨w, e1', br⟩ := r1.sl i _ he
          rw [hi] at e1'; cases e1'
          rcases br with br | ⟨b, xs, ds', rfl, ed, b1, b2⟩
          · cases br with
            | lst h1 h2 => exact ⟨_, _, rfl, .inl ⟨r1.fh.seq h1, a1 _ F1 H1 r1 (Step.refl G F1) (src_enum (fun L2 G2 F2 H2 σ2 e2 st2 r2 _ => (st2.trans r2.fh).seq h1) h2)⟩⟩
          · cases ed
            refine ⟨b, xs, rfl, .inl ⟨(r1.bg.trans r1.gh).seq b1, a1 _ F1 H1 r1 (Step.refl G F1) (src_enum (fun L2 G2 F2 H2 σ2 e2 st2 r2 gg => ?_) b2)⟩⟩
            exact ((r1.bg.trans gg).trans r2.gh).seq b1
        · rename_i t k ds he
          obtain ⟨b, e1', ⟨q1, q2, o, q3, q4⟩, q5⟩ := r1.sl i _ he
          rw [hi] at e1'; cases e1'
          cases o <;> first | exact (show False from q4).elim | skip
          exact ⟨b, _, rfl, .inl ⟨SqL.of q3, a1 _ F1 H1 r1 (Step.refl G F1) (src_eslot hi)⟩⟩
        · exact a1.elim
theorem pi_r1 (hg : Gl X "range") (hm : X.mg "range" = none) (h : PV X W ei ci) (hs : starEach [ei] X.env = [(false, eval ei X.env)]) : PIs X W tg (.Call (.Name "range" p) [ei] [] pos) (rg1W ci) := by
  refine pi_imp (pi_range1 hg hm (pa_cons (pv_d h) pa_nil hs) hs) fun σ H Q q => ?_
  obtain ⟨L, G, F, e, r, a⟩ := q
  refine ⟨L, G, F, e, r, (After.bind (P1 := AOk X.K) a).mono fun x H1 z => ?_⟩
  obtain ⟨F1, e1, d, r1, st1, p1, a1⟩ := z
  obtain ⟨j, hj, a2⟩ := a1.ofO
  split at a2
  · rename_i hb
    cases d <;> simp only [intD, reduceCtorEq] at hj
    cases hj
    rw [ar_int p1]
    have hb1 : -(16777216 : Int) ≤ j := hb.1
    have hb2 : j ≤ 16777216 := hb.2
    exact ⟨j, rfl, by omega, by omega, a2 _ F1 H1 r1 (Step.refl G F1) src_range⟩
  · exact a2.elim
/-- two read one behind the other -/
theorem pa_two {α β : Type} {P : Rl α β} {f : R → R → Env → Res α} {Q : β → Hp → Prop} {Q' : List V → Hp → Prop} {σ : L2.St} {H : Hp}
    (k : ∀ (L : FrX X) (G F H : Hp) (e : Env) (x y : V) (r q : R), Rel X.K L G F H σ e → RNk X.K G F H σ e r x → RNk X.K G F H σ e q y → After X W L G F σ P Q (f r q e) → Q' [x, y] H)
    (q : Tr X W (fun e => (vN ca e).bind fun r e1 => (vN cb e1).bind fun q e2 => f r q e2) P σ H Q) : Tr X W (vNs [ca, cb]) (RsOk X.K) σ H Q' := by
  obtain ⟨L, G, F, e, r, a⟩ := q
  have a : After X W L G F σ P Q ((vN ca e).bind fun r e1 => (vN cb e1).bind fun q e2 => f r q e2) := a
  have e0 : ((vN ca e).bind fun r e1 => (vN cb e1).bind fun q e2 => f r q e2) = (vNs [ca, cb] e).bind fun rs e2 => match rs with | [r, q] => f r q e2 | _ => .bad := by
    unfold vNs vNs vNs
    cases vN ca e with
    | bad => rfl
    | exc _ _ => rfl
    | ok r1 e1 =>
      simp only [bind_ok]
      cases vN cb e1 <;> rfl
  rw [e0] at a
  refine ⟨L, G, F, e, r, (After.bind (P1 := RsOk X.K) a).mono fun vs H1 z => ?_⟩
  obtain ⟨F1, e1, rs, r1, st1, p1, a1⟩ := z
  cases p1 with
  | nil => exact a1.elim
  | cons p1 t =>
    cases t with
    | nil => exact a1.elim
    | cons p2 t =>
      cases t with
      | nil => exact k L G F1 H1 e1 _ _ _ _ r1 p1 p2 a1
      | cons _ _ => exact a1.elim
theorem pi_r2 (hg : Gl X "range") (hm : X.mg "range" = none) (ha : PV X W ea ca) (hb : PV X W eb cb) (hs : starEach [ea, eb] X.env = (false, eval ea X.env) :: starEach [eb] X.env) (hs2 : starEach [eb] X.env = [(false, eval eb X.env)]) : PIs X W tg (.Call (.Name "range" p) [ea, eb] [] pos) (rg2W ca cb) := by
  refine pi_imp (pi_range2 hg hm (pa_ns (.cons ha hs (.cons hb hs2 .nil))) (by rw [hs, hs2]) hs2) fun σ H Q q => ?_
  refine pa_two (P := SrcR X) (Q := Q) (f := fun r q e2 => (ofO (rd e2 r) e2).bind fun x e3 => (ofO (rd e3 q) e3).bind fun y e4 => (ofO (intD x) e4).bind fun i e5 => (ofO (intD y) e5).bind fun j e6 =>
    if -(big : Int) ≤ i ∧ i ≤ big ∧ -(big : Int) ≤ j ∧ j ≤ big then .ok (.vals (rngD i (j - i).toNat)) e6 else .bad) (fun L G F H e x y r q rl p1 p2 a => ?_) (tr_congr (fun e => v2_eq ca cb _ e) q)
  obtain ⟨d, hd, a1⟩ := a.ofO
  obtain ⟨d', hd', a2⟩ := a1.ofO
  obtain ⟨i, hi, a3⟩ := a2.ofO
  obtain ⟨j, hj, a4⟩ := a3.ofO
  have q1 := rd_ok rl p1.1 hd
  have q2 := rd_ok rl p2.1 hd'
  split at a4
  · rename_i hb
    cases d <;> simp only [intD, reduceCtorEq] at hi
    cases d' <;> simp only [intD, reduceCtorEq] at hj
    cases hi
    cases hj
    rw [ar_int q1, ar_int q2]
    obtain ⟨b1, b2, b3, b4⟩ := hb
    have b1 : -(16777216 : Int) ≤ i := b1
    have b2 : i ≤ 16777216 := b2
    have b3 : -(16777216 : Int) ≤ j := b3
    have b4 : j ≤ 16777216 := b4
    exact ⟨i, j, rfl, ⟨by omega, by omega, by omega, by omega⟩, a4 _ F H rl (Step.refl G F) src_range⟩
  · exact a4.elim
theorem zip_get {α β γ : Type} {f : α × β → γ} {xs : List α} {ys : List β} {k : Nat} {d : γ} (h : ((xs.zip ys).map f)[k]? = some d) : ∃ x y, xs[k]? = some x ∧ ys[k]? = some y ∧ d = f (x, y) := by
  rw [List.getElem?_map] at h
  cases hk : (xs.zip ys)[k]? with
  | none => rw [hk] at h; cases h
  | some p =>
    rw [hk] at h
    cases h
    rw [List.getElem?_zip_eq_some] at hk
    exact ⟨p.1, p.2, hk.1, hk.2, rfl⟩
theorem src_zipL {G F H : Hp} {σ : L2.St} {e : Env} {a b : Addr} {xs ys : List V} {ds es : List D} (h : ∀ (L' : Fr) (G' F' H' : Hp) (σ' : L2.St) (e' : Env), Same F F' → Rel X.K L' G' F' H' σ' e' → Same G G' → SqL X.K H' a xs ∧ SqL X.K H' b ys) (hd : DpAll X.K F xs ds) (he : DpAll X.K F ys es) :
    SrcR X G F H σ e (.vals (zipD ds es)) (Itz X.K a b) := by
  intro L' G' F' H' σ' e' st r sg'
  obtain ⟨q1, q2⟩ := h L' G' F' H' σ' e' st r sg'
  have l1 := dps_len hd
  have l2 := dps_len he
  have hl : (zipD ds es).length = min ds.length es.length := by simp [zipD]
  refine ⟨fun k hk => ?_, ⟨xs, ys, q1, q2, by omega⟩, fun k x H3 y d hdk => ?_⟩
  · have k1 : k < xs.length := by omega
    have k2 : k < ys.length := by omega
    exact ⟨xs, ys, xs[k], ys[k], q1, q2, by simp [k1], by simp [k2]⟩
  · obtain ⟨T, v, w, rfl, hT, rfl, y1, y2⟩ := y
    obtain ⟨d1, d2, h1, h2, rfl⟩ := zip_get hdk
    obtain ⟨v', g1, g2⟩ := dps_get hd h1
    obtain ⟨w', g3, g4⟩ := dps_get he h2
    have e1 := y1 xs q1
    have e2 := y2 ys q2
    rw [g1] at e1
    rw [g3] at e2
    cases e1; cases e2
    exact pair_step r hT (dp_mono st g2) (dp_mono st g4)
theorem src_zipT {G F H : Hp} {σ : L2.St} {e : Env} {a b : Addr} {xs ys : List V} {ds es : List D} (h1 : SqT X.K F a xs) (h2 : SqT X.K F b ys) (hd : DpAll X.K F xs ds) (he : DpAll X.K F ys es) :
    SrcR X G F H σ e (.vals (zipD ds es)) (RZ.ItzT X.K a b) := by
  intro L' G' F' H' σ' e' st r sg'
  have q1 := SqT.mono (st.trans r.fh) h1
  have q2 := SqT.mono (st.trans r.fh) h2
  have l1 := dps_len hd
  have l2 := dps_len he
  have hl : (zipD ds es).length = min ds.length es.length := by simp [zipD]
  refine ⟨fun k hk => ?_, ⟨xs, ys, q1, q2, by omega⟩, fun k x H3 y d hdk => ?_⟩
  · have k1 : k < xs.length := by omega
    have k2 : k < ys.length := by omega
    exact ⟨xs, ys, xs[k], ys[k], q1, q2, by simp [k1], by simp [k2]⟩
  · obtain ⟨T, v, w, rfl, hT, rfl, y1, y2⟩ := y
    obtain ⟨d1, d2, h1, h2, rfl⟩ := zip_get hdk
    obtain ⟨v', g1, g2⟩ := dps_get hd h1
    obtain ⟨w', g3, g4⟩ := dps_get he h2
    have e1 := y1 xs q1
    have e2 := y2 ys q2
    rw [g1] at e1
    rw [g3] at e2
    cases e1; cases e2
    exact pair_step r hT (dp_mono st g2) (dp_mono st g4)
/-- a list that stands still -/
theorem stb_lst {L : Fr} {G F H : Hp} {σ : L2.St} {e : Env} {r : R} {v : V} {ds : List D} (rl : Rel X.K L G F H σ e) (p : RNk X.K G F H σ e r v) (h : stb e r = some (.list ds)) : ∃ a xs, v = .ref a ∧ DpAll X.K F xs ds ∧ SqL X.K H a xs ∧
    ∀ (L' : Fr) (G' F' H' : Hp) (σ' : L2.St) (e' : Env), Same F F' → Rel X.K L' G' F' H' σ' e' → Same G G' → SqL X.K H' a xs := by
  have fz : ∀ {v : V}, Dp X.K F v (.list ds) → ∃ a xs, v = .ref a ∧ DpAll X.K F xs ds ∧ SqL X.K H a xs ∧ ∀ (L' : Fr) (G' F' H' : Hp) (σ' : L2.St) (e' : Env), Same F F' → Rel X.K L' G' F' H' σ' e' → Same G G' → SqL X.K H' a xs := fun h => by
    cases h with
    | lst h1 h2 => exact ⟨_, _, rfl, h2, rl.fh.seq h1, fun L2 G2 F2 H2 σ2 e2 st2 r2 _ => (st2.trans r2.fh).seq h1⟩
  cases r with
  | fresh c => cases h
  | val d => cases h; exact fz p.1
  | slot i =>
    have hi : sg σ i = some v := p.1
    dsimp only [stb] at h
    split at h
    · rename_i d he
      cases h
      obtain ⟨w, e1, br⟩ := rl.sl i _ he
      rw [hi] at e1; cases e1
      rcases br with br | ⟨b, xs, ds', rfl, ed, b1, b2⟩
      · exact fz br
      · cases ed
        exact ⟨b, xs, rfl, b2, (rl.bg.trans rl.gh).seq b1, fun L2 G2 F2 H2 σ2 e2 st2 r2 gg => ((rl.bg.trans gg).trans r2.gh).seq b1⟩
    · cases h
theorem stb_tup {L : Fr} {G F H : Hp} {σ : L2.St} {e : Env} {r : R} {v : V} {ds : List D} (rl : Rel X.K L G F H σ e) (p : RNk X.K G F H σ e r v) (h : stb e r = some (.tuple ds)) : ∃ a xs, v = .ref a ∧ DpAll X.K F xs ds ∧ SqT X.K F a xs := by
  have fz : ∀ {v : V}, Dp X.K F v (.tuple ds) → ∃ a xs, v = .ref a ∧ DpAll X.K F xs ds ∧ SqT X.K F a xs := fun h => by
    cases h with
    | tup h1 h2 => exact ⟨_, _, rfl, h2, h1⟩
  cases r with
  | fresh c => cases h
  | val d => cases h; exact fz p.1
  | slot i =>
    have hi : sg σ i = some v := p.1
    dsimp only [stb] at h
    split at h
    · rename_i d he
      cases h
      obtain ⟨w, e1, br⟩ := rl.sl i _ he
      rw [hi] at e1; cases e1
      rcases br with br | ⟨b, xs, ds', rfl, ed, b1, b2⟩
      · exact fz br
      · cases ed
    · cases h
theorem pi_zp (hg : Gl X "zip") (hm : X.mg "zip" = none) (ha : PV X W ea ca) (hb : PV X W eb cb) (hs : starEach [ea, eb] X.env = (false, eval ea X.env) :: starEach [eb] X.env) (hs2 : starEach [eb] X.env = [(false, eval eb X.env)]) :
    PIs X W (.Tuple elts kk tpos) (.Call (.Name "zip" p) [ea, eb] [] pos) (zpW ca cb) := by
  refine pi_imp (RZ.pi_zipA hg hm (pa_ns (.cons ha hs (.cons hb hs2 .nil))) hs (by rw [backTo_any, hs2]; rfl)) fun σ H Q q => ?_
  refine pa_two (P := SrcR X) (Q := Q) (fun L G F H e x y r q rl p1 p2 a => ?_) q
  obtain ⟨d, hd, a1⟩ := a.ofO
  obtain ⟨d', hd', a2⟩ := a1.ofO
  obtain ⟨xs, hx, a3⟩ := a2.ofO
  obtain ⟨ys, hy, a4⟩ := a3.ofO
  split at a4
  · rename_i hc
    cases d <;> simp only [seqD, reduceCtorEq] at hx <;> cases d' <;> simp only [seqD, reduceCtorEq] at hy <;> simp only [isL, reduceCtorEq] at hc
    · cases hx; cases hy
      obtain ⟨a', vs, rfl, g1, g2, g3⟩ := stb_lst rl p1 hd
      obtain ⟨b', ws, rfl, g4, g5, g6⟩ := stb_lst rl p2 hd'
      exact ⟨a', b', vs, ws, rfl, .inl ⟨g2, g5, a4 _ F H rl (Step.refl G F) (src_zipL (fun L2 G2 F2 H2 σ2 e2 st2 r2 gg => ⟨g3 L2 G2 F2 H2 σ2 e2 st2 r2 gg, g6 L2 G2 F2 H2 σ2 e2 st2 r2 gg⟩) g1 g4)⟩⟩
    · cases hx; cases hy
      obtain ⟨a', vs, rfl, g1, g2⟩ := stb_tup rl p1 hd
      obtain ⟨b', ws, rfl, g3, g4⟩ := stb_tup rl p2 hd'
      exact ⟨a', b', vs, ws, rfl, .inr ⟨SqT.mono rl.fh g2, SqT.mono rl.fh g4, a4 _ F H rl (Step.refl G F) (src_zipT g2 g4 g1 g3)⟩⟩
  · exact a4.elim
end
end Ev
set_option Elab.async false
set_option linter.all false
set_option maxHeartbeats 1000000
/-! Ev8: targets, comprehensions. -/
namespace Ev
open PySem PySem.Spec PyProof.Rows L2
section
variable {X : Cx} {W : WX}
/-! ### names set, wiped, given back -/
theorem set_getD {σ : L2.St} {i j : Nat} {o : Option V} (hi : i < σ.length) : sg (σ.set i o) j = if i = j then o else sg σ j := by
  unfold sg List.getD
  by_cases h : i = j
  · subst h
    rw [if_pos rfl, List.getElem?_set_self hi]
    rfl
  · rw [if_neg h, List.getElem?_set_ne h]
theorem Rel.setFz {L : Fr} {G F H : Hp} {σ : L2.St} {e : Env} {i : Nat} {v : V} {d : D} (r : Rel X.K L G F H σ e) (hi : i < e.length) (h : Dp X.K F v d) : Rel X.K L G F H (σ.set i (some v)) (e.set i (.fz d)) := by
  have hs : i < σ.length := by rw [r.len]; exact hi
  have mm : ∀ {j : Nat}, isMu (e.set i (.fz d)) j → i ≠ j ∧ isMu e j := fun {j} ⟨t, k, c, z⟩ => by
    by_cases hj : i = j
    · subst hj
      rw [List.getElem?_set_self hi] at z
      cases z
    · rw [List.getElem?_set_ne hj] at z
      exact ⟨hj, t, k, c, z⟩
  refine ⟨r.fh, r.gh, by rw [List.length_set, List.length_set]; exact r.len, fun j s hj => ?_, fun j k a hjk m1 m2 => ?_, r.bg⟩
  · rw [set_getD hs]
    by_cases hij : i = j
    · subst hij
      rw [List.getElem?_set_self hi] at hj
      cases hj
      rw [if_pos rfl]
      exact ⟨v, rfl, h⟩
    · rw [List.getElem?_set_ne hij] at hj
      rw [if_neg hij]
      exact r.sl j s hj
  · obtain ⟨n1, m1⟩ := mm m1
    obtain ⟨n2, m2⟩ := mm m2
    rw [set_getD hs, set_getD hs, if_neg n1, if_neg n2]
    exact r.ap j k a hjk m1 m2
theorem Rel.setUn {L : Fr} {G F H : Hp} {σ : L2.St} {e : Env} {i : Nat} {o : Option V} (r : Rel X.K L G F H σ e) (hi : i < e.length) : Rel X.K L G F H (σ.set i o) (e.set i .un) := by
  have hs : i < σ.length := by rw [r.len]; exact hi
  have mm : ∀ {j : Nat}, isMu (e.set i .un) j → i ≠ j ∧ isMu e j := fun {j} ⟨t, k, c, z⟩ => by
    by_cases hj : i = j
    · subst hj
      rw [List.getElem?_set_self hi] at z
      cases z
    · rw [List.getElem?_set_ne hj] at z
      exact ⟨hj, t, k, c, z⟩
  refine ⟨r.fh, r.gh, by rw [List.length_set, List.length_set]; exact r.len, fun j s hj => ?_, fun j k a hjk m1 m2 => ?_, r.bg⟩
  · rw [set_getD hs]
    by_cases hij : i = j
    · subst hij
      rw [List.getElem?_set_self hi] at hj
      cases hj
      trivial
    · rw [List.getElem?_set_ne hij] at hj
      rw [if_neg hij]
      exact r.sl j s hj
  · obtain ⟨n1, m1⟩ := mm m1
    obtain ⟨n2, m2⟩ := mm m2
    rw [set_getD hs, set_getD hs, if_neg n1, if_neg n2]
    exact r.ap j k a hjk m1 m2
def setAll : List Nat → List V → L2.St → L2.St
  | i :: is, v :: vs, σ => setAll is vs (σ.set i (some v))
  | _, _, σ => σ
theorem setAll_len : ∀ (is : List Nat) (vs : List V) (σ : L2.St), (setAll is vs σ).length = σ.length
  | [], _, _ => rfl
  | _ :: _, [], _ => rfl
  | i :: is, v :: vs, σ => by
    show (setAll is vs (σ.set i (some v))).length = _
    rw [setAll_len, List.length_set]
theorem putAll_cons {i : Nat} {is : List Nat} {d : D} {ds : List D} {e e1 : Env} (h : putAll (i :: is) (d :: ds) e = some e1) : i < e.length ∧ putAll is ds (e.set i (.fz d)) = some e1 := by
  unfold putAll at h
  split at h
  · cases h
  · cases h
  · rename_i q
    exact ⟨(List.getElem?_eq_some_iff.mp q).1, h⟩
  · cases h
theorem putAll_state {L : Fr} {G F H : Hp} : ∀ {is : List Nat} {ds : List D} {vs : List V} {σ : L2.St} {e e1 : Env}, Rel X.K L G F H σ e → DpAll X.K F vs ds → putAll is ds e = some e1 → Rel X.K L G F H (setAll is vs σ) e1 ∧ vs.length = is.length
  | [], [], vs, σ, e, e1, r, h, q => by
    cases q
    cases h
    exact ⟨r, rfl⟩
  | i :: is, d :: ds, vs, σ, e, e1, r, h, q => by
    cases h with
    | cons h t =>
      obtain ⟨hi, q⟩ := putAll_cons q
      obtain ⟨r2, l2⟩ := putAll_state (r.setFz hi h) t q
      exact ⟨r2, by rw [List.length_cons, l2]; rfl⟩
  | [], _ :: _, vs, σ, e, e1, r, h, q => by cases q
  | _ :: _, [], vs, σ, e, e1, r, h, q => by cases q
def gIs : List Nat → TGs
  | [] => gNil
  | i :: is => gCons (gName i) (gIs is)
theorem gIs_set : ∀ {is : List Nat} {vs : List V} {σ : L2.St} {H : Hp} {Q : L2.St → Hp → Prop}, vs.length = is.length → Q (setAll is vs σ) H → gIs is vs σ H Q
  | [], vs, σ, H, Q, h, q => ⟨List.length_eq_zero_iff.mp h, by
      cases vs with
      | nil => exact q
      | cons _ _ => cases h⟩
  | i :: is, vs, σ, H, Q, h, q => by
    cases vs with
    | nil => cases h
    | cons v vs => exact ⟨v, vs, rfl, gIs_set (by simpa using h) q⟩
/-- taken apart: a tuple or a list of that length -/
def gEi (K : PySem.W.Frag) (n : Nat) (t : TGs) : TG := fun v σ H Q => gTup K n t v σ H Q ∨ gLst K n t v σ H Q
theorem pg_ei {es : List Expr} {k : Nat} {t : TGs} {n : Nat} {pos : Pos} (hc : X.calm = true) (h : PGs X es t) (hn : (assignEach es X.env).length = n := by rfl) (hst : (assignEach es X.env).findIdx? (·.1) = none := by rfl) : PG X (.Tuple es k pos) (gEi X.K n t) :=
  ⟨fun pins s σ H v u Q I r hw => by
    rcases hw with hw | hw
    · exact (pg_tup hc h hn hst).run pins s σ H v u Q I r hw
    · exact (pg_lst hc h hn hst).run pins s σ H v u Q I r hw⟩
def gOf (K : PySem.W.Frag) (tg : List Nat) : Bool → TG
  | true => gEi K tg.length (gIs tg)
  | false => match tg with
    | [i] => gName i
    | _ => fun _ _ _ _ => False
/-- a target's store -/
theorem tg_state {L : Fr} {G F H : Hp} {σ : L2.St} {e e1 : Env} {tg : List Nat} {pair : Bool} {v : V} {d : D} {Q : L2.St → Hp → Prop} (r : Rel X.K L G F H σ e) (h : Dp X.K F v d) (q : putT tg pair d e = some e1)
    (k : ∀ vs, Rel X.K L G F H (setAll tg vs σ) e1 → Q (setAll tg vs σ) H) : gOf X.K tg pair v σ H Q := by
  cases pair with
  | false =>
    unfold putT at q
    split at q
    · rename_i i d' h1 h2
      obtain ⟨r2, _⟩ := putAll_state (vs := [v]) r (.cons h .nil) q
      exact k [v] r2
    · rename_i h1
      cases h1
    · rename_i h1
      cases h1
    · cases q
  | true =>
    unfold putT at q
    split at q
    · rename_i h1
      cases h1
    · rename_i is ds h1
      split at q
      · rename_i hl
        cases h with
        | @tup a xs _ h1 h2 =>
          obtain ⟨r2, l2⟩ := putAll_state r h2 q
          exact .inl ⟨a, xs, rfl, SqT.mono r.fh h1, l2, gIs_set l2 (k xs r2)⟩
      · cases q
    · rename_i is ds h1
      split at q
      · rename_i hl
        cases h with
        | @lst a xs _ h1 h2 =>
          obtain ⟨r2, l2⟩ := putAll_state r h2 q
          exact .inr ⟨a, xs, rfl, r.fh.seq h1, l2, gIs_set l2 (k xs r2)⟩
      · cases q
    · cases q
/-- the wiped state -/
theorem wipeE_set : ∀ {is : List Nat} {e e1 : Env}, wipeE e is = some e1 → e1.length = e.length ∧ (∀ i ∈ is, e1[i]? = some .un ∧ ¬ isMu e i) ∧ ∀ j, j ∉ is → e1[j]? = e[j]?
  | [], e, e1, h => by
    cases h
    exact ⟨rfl, fun i hi => absurd hi (by simp), fun _ _ => rfl⟩
  | i :: is, e, e1, h => by
    unfold wipeE at h
    split at h
    · cases h
    · rename_i s hs hn
      have hi : i < e.length := (List.getElem?_eq_some_iff.mp hn).1
      obtain ⟨h1, h2, h3⟩ := wipeE_set h
      have nm : ¬ isMu e i := fun ⟨t, k, c, z⟩ => by
        rw [hn] at z
        cases z
        exact hs t k c rfl
      refine ⟨by rw [h1, List.length_set], fun j hj => ?_, fun j hj => ?_⟩
      · rcases List.mem_cons.mp hj with rfl | hj
        · refine ⟨?_, nm⟩
          by_cases hm : j ∈ is
          · exact (h2 j hm).1
          · rw [h3 j hm, List.getElem?_set_self hi]
        · refine ⟨(h2 j hj).1, fun m => ?_⟩
          by_cases hij : i = j
          · subst hij; exact nm m
          · refine (h2 j hj).2 ?_
            obtain ⟨t, k, c, z⟩ := m
            exact ⟨t, k, c, by rw [List.getElem?_set_ne hij]; exact z⟩
      · rw [h3 j fun z => hj (List.mem_cons_of_mem _ z), List.getElem?_set_ne]
        rintro rfl
        exact hj List.mem_cons_self
    · cases h
theorem wipe_get {σ : L2.St} : ∀ {is : List Nat} {j : Nat}, j ∉ is → (wipe σ is)[j]? = σ[j]?
  | [], _, _ => rfl
  | i :: is, j, h => by
    unfold wipe
    rw [List.getElem?_set_ne (fun z => h (by rw [z]; exact List.mem_cons_self)), wipe_get fun z => h (List.mem_cons_of_mem _ z)]
theorem wipe_in {σ : L2.St} : ∀ {is : List Nat} {j : Nat}, j ∈ is → j < σ.length → (wipe σ is)[j]? = some none
  | i :: is, j, h, hj => by
    unfold wipe
    by_cases hij : i = j
    · subst hij
      rw [List.getElem?_set_self (by rw [wipe_length]; exact hj)]
    · rw [List.getElem?_set_ne hij]
      rcases List.mem_cons.mp h with rfl | h
      · exact absurd rfl hij
      · exact wipe_in h hj
theorem Rel.wipe {L : Fr} {G F H : Hp} {σ : L2.St} {e e1 : Env} {is : List Nat} (r : Rel X.K L G F H σ e) (h : wipeE e is = some e1) : Rel X.K L G F H (L2.wipe σ is) e1 := by
  obtain ⟨h1, h2, h3⟩ := wipeE_set h
  have nj : ∀ {j : Nat}, isMu e1 j → j ∉ is ∧ isMu e j := fun {j} ⟨t, k, c, z⟩ => by
    by_cases hj : j ∈ is
    · rw [(h2 j hj).1] at z
      cases z
    · rw [h3 j hj] at z
      exact ⟨hj, t, k, c, z⟩
  have sgw : ∀ {j : Nat}, j ∉ is → sg (L2.wipe σ is) j = sg σ j := fun {j} hj => by
    unfold sg List.getD
    rw [wipe_get hj]
  refine ⟨r.fh, r.gh, by rw [wipe_length, h1]; exact r.len, fun j s hj => ?_, fun j k a hjk m1 m2 => ?_, r.bg⟩
  · by_cases hm : j ∈ is
    · rw [(h2 j hm).1] at hj
      cases hj
      trivial
    · rw [h3 j hm] at hj
      rw [sgw hm]
      exact r.sl j s hj
  · obtain ⟨n1, m1⟩ := nj m1
    obtain ⟨n2, m2⟩ := nj m2
    rw [sgw n1, sgw n2]
    exact r.ap j k a hjk m1 m2
theorem backE_get {e₀ : Env} : ∀ {is : List Nat} {e : Env}, (backE e₀ e is).length = e.length ∧ (∀ j, j ∉ is → (backE e₀ e is)[j]? = e[j]?) ∧ ∀ j ∈ is, j < e.length → j < e₀.length → (backE e₀ e is)[j]? = e₀[j]?
  | [], e => ⟨rfl, fun _ _ => rfl, fun j hj => absurd hj (by simp)⟩
  | i :: is, e => by
    unfold backE
    obtain ⟨h1, h2, h3⟩ := backE_get (e₀ := e₀) (is := is) (e := e.set i (e₀[i]?.getD .un))
    refine ⟨by rw [h1, List.length_set], fun j hj => ?_, fun j hj hl hl0 => ?_⟩
    · rw [h2 j fun z => hj (List.mem_cons_of_mem _ z), List.getElem?_set_ne]
      rintro rfl
      exact hj List.mem_cons_self
    · by_cases hm : j ∈ is
      · exact h3 j hm (by rw [List.length_set]; exact hl) hl0
      · rcases List.mem_cons.mp hj with rfl | hj
        · rw [h2 j hm, List.getElem?_set_self hl, List.getElem?_eq_getElem hl0]
          rfl
        · exact absurd hj hm
/-- the comprehension's own names as they were -/
theorem Rel.back {L : Fr} {G F F0 H H0 : Hp} {σ : L2.St} {e0 e e1 : Env} {is : List Nat} (r0 : Rel X.K L G F0 H0 σ e0) (hw : wipeE e0 is = some e1) (r : Rel X.K L G F H (L2.wipe σ is) e) (st : Same F0 F) (hu : ∀ i ∈ is, e[i]? = some .un) : Rel X.K L G F H σ (backE e0 e is) := by
  obtain ⟨w1, w2, w3⟩ := wipeE_set hw
  obtain ⟨b1, b2, b3⟩ := backE_get (e₀ := e0) (is := is) (e := e)
  have le : e.length = e0.length := by rw [← r.len, wipe_length, r0.len]
  have inl : ∀ i ∈ is, i < e.length := fun i hi => (List.getElem?_eq_some_iff.mp (hu i hi)).1
  have nj : ∀ {j : Nat}, isMu (backE e0 e is) j → j ∉ is ∧ isMu e j := fun {j} ⟨t, k, c, z⟩ => by
    by_cases hj : j ∈ is
    · rw [b3 j hj (inl j hj) (by rw [← le]; exact inl j hj)] at z
      exact absurd ⟨t, k, c, z⟩ (w2 j hj).2
    · rw [b2 j hj] at z
      exact ⟨hj, t, k, c, z⟩
  have sgw : ∀ {j : Nat}, j ∉ is → sg (L2.wipe σ is) j = sg σ j := fun {j} hj => by
    unfold sg List.getD
    rw [wipe_get hj]
  refine ⟨r.fh, r.gh, by rw [b1, le]; exact r0.len, fun j s hj => ?_, fun j k a hjk m1 m2 => ?_, r.bg⟩
  · by_cases hm : j ∈ is
    · rw [b3 j hm (inl j hm) (by rw [← le]; exact inl j hm)] at hj
      have q := r0.sl j s hj
      cases s with
      | un => trivial
      | fz d => obtain ⟨v, e1, q⟩ := q; exact ⟨v, e1, dp_mono st q⟩
      | bo d => obtain ⟨v, e1, q⟩ := q; exact ⟨v, e1, q.mono st⟩
      | xc x => obtain ⟨a, C, dd, fs, x1, x2, x3, x4⟩ := q; exact ⟨a, C, dd, fs, x1, x2, x3, fs_mono st x4⟩
      | mu t k c => exact absurd ⟨t, k, c, hj⟩ (w2 j hm).2
    · rw [b2 j hm] at hj
      rw [← sgw hm]
      exact r.sl j s hj
  · obtain ⟨n1, m1⟩ := nj m1
    obtain ⟨n2, m2⟩ := nj m2
    rw [← sgw n1, ← sgw n2]
    exact r.ap j k a hjk m1 m2
/-- an object of the frame's own meanwhile -/
theorem Rel.guard {L : Fr} {G F H : Hp} {σ : L2.St} {e : Env} {D : Addr} {o : HO} (r : Rel X.K L G F H σ e) (hg : G D = none) (hD : H D = some o) (hn : ∀ i, isMu e i → sg σ i ≠ some (.ref D)) : Rel X.K L (upd G D o) F H σ e := by
  refine ⟨r.fh, fun b x q => ?_, r.len, fun j s hj => ?_, r.ap, r.bg.trans (same_upd hg)⟩
  · unfold upd at q
    split at q
    · rename_i h; subst h; cases q; exact hD
    · exact r.gh _ _ q
  · have q := r.sl j s hj
    cases s with
    | un => trivial
    | fz d => exact q
    | bo d => exact q
    | xc x => exact q
    | mu t k c =>
      obtain ⟨a, e1, ⟨q1, q2, q3⟩, q5⟩ := q
      refine ⟨a, e1, ⟨q1, ?_, q3⟩, q5⟩
      rw [upd_ne]
      · exact q2
      · rintro rfl
        exact hn j ⟨t, k, c, hj⟩ e1
theorem Rel.unguard {L : Fr} {G F H : Hp} {σ : L2.St} {e : Env} {D : Addr} {o : HO} (r : Rel X.K L (upd G D o) F H σ e) (hg : G D = none) (hb : Same L.b G) : Rel X.K L G F H σ e ∧ H D = some o ∧ ∀ i, isMu e i → sg σ i ≠ some (.ref D) := by
  have gs : Same G (upd G D o) := same_upd hg
  refine ⟨⟨r.fh, gs.trans r.gh, r.len, fun j s hj => ?_, r.ap, hb⟩, r.gh _ _ upd_same, fun i ⟨t, k, c, hi⟩ e1 => ?_⟩
  · have q := r.sl j s hj
    cases s with
    | un => trivial
    | fz d => exact q
    | bo d => exact q
    | xc x => exact q
    | mu t k c =>
      obtain ⟨a, e1, ⟨q1, q2, q3⟩, q5⟩ := q
      exact ⟨a, e1, ⟨q1, gs.free q2, q3⟩, q5⟩
  · obtain ⟨a, e2, ⟨_, q2, _⟩, _⟩ := r.sl i _ hi
    rw [e1] at e2; cases e2
    rw [upd_same] at q2
    cases q2
/-- an object that no slot holds and no value leans on is changed -/
theorem Rel.change {L : Fr} {G F H : Hp} {σ : L2.St} {e : Env} {D : Addr} {o : HO} (r : Rel X.K L G F H σ e) (hg : G D = none) (hf : F D = none) (hn : ∀ i, isMu e i → sg σ i ≠ some (.ref D)) : Rel X.K L G F (upd H D o) σ e := by
  refine ⟨fun b x q => ?_, fun b x q => ?_, r.len, fun j s hj => ?_, r.ap, r.bg⟩
  · rw [upd_ne (ne_of_none q hf)]
    exact r.fh _ _ q
  · rw [upd_ne (ne_of_none q hg)]
    exact r.gh _ _ q
  · have q := r.sl j s hj
    cases s with
    | un => trivial
    | fz d => exact q
    | bo d => exact q
    | xc x => exact q
    | mu t k c =>
      obtain ⟨a, e1, ⟨q1, q2, ob, q3, q4⟩, q5⟩ := q
      refine ⟨a, e1, ⟨q1, q2, ob, ?_, q4⟩, q5⟩
      rw [upd_ne]
      · exact q3
      · rintro rfl
        exact hn j ⟨t, k, c, hj⟩ e1
end
end Ev
set_option Elab.async false
set_option linter.all false
set_option maxHeartbeats 1000000
/-! Ev9: comprehensions. -/
namespace Ev
open PySem PySem.Spec PyProof.Rows L2
/-- it ends well, in P -/
def Okp {α : Type} (P : α → Env → Prop) (r : Res α) : Prop := ∃ a e, r = .ok a e ∧ P a e
theorem Okp.bind {α β : Type} {P : β → Env → Prop} {r : Res α} {f : α → Env → Res β} (h : Okp P (r.bind f)) : Okp (fun a e => Okp P (f a e)) r := by
  obtain ⟨b, e, h, p⟩ := h
  cases r with
  | bad => cases h
  | exc x e1 => cases h
  | ok a e1 => exact ⟨a, e1, rfl, b, e, h, p⟩
theorem Okp.noX {α : Type} {P : α → Env → Prop} {r : Res α} (h : Okp P (Ev.noX r)) : Okp P r := by
  obtain ⟨b, e, h, p⟩ := h
  cases r with
  | bad => cases h
  | exc x e1 => cases h
  | ok a e1 => exact ⟨b, e, h, p⟩
theorem noX_ne {α : Type} {r : Res α} {x : Xn} {e : Env} : noX r ≠ .exc x e := by
  cases r <;> exact fun h => nomatch h
theorem lcTurn_ne {own tg : List Nat} {pair : Bool} {c : Option (Env → Res Bool)} {v : Vc} {d : D} {s : Env} {x : Xn} {e : Env} : lcTurn own tg pair c v d s ≠ .exc x e := by
  unfold lcTurn
  split
  · exact fun h => nomatch h
  · exact noX_ne
theorem lcGoN_ne {turn : D → Env → Res (Option D)} {nx : Nat → Env → Option (Option D)} (h : ∀ d s x e, turn d s ≠ .exc x e) : ∀ {n k : Nat} {s : Env} {x : Xn} {e : Env}, lcGoN turn nx n k s ≠ .exc x e
  | 0, k, s, x, e => fun h => nomatch h
  | n + 1, k, s, x, e => by
    unfold lcGoN
    split
    · exact fun h => nomatch h
    · exact fun h => nomatch h
    · rename_i d _
      cases ht : turn d s with
      | bad => exact fun h => nomatch h
      | exc y e1 => exact absurd ht (h _ _ _ _)
      | ok o e1 =>
        rw [bind_ok]
        cases hr : lcGoN turn nx n (k + 1) e1 with
        | bad => exact fun h => nomatch h
        | exc y e1 => exact absurd hr (lcGoN_ne h)
        | ok r e2 => exact fun h => nomatch h
section
variable {X : Cx} {W : WX}
/-- the iterator goes as the evaluator does -/
def SrcN (X : Cx) (L : Fr) (G F : Hp) (J : It) (nx : Nat → Env → Option (Option D)) : Prop :=
  ∀ (G' F' H' : Hp) (σ' : L2.St) (e' : Env) (k : Nat), Same F F' → Rel X.K L G' F' H' σ' e' → Same G G' → ∀ o, nx k e' = some o → match o with
      | none => J.stop k H'
      | some d => J.go k H' ∧ ∀ x H3, J.yld k H' x H3 → ∃ F3, Rel X.K L G' F3 H3 σ' e' ∧ Step G' F' F3 ∧ Dp X.K F3 x d
theorem wipe_set {σ : L2.St} {o : Option V} : ∀ {is : List Nat} {i : Nat}, i ∈ is → wipe (σ.set i o) is = wipe σ is
  | j :: is, i, h => by
    unfold wipe
    by_cases hm : i ∈ is
    · rw [wipe_set hm]
    · rcases List.mem_cons.mp h with rfl | h
      · have : ∀ {is : List Nat}, i ∉ is → wipe (σ.set i o) is = (wipe σ is).set i o := by
          intro is
          induction is with
          | nil => intro _; rfl
          | cons k ks ih =>
            intro hk
            unfold wipe
            rw [ih fun z => hk (List.mem_cons_of_mem _ z), List.set_comm]
            rintro rfl
            exact hk List.mem_cons_self
        rw [this hm, List.set_set]
      · exact absurd h hm
theorem wipe_setAll {own : List Nat} : ∀ {is : List Nat} {vs : List V} {σ : L2.St}, (∀ i ∈ is, i ∈ own) → wipe (setAll is vs σ) own = wipe σ own
  | [], vs, σ, _ => rfl
  | _ :: _, [], σ, _ => rfl
  | i :: is, v :: vs, σ, h => by
    show wipe (setAll is vs (σ.set i (some v))) own = _
    rw [wipe_setAll fun j hj => h j (List.mem_cons_of_mem _ hj), wipe_set (h i List.mem_cons_self)]
theorem wipe_eq {σ : L2.St} {own : List Nat} (h : ∀ i ∈ own, i < σ.length → σ[i]? = some none) : wipe σ own = σ := by
  apply List.ext_getElem?
  intro j
  by_cases hj : j ∈ own
  · by_cases hl : j < σ.length
    · rw [wipe_in hj hl, h j hj hl]
    · rw [List.getElem?_eq_none_iff.mpr (by rw [wipe_length]; omega), List.getElem?_eq_none_iff.mpr (by omega)]
  · exact wipe_get hj
theorem wipe_wipe {σ : L2.St} {own : List Nat} : wipe (wipe σ own) own = wipe σ own := wipe_eq fun i hi hl => wipe_in hi (by rw [wipe_length] at hl; exact hl)
theorem no_mu {L : Fr} {G F H : Hp} {σ : L2.St} {e : Env} {p : Addr} (r : Rel X.K L G F H σ e) (hp : H p = none) : ∀ i, isMu e i → sg σ i ≠ some (.ref p) := by
  rintro i ⟨t, k, c, hi⟩ e1
  obtain ⟨a, e2, ⟨_, _, o, q3, _⟩, _⟩ := r.sl i _ hi
  rw [e1] at e2; cases e2
  rw [hp] at q3; cases q3
theorem wipe_mu {e e1 : Env} {is : List Nat} (h : wipeE e is = some e1) {j : Nat} (m : isMu e1 j) : j ∉ is ∧ isMu e j := by
  obtain ⟨h1, h2, h3⟩ := wipeE_set h
  obtain ⟨t, k, c, z⟩ := m
  by_cases hj : j ∈ is
  · rw [(h2 j hj).1] at z
    cases z
  · rw [h3 j hj] at z
    exact ⟨hj, t, k, c, z⟩
theorem sg_wipe {σ : L2.St} {is : List Nat} {j : Nat} (hj : j ∉ is) : sg (wipe σ is) j = sg σ j := by
  unfold sg List.getD
  rw [wipe_get hj]
theorem back_mu {e0 e e1 : Env} {is : List Nat} (hw : wipeE e0 is = some e1) (le : e.length = e0.length) {j : Nat} (m : isMu (backE e0 e is) j) : j ∉ is ∧ isMu e j := by
  obtain ⟨w1, w2, w3⟩ := wipeE_set hw
  obtain ⟨b1, b2, b3⟩ := backE_get (e₀ := e0) (is := is) (e := e)
  obtain ⟨t, k, c, z⟩ := m
  by_cases hj : j ∈ is
  · have hl : j < e0.length := by rw [← w1]; exact (List.getElem?_eq_some_iff.mp (w2 j hj).1).1
    rw [b3 j hj (by omega) hl] at z
    exact absurd ⟨t, k, c, z⟩ (w2 j hj).2
  · rw [b2 j hj] at z
    exact ⟨hj, t, k, c, z⟩
def W0 : WX := fun _ _ _ _ => False
theorem tr_ok {α β : Type} {c : Env → Res α} {P : Rl α β} {L : FrX X} {G F H : Hp} {σ : L2.St} {e e' : Env} {a : α} {Q : β → Hp → Prop} (r : Rel X.K L G F H σ e) (h : c e = .ok a e') (k : ∀ b F' H', Rel X.K L G F' H' σ e' → Step G F F' → P G F' H' σ e' a b → Q b H') : Tr X W c P σ H Q :=
  ⟨L, G, F, e, r, by rw [h]; exact k⟩
theorem tr_blk {α β : Type} {c : Env → Res α} {P : Rl α β} {σ : L2.St} {H H0 : Hp} {s : Shared} {scope : Scope} {cenv : PySem.Env} {fp : List Addr} {Q : β → Hp → Prop} (hc : X.calm = true) (q : Tr X W0 c P σ H Q) : Tr (X.blk s H0 scope cenv fp) W0 c P σ H Q := by
  obtain ⟨L, G, F, e, r, a⟩ := q
  refine ⟨⟨L.1, fun z => ?_⟩, G, F, e, r, ?_⟩
  · exact absurd (hc.symm.trans z) (by decide)
  · cases h : c e with
    | bad => rw [h] at a; exact a
    | ok b e1 => rw [h] at a; exact a
    | exc y e1 => rw [h] at a; exact a
/-- the tests of a clause -/
def tOfC (X : Cx) : Option (Env → Res Bool) → TT
  | none => tYes
  | some t => Tr X W0 t BOk
theorem tOfC_ok {c : Option (Env → Res Bool)} {L : FrX X} {G F H : Hp} {σ : L2.St} {e e' : Env} {a : Bool} {Q : Bool → Hp → Prop} (r : Rel X.K L G F H σ e) (h : tstC c e = .ok a e') (k : ∀ F' H', Rel X.K L G F' H' σ e' → Step G F F' → Q a H') : tOfC X c σ H Q := by
  cases c with
  | none =>
    cases h
    exact k F H r (Step.refl G F)
  | some t => exact tr_ok r h fun b F' H' r' st p => by cases p; exact k F' H' r' st
theorem Step.weak {G G' F F' : Hp} (gs : Same G G') (st : Step G' F F') : Step G F F' := ⟨st.s, fun a h => st.g a fun z => h (gs.free z)⟩
theorem getElem?_lt {α : Type} {l : List α} {i : Nat} {a : α} (h : l[i]? = some a) : i < l.length := (List.getElem?_eq_some_iff.mp h).1
/-- the loop of a comprehension -/
theorem lc_go {L : FrX X} {G F1 H1 : Hp} {σ : L2.St} {e2 : Env} {J : It} {nx : Nat → Env → Option (Option D)} {n : Nat} {own tg : List Nat} {pair : Bool} {c : Option (Env → Res Bool)} {x : Vc} {D0 : Addr} {Q : VK}
    (htg : ∀ i ∈ tg, i ∈ own) (hn : n ≤ sizeLine) (hD : H1 D0 = none) (rl : Rel X.K L G F1 H1 (wipe σ own) e2) (hu : ∀ i ∈ own, e2[i]? = some .un) (src : SrcN X L G F1 J nx)
    (done : Okp (fun ds e3 => ∀ F' H' vs, Rel X.K L G F' H' (wipe σ own) e3 → Step G F1 F' → F' D0 = none → H' D0 = some (.lst vs) → DpAll X.K F' vs ds → (∀ i, isMu e3 i → sg (wipe σ own) i ≠ some (.ref D0)) → (∀ i ∈ own, e3[i]? = some .un) → Q (.ref D0) H') (lcGoN (lcTurn own tg pair c x) nx n 0 e2)) :
    ∃ W : Nat → Nat → Hp → Prop, (∃ m, W 0 m (upd H1 D0 (.lst []))) ∧ ∀ i m H, W i m H →
      (J.stop i H ∧ Q (.ref D0) H) ∨ (J.go i H ∧ ∃ Nx : Hp → Prop, (∀ H', Nx H' → ∃ m', m' < m ∧ W (i + 1) m' H') ∧ ∀ y H', J.yld i H y H' → gOf X.K tg pair y (wipe σ own) H' fun σ2 H2 => wipe σ2 own = wipe σ own ∧ tOfC X c σ2 H2 fun b H3 =>
        if b = true then (Tr X W0 (vE x) (DOk X.K)) σ2 H3 fun y H4 => ∃ acc, H4 D0 = some (.lst acc) ∧ acc.length < sizeLine ∧ Nx (upd H4 D0 (.lst (acc ++ [y]))) else Nx H3) := by
  have gD : G D0 = none := rl.gh.free hD
  refine ⟨fun i m H => i + m = n ∧ ∃ F2 e vs acc, Rel X.K L G F2 H (wipe σ own) e ∧ Step G F1 F2 ∧ F2 D0 = none ∧ H D0 = some (.lst vs) ∧ DpAll X.K F2 vs acc ∧ (∀ i, isMu e i → sg (wipe σ own) i ≠ some (.ref D0)) ∧ (∀ i ∈ own, e[i]? = some .un) ∧ acc.length ≤ i ∧
    Okp (fun ds e3 => ∀ F' H' vs, Rel X.K L G F' H' (wipe σ own) e3 → Step G F1 F' → F' D0 = none → H' D0 = some (.lst vs) → DpAll X.K F' vs (acc ++ ds) → (∀ i, isMu e3 i → sg (wipe σ own) i ≠ some (.ref D0)) → (∀ i ∈ own, e3[i]? = some .un) → Q (.ref D0) H') (lcGoN (lcTurn own tg pair c x) nx m i e), ⟨n, by omega, F1, e2, [], [], rl.put hD, Step.refl G F1, rl.fh.free hD, upd_same, .nil, no_mu rl hD, hu, Nat.le_refl _, by simpa using done⟩, ?_⟩
  rintro i m H ⟨him, F2, e, vs, acc, r2, st2, f2, hD2, dv, nm, hu2, hlen, ok⟩
  cases m with
  | zero => obtain ⟨_, _, z, _⟩ := ok; cases z
  | succ m =>
    unfold lcGoN at ok
    have rg := r2.guard gD hD2 nm
    have gs : Same G (upd G D0 (.lst vs)) := same_upd gD
    cases hx : nx i e with
    | none => rw [hx] at ok; obtain ⟨_, _, z, _⟩ := ok; cases z
    | some o =>
      rw [hx] at ok
      cases o with
      | none =>
        obtain ⟨_, _, z, q⟩ := ok
        cases z
        have s1 := src G F2 H (wipe σ own) e i st2.s r2 (Same.refl G) none hx
        exact .inl ⟨s1, q F2 H vs r2 st2 f2 hD2 (by simpa using dv) nm hu2⟩
      | some d =>
        obtain ⟨g1, y1⟩ := src (upd G D0 (.lst vs)) F2 H (wipe σ own) e i st2.s rg gs (some d) hx
        refine .inr ⟨g1, _, fun H' w => ⟨m, Nat.lt_succ_self m, w⟩, fun y H' yl => ?_⟩
        obtain ⟨F3, r3, st3, dp3⟩ := y1 y H' yl
        have ok := ok.bind
        obtain ⟨oo, e5, ht, ok2⟩ := ok
        unfold lcTurn at ht
        cases hp : putT tg pair d e with
        | none => rw [hp] at ht; cases ht
        | some s1 =>
          rw [hp] at ht
          dsimp only at ht
          have ht : Okp (fun a b => a = oo ∧ b = e5) _ := ⟨oo, e5, ht, rfl, rfl⟩
          obtain ⟨k, s2, hk, ht⟩ := ht.noX.bind
          refine tg_state r3 dp3 hp fun ws r4 => ?_
          have hw : wipe (setAll tg ws (wipe σ own)) own = wipe σ own := by rw [wipe_setAll htg, wipe_wipe]
          refine ⟨hw, tOfC_ok r4 hk fun F5 H5 r5 st5 => ?_⟩
          -- the turn's end
          have fin : ∀ {F6 H6 : Hp} {s3 : Env}, Rel X.K L (upd G D0 (.lst vs)) F6 H6 (setAll tg ws (wipe σ own)) s3 → Step (upd G D0 (.lst vs)) F2 F6 → wipeE s3 own = some e5 → Rel X.K L G F6 H6 (wipe σ own) e5 ∧ Step G F1 F6 ∧ F6 D0 = none ∧ H6 D0 = some (.lst vs) ∧ (∀ i, isMu e5 i → sg (wipe σ own) i ≠ some (.ref D0)) ∧ ∀ i ∈ own, e5[i]? = some .un := by
            intro F6 H6 s3 r6 st6 hw6
            have r7 := r6.wipe hw6
            rw [hw] at r7
            obtain ⟨r8, h8, n8⟩ := r7.unguard gD r2.bg
            refine ⟨r8, st2.trans (st6.weak gs), ?_, h8, n8, fun i hi => ((wipeE_set hw6).2.1 i hi).1⟩
            rw [st6.g D0 (by rw [upd_same]; exact fun z => nomatch z)]
            exact f2
          cases k with
          | false =>
            rw [if_neg Bool.false_ne_true] at ht ⊢
            cases hw6 : wipeE s2 own with
            | none => rw [hw6] at ht; obtain ⟨_, _, z, _⟩ := ht; cases z
            | some s4 =>
              rw [hw6] at ht
              obtain ⟨_, _, z, rfl, rfl⟩ := ht
              cases z
              obtain ⟨q1, q2, q3, q4, q5, q6⟩ := fin r5 (st3.trans st5) hw6
              refine ⟨by omega, F5, s4, vs, acc, q1, q2, q3, q4, dps_mono (st3.trans st5).s dv, q5, q6, by omega, ?_⟩
              obtain ⟨ds, e3, h3, p3⟩ := ok2.bind
              obtain ⟨_, _, z, p3⟩ := p3
              cases z
              exact ⟨ds, e3, h3, p3⟩
          | true =>
            rw [if_pos rfl] at ht ⊢
            obtain ⟨d6, s3, hv, ht⟩ := ht.bind
            refine tr_ok r5 hv fun b F6 H6 r6 st6 p6 => ?_
            have p6 : Dp X.K F6 b d6 := p6
            cases hw6 : wipeE s3 own with
            | none => rw [hw6] at ht; obtain ⟨_, _, z, _⟩ := ht; cases z
            | some s4 =>
              rw [hw6] at ht
              obtain ⟨_, _, z, rfl, rfl⟩ := ht
              cases z
              obtain ⟨q1, q2, q3, q4, q5, q6⟩ := fin r6 ((st3.trans st5).trans st6) hw6
              refine ⟨vs, q4, by have := dps_len dv; omega, by omega, F6, s4, vs ++ [b], acc ++ [d6], q1.change gD q3 q5, q2, q3, upd_same, dps_app (dps_mono ((st3.trans st5).trans st6).s dv) (.cons p6 .nil), q5, q6, by simp; omega, ?_⟩
              obtain ⟨ds, e3, h3, p3⟩ := ok2.bind
              obtain ⟨_, _, z, p3⟩ := p3
              cases z
              refine ⟨ds, e3, h3, ?_⟩
              intro F' H' vs' h1 h2 h3 h4 h5 h6 h7
              refine p3 F' H' vs' h1 h2 h3 h4 ?_ h6 h7
              simpa [consO] using h5
/-- item k of what stands still -/
def vNx (ds : List D) : Nat → Env → Option (Option D) := fun k _ => if k ≤ ds.length then some ds[k]? else none
theorem src_vals {L : Fr} {G F H : Hp} {σ : L2.St} {e : Env} {ds : List D} {J : It} (h : SrcR X G F H σ e (.vals ds) J) : SrcN X L G F J (vNx ds) := by
  intro G' F' H' σ' e' k st r gs o ho
  obtain ⟨h1, h2, h3⟩ := h L G' F' H' σ' e' st r gs
  unfold vNx at ho
  split at ho
  · rename_i hle
    cases ho
    cases hk : ds[k]? with
    | none =>
      have e1 : k = ds.length := by have := List.getElem?_eq_none_iff.mp hk; omega
      subst e1
      exact h2
    | some d => exact ⟨h1 k (getElem?_lt hk), fun x H3 y => h3 k x H3 y d hk⟩
  · cases ho
theorem src_slotN {L : Fr} {G F H : Hp} {σ : L2.St} {e : Env} {i : Nat} {en : Bool} {a : Addr} {J : It} (h : SrcR X G F H σ e (.slot i en) J) (hs : sg σ i = some (.ref a)) (hL : L.l i = some a) : SrcN X L G F J (itemAt i en) := by
  intro G' F' H' σ' e' k st r gs o ho
  obtain ⟨b, h1, h2⟩ := h
  rw [hs] at h1
  cases h1
  exact h2 L G' F' H' σ' e' k hL r o ho
theorem lcGo_eq {turn : D → Env → Res (Option D)} {ds : List D} : ∀ {n k : Nat} {s : Env}, ds.length < n + k → k ≤ ds.length → lcGoN turn (vNx ds) n k s = lcGo turn (ds.drop k) s
  | 0, k, s, h, h2 => by omega
  | n + 1, k, s, h, h2 => by
    unfold lcGoN vNx
    rw [if_pos h2]
    by_cases hk : k < ds.length
    · have e1 : ds[k]? = some ds[k] := List.getElem?_eq_getElem hk
      rw [e1, List.drop_eq_getElem_cons hk]
      dsimp only
      unfold lcGo
      congr
      funext o e1
      have ih := lcGo_eq (turn := turn) (ds := ds) (n := n) (k := k + 1) (s := e1) (by omega) (by omega)
      unfold vNx at ih
      rw [ih]
    · have e1 : ds[k]? = none := List.getElem?_eq_none_iff.mpr (by omega)
      rw [e1, List.drop_eq_nil_of_le (by omega)]
      rfl
/-- a loop's slot, locked -/
def Fr.at (L : Fr) (i : Nat) (a : Addr) : Fr := ⟨fun j => if j = i then some a else L.l j, L.b, L.xa⟩
theorem at_ne {L : Fr} {i j : Nat} {a : Addr} (h : j ≠ i) : (L.at i a).l j = L.l j := if_neg h
theorem Rel.lock {L : Fr} {G F H : Hp} {σ : L2.St} {e e1 : Env} {i : Nat} (r : Rel X.K L G F H σ e) (h : lockE i e = some e1) : ∃ a, sg σ i = some (.ref a) ∧ Rel X.K (L.at i a) G F H σ e1 := by
  unfold lockE at h
  split at h
  · rename_i t k c he
    cases h
    obtain ⟨a, e1, ow, lk⟩ := r.sl i _ he
    have hi := getElem?_lt he
    have mus : ∀ {j : Nat}, isMu (e.set i (.mu t true c)) j → isMu e j := fun {j} ⟨t', k', c', z⟩ => by
      by_cases hj : i = j
      · subst hj; exact ⟨_, _, _, he⟩
      · rw [List.getElem?_set_ne hj] at z; exact ⟨_, _, _, z⟩
    refine ⟨a, e1, r.fh, r.gh, by rw [List.length_set]; exact r.len, fun j s hj => ?_, fun j m b hjm m1 m2 => r.ap j m b hjm (mus m1) (mus m2), r.bg⟩
    by_cases hij : i = j
    · subst hij
      rw [List.getElem?_set_self hi] at hj
      cases hj
      exact ⟨a, e1, ow, fun _ => by unfold Fr.at; simp⟩
    · rw [List.getElem?_set_ne hij] at hj
      have q := r.sl j s hj
      cases s with
      | un => trivial
      | fz d => exact q
      | bo d => exact q
      | xc x => (obtain ⟨a', C, dd, fs, x1, x2, x3, x4⟩ := q; exact ⟨a', C, dd, fs, x1, x2, x3, x4⟩)
      | mu t' k' c' =>
        obtain ⟨b, e2, q1, q2⟩ := q
        refine ⟨b, e2, q1, fun z => ?_⟩
        rw [at_ne (Ne.symm hij)]
        exact q2 z
  · cases h
theorem Rel.unlock {L : Fr} {G G0 F F0 H H0 : Hp} {σ σ0 : L2.St} {e0 e e4 : Env} {i : Nat} {a : Addr} (r0 : Rel X.K L G0 F0 H0 σ0 e0) (ha : sg σ0 i = some (.ref a)) (h : unlockE i e0 e = some e4) (r : Rel X.K (L.at i a) G F H σ e) : Rel X.K L G F H σ e4 ∧ ∀ j, isMu e4 j → isMu e j := by
  unfold unlockE at h
  split at h
  · rename_i t k c t' c' h0 h1
    split at h
    · rename_i htt
      subst htt
      cases h
      obtain ⟨a0, e1, _, lk⟩ := r0.sl i _ h0
      rw [ha] at e1; cases e1
      have hi := getElem?_lt h1
      have mus : ∀ {j : Nat}, isMu (e.set i (.mu t k c')) j → isMu e j := fun {j} ⟨t', k', c', z⟩ => by
        by_cases hj : i = j
        · subst hj; exact ⟨_, _, _, h1⟩
        · rw [List.getElem?_set_ne hj] at z; exact ⟨_, _, _, z⟩
      refine ⟨⟨r.fh, r.gh, by rw [List.length_set]; exact r.len, fun j s hj => ?_, fun j m b hjm m1 m2 => r.ap j m b hjm (mus m1) (mus m2), r.bg⟩, fun j => mus⟩
      by_cases hij : i = j
      · subst hij
        rw [List.getElem?_set_self hi] at hj
        cases hj
        obtain ⟨b, e2, ow, lk2⟩ := r.sl i _ h1
        have eb := lk2 (.inr rfl)
        unfold Fr.at at eb
        simp only [if_true] at eb
        cases eb
        exact ⟨a, e2, ow, lk⟩
      · rw [List.getElem?_set_ne hij] at hj
        have q := r.sl j s hj
        cases s with
        | un => trivial
        | fz d => exact q
        | bo d => exact q
        | xc x => (obtain ⟨a', C, dd, fs, x1, x2, x3, x4⟩ := q; exact ⟨a', C, dd, fs, x1, x2, x3, x4⟩)
        | mu t' k' c' =>
          obtain ⟨b, e2, q1, q2⟩ := q
          refine ⟨b, e2, q1, fun z => ?_⟩
          have q3 := q2 z
          rw [at_ne (Ne.symm hij)] at q3
          exact q3
    · cases h
  · cases h
/-- a clause's target, tests, piece, in the block's context -/
structure Blk (X : Cx) (W : WX) (scope : Scope) (tg : Expr) (is : List Nat) (pair : Bool) (ifs : List Expr) (c : Option (Env → Res Bool)) (elt : Expr) (x : Vc) : Prop where
  g : ∀ (s : Shared) (H : Hp) (C : Addr) (cl : List (Str × Addr)) (fp : List Addr), PG (X.blk s H scope (compEnvC scope cl C X.env) fp) tg (gOf X.K is pair)
  t : ∀ (s : Shared) (H : Hp) (C : Addr) (cl : List (Str × Addr)) (fp : List Addr), PTs (X.blk s H scope (compEnvC scope cl C X.env) fp) ifs (tOfC X c)
  e : ∀ (s : Shared) (H : Hp) (C : Addr) (cl : List (Str × Addr)) (fp : List Addr), PV (X.blk s H scope (compEnvC scope cl C X.env) fp) W0 elt x
theorem lc_read {w : Env → Res Src} {own is : List Nat} {pair : Bool} {c : Option (Env → Res Bool)} {x : Vc} {σ : L2.St} {H : Hp} {Q : VK} (his : ∀ i ∈ is, i ∈ own) (q : Tr X W (lcC own is pair w c x) (ROk X.K) σ H Q) :
    tLc (Tr X W w (SrcR X)) (gOf X.K is pair) (tOfC X c) (Tr X W0 (vE x) (DOk X.K)) own σ H Q := by
  obtain ⟨L, G, F, e, r, a⟩ := q
  refine ⟨L, G, F, e, r, (After.bind (P1 := SrcR X) a).mono fun J H1 z => ?_⟩
  obtain ⟨F1, e1, src, r1, st1, p1, a1⟩ := z
  intro D0 hD
  have turn_ne : ∀ d s y e, lcTurn own is pair c x d s ≠ .exc y e := fun d s y e => lcTurn_ne
  cases src with
  | vals ds =>
    dsimp only [lcRun] at a1
    cases hw : wipeE e1 own with
    | none => rw [hw] at a1; exact a1.elim
    | some e2 =>
      rw [hw] at a1
      dsimp only at a1
      split at a1
      · rename_i hb
        refine lc_go (L := L) (n := ds.length + 1) (nx := vNx ds) his (hb) hD (r1.wipe hw) (fun i hi => ((wipeE_set hw).2.1 i hi).1) (src_vals p1) ?_
        rw [lcGo_eq (by omega) (by omega), List.drop_zero]
        cases hg : lcGo (lcTurn own is pair c x) ds e2 with
        | bad => rw [hg] at a1; exact a1.elim
        | exc y e3 =>
          have := lcGo_eq (turn := lcTurn own is pair c x) (ds := ds) (n := ds.length + 1) (k := 0) (s := e2) (by omega) (by omega)
          rw [List.drop_zero, hg] at this
          exact absurd this (lcGoN_ne turn_ne)
        | ok ds' e3 =>
          rw [hg] at a1
          refine ⟨ds', e3, rfl, fun F' H' vs r3 st3 f3 hD3 dv nm hu => ?_⟩
          have le : e3.length = e1.length := by rw [← r3.len, wipe_length, r1.len]
          refine a1 (.ref D0) F' H' (r1.back hw r3 st3.s hu) st3 ⟨D0, rfl, ⟨f3, (r1.gh.free hD), _, hD3, dv⟩, fun i m => ?_⟩
          obtain ⟨m1, m2⟩ := back_mu hw le m
          rw [← sg_wipe m1]
          exact nm i m2
      · exact a1.elim
  | slot i en =>
    dsimp only [lcRun] at a1
    cases hl : lockE i e1 with
    | none => rw [hl] at a1; exact a1.elim
    | some e1' =>
      rw [hl] at a1
      dsimp only at a1
      obtain ⟨b, hs, r1'⟩ := r1.lock hl
      cases hw : wipeE e1' own with
      | none => rw [hw] at a1; exact a1.elim
      | some e2 =>
        rw [hw] at a1
        dsimp only at a1
        refine lc_go (L := (⟨L.1.at i b, L.2⟩ : FrX X)) (n := 1000000) (nx := itemAt i en) his (by decide) hD (r1'.wipe hw) (fun i hi => ((wipeE_set hw).2.1 i hi).1) (src_slotN p1 hs (by unfold Fr.at; simp)) ?_
        cases hg : lcGoN (lcTurn own is pair c x) (itemAt i en) 1000000 0 e2 with
        | bad => rw [hg] at a1; exact a1.elim
        | exc y e3 => exact absurd hg (lcGoN_ne turn_ne)
        | ok ds' e3 =>
          rw [hg] at a1
          refine ⟨ds', e3, rfl, fun F' H' vs r3 st3 f3 hD3 dv nm hu => ?_⟩
          rw [bind_ok] at a1
          cases hul : unlockE i e1 (backE e1' e3 own) with
          | none => rw [hul] at a1; exact a1.elim
          | some e4 =>
            rw [hul] at a1
            have le : e3.length = e1'.length := by rw [← r3.len, wipe_length, r1'.len]
            obtain ⟨r4, mu4⟩ := r1.unlock hs hul (r1'.back hw r3 st3.s hu)
            refine a1 (.ref D0) F' H' r4 st3 ⟨D0, rfl, ⟨f3, (r1.gh.free hD), _, hD3, dv⟩, fun i m => ?_⟩
            obtain ⟨m1, m2⟩ := back_mu hw le (mu4 i m)
            rw [← sg_wipe m1]
            exact nm i m2
variable {elt tgE iter : Expr} {ifs : List Expr} {scope : Scope} {own : List (Str × Nat)} {pos : Pos} {w : Env → Res Src} {is : List Nat} {pair : Bool} {c : Option (Env → Res Bool)} {x : Vc}
theorem pv_lc (hc : X.calm = true) (hN : X.N.Nodup) (hi : PIs X W tgE iter w) (ok : BlkOk X.N X.env.scope scope own) (his : ∀ i ∈ is, i ∈ own.map (·.2)) (hb : Blk X W scope tgE is pair ifs c elt x) (hs : ∀ x, foldedSetIterable iter X.env x = pure x) :
    PV X W (.ListComp elt [⟨tgE, iter, ifs, 0⟩] scope pos) (lcC (own.map (·.2)) is pair w c x) :=
  pe_imp (pe_lc hc hN hi ok hb.g hb.t (fun s H C cl fp => pe_imp (pv_e (hb.e s H C cl fp)) fun _ _ _ q => tr_blk hc q) hs) fun σ H Q q => lc_read his q
end
end Ev
set_option Elab.async false
set_option linter.all false
set_option maxHeartbeats 1000000
/-! Ev10: statements. -/
namespace Ev
open PySem PySem.Spec PyProof.Rows L2
/-- what holds behind a statement -/
def AfterS (X : Cx) (W : WX) (L : Fr) (G F : Hp) (E : Ends) : Res Fl → Prop
  | .bad => False
  | .ok .nx e => ∀ σ' F' H', Rel X.K L G F' H' σ' e → Step G F F' → E.nx σ' H'
  | .ok .br e => ∀ σ' F' H', Rel X.K L G F' H' σ' e → Step G F F' → E.bk σ' H'
  | .ok .ct e => ∀ σ' F' H', Rel X.K L G F' H' σ' e → Step G F F' → E.ct σ' H'
  | .ok (.rt r) e => ∀ v σ' F' H', Rel X.K L G F' H' σ' e → Step G F F' → ROk X.K G F' H' σ' e r v → E.rt v H'
  | .exc x e => ∀ c dd σ' F' H', Rel X.K L G F' H' σ' e → Step G F F' → XOk X.K X.mg F' H' x c dd → W c dd σ' H'
def TrS (X : Cx) (W : WX) (c : Sc) : TS := fun E σ H => ∃ (L : FrX X) (G F : Hp) (e : Env), Rel X.K L G F H σ e ∧ AfterS X W L G F E (c e)
section
variable {X : Cx} {W : WX} {L : Fr} {G F F1 H : Hp} {σ : L2.St} {E : Ends} {r : Res Fl} {γ δ : Type} {P1 : Rl γ δ} {e : Env}
theorem AfterS.step (h : AfterS X W L G F E r) (st : Step G F F1) : AfterS X W L G F1 E r := by
  cases r with
  | bad => exact h
  | exc x e => exact fun c dd σ' F' H' r1 s1 p => h c dd σ' F' H' r1 (st.trans s1) p
  | ok f e =>
    cases f with
    | nx => exact fun σ' F' H' r1 s1 => h σ' F' H' r1 (st.trans s1)
    | br => exact fun σ' F' H' r1 s1 => h σ' F' H' r1 (st.trans s1)
    | ct => exact fun σ' F' H' r1 s1 => h σ' F' H' r1 (st.trans s1)
    | rt q => exact fun v σ' F' H' r1 s1 p => h v σ' F' H' r1 (st.trans s1) p
/-- what is left behind an expression -/
def LeftS (X : Cx) (W : WX) {γ δ : Type} (L : Fr) (G F : Hp) (σ : L2.St) (P1 : Rl γ δ) (f : γ → Env → Res Fl) (E : Ends) : δ → Hp → Prop := fun b1 H1 =>
  ∃ F1 e1 a, Rel X.K L G F1 H1 σ e1 ∧ Step G F F1 ∧ P1 G F1 H1 σ e1 a b1 ∧ AfterS X W L G F1 E (f a e1)
theorem AfterS.bind {c : Res γ} {f : γ → Env → Res Fl} (h : AfterS X W L G F E (c.bind f)) : After X W L G F σ P1 (LeftS X W L G F σ P1 f E) c := by
  cases c with
  | bad => exact h
  | ok a e => exact fun b F' H' r1 st p => ⟨F', e, a, r1, st, p, AfterS.step h st⟩
  | exc x e => exact fun c dd F' H' r1 st p => h c dd σ F' H' r1 st p
theorem AfterS.ofO {o : Option γ} {f : γ → Env → Res Fl} (h : AfterS X W L G F E ((Ev.ofO o e).bind f)) : ∃ a, o = some a ∧ AfterS X W L G F E (f a e) := by
  cases o with
  | none => exact h.elim
  | some a => exact ⟨a, rfl, h⟩
theorem AfterS.fl {o : Option Env} (h : AfterS X W L G F E (Ev.fl o)) : ∃ e1, o = some e1 ∧ ∀ σ' F' H', Rel X.K L G F' H' σ' e1 → Step G F F' → E.nx σ' H' := by
  cases o with
  | none => exact h.elim
  | some e1 => exact ⟨e1, rfl, h⟩
abbrev PV1 (X : Cx) (W : WX) (s : Stmt) (c : Sc) : Prop := PS X s (TrS X W c)
abbrev PVS (X : Cx) (W : WX) (s : List Stmt) (c : Sc) : Prop := PSs X s (TrS X W c)
end
section
variable {X : Cx} {W : WX} {st : Stmt} {rest : List Stmt} {ex ea eb : Expr} {c ca cb : Vc} {pos pos' : Pos} {s1 s2 : Sc}
/-! ### blocks -/
theorem pz_nil : PVS X W [] (fun e => .ok .nx e) := pss_imp pss_nil fun D σ H q => by
  obtain ⟨L, G, F, e, r, a⟩ := q
  exact a σ F H r (Step.refl G F)
theorem seq_read {t : TS} (h : t = TrS X W s2) {D : Ends} {σ : L2.St} {H : Hp} (q : TrS X W (seqS s1 s2) D σ H) : tSeq (TrS X W s1) t D σ H := by
  subst h
  obtain ⟨L, G, F, e, r, a⟩ := q
  refine ⟨L, G, F, e, r, ?_⟩
  unfold seqS at a
  cases h1 : s1 e with
  | bad => rw [h1] at a; exact a
  | exc x e1 => rw [h1] at a; exact a
  | ok f e1 =>
    rw [h1] at a
    cases f with
    | nx => exact fun σ' F' H' r1 st => ⟨L, G, F', e1, r1, AfterS.step a st⟩
    | br => exact a
    | ct => exact a
    | rt q => exact a
theorem pz_cons (h : PV1 X W st s1) (ht : PVS X W rest s2) : PVS X W (st :: rest) (seqS s1 s2) := pss_imp (pss_cons h ht) fun D σ H q => seq_read rfl q
theorem pz_pass : PV1 X W (.Pass pos) (fun e => .ok .nx e) := ps_imp ps_pass fun D σ H q => by
  obtain ⟨L, G, F, e, r, a⟩ := q
  exact a σ F H r (Step.refl G F)
theorem pz_doc {x : Str} {j : Option String} : True := trivial
theorem pz_brk : PV1 X W (.Break pos) (fun e => .ok .br e) := ps_imp ps_break fun D σ H q => by
  obtain ⟨L, G, F, e, r, a⟩ := q
  exact a σ F H r (Step.refl G F)
theorem pz_cnt : PV1 X W (.Continue pos) (fun e => .ok .ct e) := ps_imp ps_continue fun D σ H q => by
  obtain ⟨L, G, F, e, r, a⟩ := q
  exact a σ F H r (Step.refl G F)
theorem pz_exp (h : PV X W ex c) (hs : swapsWith ex none pos.line X.env = pure false) : PV1 X W (.Expr ex pos) (expS c) := ps_imp (ps_expr h hs) fun D σ H q => by
  obtain ⟨L, G, F, e, r, a⟩ := q
  refine ⟨L, G, F, e, r, (AfterS.bind (P1 := ROk X.K) a).mono fun v H1 z => ?_⟩
  obtain ⟨F1, e1, rr, r1, st1, p1, a1⟩ := z
  exact a1 σ F1 H1 r1 (Step.refl G F1)
/-- a slot is let go -/
theorem Rel.drop {L : Fr} {G F H : Hp} {σ : L2.St} {e : Env} {i : Nat} (r : Rel X.K L G F H σ e) (hi : i < e.length) : Rel X.K L G F H σ (e.set i .un) ∧ ∀ j, isMu (e.set i .un) j → i ≠ j ∧ isMu e j := by
  have mm : ∀ {j : Nat}, isMu (e.set i .un) j → i ≠ j ∧ isMu e j := fun {j} ⟨t, k, c, z⟩ => by
    by_cases hj : i = j
    · subst hj
      rw [List.getElem?_set_self hi] at z
      cases z
    · rw [List.getElem?_set_ne hj] at z
      exact ⟨hj, t, k, c, z⟩
  refine ⟨⟨r.fh, r.gh, by rw [List.length_set]; exact r.len, fun j s hj => ?_, fun j k a hjk m1 m2 => r.ap j k a hjk (mm m1).2 (mm m2).2, r.bg⟩, fun j => mm⟩
  by_cases hij : i = j
  · subst hij
    rw [List.getElem?_set_self hi] at hj
    cases hj
    trivial
  · rw [List.getElem?_set_ne hij] at hj
    exact r.sl j s hj
theorem pz_ret (h : PV X W ex c) : PV1 X W (.Return (some ex) pos) (retS c) := ps_imp (ps_ret h) fun D σ H q => by
  obtain ⟨L, G, F, e, r, a⟩ := q
  refine ⟨L, G, F, e, r, (AfterS.bind (P1 := ROk X.K) a).mono fun v H1 z => ?_⟩
  obtain ⟨F1, e1, rr, r1, st1, p1, a1⟩ := z
  cases rr with
  | val d => exact a1 v σ F1 H1 r1 (Step.refl G F1) p1
  | fresh d => exact a1 v σ F1 H1 r1 (Step.refl G F1) p1
  | slot i =>
    dsimp only at a1
    split at a1
    · rename_i cc he
      obtain ⟨a, e2, ow, _⟩ := r1.sl i _ he
      have e3 : sg σ i = some v := p1
      rw [e2] at e3
      cases e3
      obtain ⟨r2, n2⟩ := r1.drop (getElem?_lt he)
      refine a1 (.ref a) σ F1 H1 r2 (Step.refl G F1) ⟨a, rfl, ow, fun j m => ?_⟩
      obtain ⟨n, m⟩ := n2 j m
      exact r1.ap i j a n ⟨_, _, _, he⟩ m e2
    · exact a1.elim
theorem pz_retN : PV1 X W (.Return none pos) (fun e => .ok (.rt (.val .none)) e) := ps_imp ps_retN fun D σ H q => by
  obtain ⟨L, G, F, e, r, a⟩ := q
  exact a .non σ F H r (Step.refl G F) .non
theorem pz_ite {ta : Env → Res Bool} {t f : List Stmt} (h : PB X W ex ta) (h1 : PVS X W t s1) (h2 : PVS X W f s2) : PV1 X W (.If ex t f pos) (iteS ta s1 s2) := ps_imp (ps_if h h1 h2) fun D σ H q => by
  obtain ⟨L, G, F, e, r, a⟩ := q
  refine ⟨L, G, F, e, r, (AfterS.bind (P1 := BOk) a).mono fun x H1 z => ?_⟩
  obtain ⟨F1, e1, k, r1, st1, p1, a1⟩ := z
  cases p1
  cases x with
  | true =>
    dsimp only at a1
    rw [if_pos rfl] at a1 ⊢
    exact ⟨L, G, F1, e1, r1, a1⟩
  | false =>
    dsimp only at a1
    rw [if_neg Bool.false_ne_true] at a1 ⊢
    exact ⟨L, G, F1, e1, r1, a1⟩
/-! ### names set -/
theorem Rel.setMu {L : Fr} {G F H : Hp} {σ : L2.St} {e : Env} {i : Nat} {a : Addr} {c : C} (r : Rel X.K L G F H σ e) (hi : i < e.length) (ow : Own X.K G F H a c) (n : ∀ j, isMu e j → sg σ j ≠ some (.ref a)) : Rel X.K L G F H (σ.set i (some (.ref a))) (e.set i (.mu false false c)) := by
  have hs : i < σ.length := by rw [r.len]; exact hi
  have mm : ∀ {j : Nat}, i ≠ j → isMu (e.set i (.mu false false c)) j → isMu e j := fun {j} hj ⟨t, k, c, z⟩ => by
    rw [List.getElem?_set_ne hj] at z
    exact ⟨t, k, c, z⟩
  refine ⟨r.fh, r.gh, by rw [List.length_set, List.length_set]; exact r.len, fun j s hj => ?_, fun j k b hjk m1 m2 => ?_, r.bg⟩
  · rw [set_getD hs]
    by_cases hij : i = j
    · subst hij
      rw [List.getElem?_set_self hi] at hj
      cases hj
      rw [if_pos rfl]
      exact ⟨a, rfl, ow, fun z => by rcases z with z | z <;> cases z⟩
    · rw [List.getElem?_set_ne hij] at hj
      rw [if_neg hij]
      exact r.sl j s hj
  · rw [set_getD hs, set_getD hs]
    by_cases hij : i = j
    · rw [if_pos hij]
      have hik : i ≠ k := fun z => hjk (hij.symm.trans z)
      rw [if_neg hik]
      intro e1 e2
      cases e1
      exact n k (mm hik m2) e2
    · rw [if_neg hij]
      by_cases hik : i = k
      · rw [if_pos hik]
        intro e1 e2
        cases e2
        exact n j (mm hij m1) e1
      · rw [if_neg hik]
        exact r.ap j k b hjk (mm hij m1) (mm hik m2)
theorem setV_some {i : Nat} {r : R} {e e1 : Env} (h : setV i r e = some e1) : i < e.length ∧ ((∃ d, r = .val d ∧ e1 = e.set i (.fz d)) ∨ ∃ c, r = .fresh c ∧ e1 = e.set i (.mu false false c)) := by
  unfold setV at h
  split at h
  · cases h
  · cases h
  · rename_i q
    refine ⟨getElem?_lt q, ?_⟩
    split at h
    · cases h; exact .inl ⟨_, rfl, rfl⟩
    · cases h; exact .inr ⟨_, rfl, rfl⟩
    · cases h
  · cases h
theorem setV_state {L : Fr} {G F H : Hp} {σ : L2.St} {e e1 : Env} {i : Nat} {r : R} {v : V} (rl : Rel X.K L G F H σ e) (p : ROk X.K G F H σ e r v) (h : setV i r e = some e1) : Rel X.K L G F H (σ.set i (some v)) e1 := by
  obtain ⟨hi, ⟨d, rfl, rfl⟩ | ⟨c, rfl, rfl⟩⟩ := setV_some h
  · exact rl.setFz hi p
  · obtain ⟨a, rfl, ow, n⟩ := p
    exact rl.setMu hi ow n
/-- vF's reading -/
theorem vF_read {L : Fr} {G F H : Hp} {σ : L2.St} {e : Env} {i : Nat} {E : Ends} {v : V} {r : R} (rl : Rel X.K L G F H σ e) (p : ROk X.K G F H σ e r v)
    (a : AfterS X W L G F E ((escS r e).bind fun r e1 => fl (setV i r e1))) : gName i v σ H E.nx := by
  cases r with
  | val d =>
    obtain ⟨e1, h, k⟩ := a.fl
    exact k _ F H (setV_state rl p h) (Step.refl G F)
  | fresh c =>
    obtain ⟨e1, h, k⟩ := a.fl
    exact k _ F H (setV_state rl p h) (Step.refl G F)
  | slot j =>
    cases hx : esc e (.slot j) with
    | bad => dsimp only [escS] at a; rw [hx] at a; exact a.elim
    | exc x e2 =>
      dsimp only [esc] at hx
      split at hx <;> cases hx
    | ok d e2 =>
      dsimp only [escS] at a
      rw [hx] at a
      obtain ⟨F2, r2, st2, p2⟩ := esc_at rl p hx
      obtain ⟨e1, h, k⟩ := a.fl
      exact k _ F2 H (setV_state (r := .val d) r2 p2 h) st2
theorem asg_read {i : Nat} {E : Ends} {σ : L2.St} {H : Hp} (q : TrS X W (asgS i c) E σ H) : Tr X W c (ROk X.K) σ H fun x H1 => gName i x σ H1 E.nx := by
  obtain ⟨L, G, F, e, r, a⟩ := q
  refine ⟨L, G, F, e, r, ?_⟩
  unfold asgS vF at a
  cases hc : c e with
  | bad => rw [hc] at a; exact a
  | exc x e1 =>
    rw [hc] at a
    exact fun c dd F' H' r1 st p => a c dd σ F' H' r1 st p
  | ok rr e1 =>
    rw [hc, bind_ok] at a
    intro v F' H' r1 st p
    exact vF_read r1 p (a.step st)
theorem pz_asg {i : Nat} {x : Str} {px : Pos} (hN : X.N.Nodup) (hi : X.N[i]? = some x) (hx : Loc X.env.scope x) (h : PV X W ex c) (hs : swapsWith ex (some (.Name x px)) pos.line X.env = pure false) (hf : X.fn x = true ∨ X.env.scope.names.lookup x = some .local) :
    PV1 X W (.Assign [.Name x px] ex pos) (asgS i c) := ps_imp (ps_set hN hi hx h hs hf) fun D σ H q => asg_read q
/-- name = [..] -/
theorem pz_asgLc {i : Nat} {y : Str} {py lpos spos : Pos} {elt tgE iter : Expr} {ifs : List Expr} {scope : Scope} {own : List (Str × Nat)} {w : Env → Res Src} {is : List Nat} {pair : Bool} {cc : Option (Env → Res Bool)} {x : Vc} (hc : X.calm = true) (hN : X.N.Nodup) (hy : X.N[i]? = some y) (hyl : X.env.scope.names.lookup y = some .local)
    (hsw : swapsWith (.ListComp elt [⟨tgE, iter, ifs, 0⟩] scope lpos) (some (.Name y py)) spos.line X.env = pure true) (hi : PIs X W tgE iter w) (ok : BlkOk X.N X.env.scope scope own) (his : ∀ i ∈ is, i ∈ own.map (·.2)) (hb : Blk X W scope tgE is pair ifs cc elt x) (hs : ∀ x, foldedSetIterable iter X.env x = pure x) :
    PV1 X W (.Assign [.Name y py] (.ListComp elt [⟨tgE, iter, ifs, 0⟩] scope lpos) spos) (asgS i (lcC (own.map (·.2)) is pair w cc x)) :=
  ps_imp (ps_setLc hc hN hy hyl hsw hi ok hb.g hb.t (fun s H C cl fp => pe_imp (pv_e (hb.e s H C cl fp)) fun _ _ _ q => tr_blk hc q) hs) fun D σ H q => lc_read his (asg_read q)
theorem pz_unp {tg : Expr} {is : List Nat} (hg : PG X tg (gOf X.K is true)) (h : PV X W ex c) (hs : swapsWithSole [tg] ex pos.line X.env = pure false) (hw : swappedStores [tg] ex X.env = pure none) (h1 : (assignEach [tg] X.env).map (·.2) = [assign tg X.env]) :
    PV1 X W (.Assign [tg] ex pos) (unpS is c) := ps_imp (ps_asg (pv_e h) hg hs hw h1) fun D σ H q => by
  obtain ⟨L, G, F, e, r, a⟩ := q
  refine ⟨L, G, F, e, r, (AfterS.bind (P1 := DOk X.K) a).mono fun v H1 z => ?_⟩
  obtain ⟨F1, e1, d, r1, st1, p1, a1⟩ := z
  obtain ⟨e2, h2, k⟩ := a1.fl
  exact tg_state r1 p1 h2 fun vs r2 => k _ F1 H1 r2 (Step.refl G F1)
theorem pz_par {i j : Nat} {x y : Str} {px py pt : Pos} {kt k2 : Nat} {pt2 : Pos} (hc : X.calm = true) (hN : X.N.Nodup) (hi : X.N[i]? = some x) (hj : X.N[j]? = some y) (hij : i ≠ j) (hx : X.env.scope.names.lookup x = some .local) (hy : X.env.scope.names.lookup y = some .local) (ha : PVs X W [ea, eb] [ca, cb])
    (hw : swappedStores [.Tuple [.Name x px, .Name y py] kt pt] (.Tuple [ea, eb] k2 pt2) X.env = pure (some [x, y])) :
    PV1 X W (.Assign [.Tuple [.Name x px, .Name y py] kt pt] (.Tuple [ea, eb] k2 pt2) pos) (parS i j ca cb) := ps_imp (ps_par hc hN hi hj hij hx hy (pa_es ha) hw rfl) fun D σ H q => by
  obtain ⟨L, G, F, e, r, a⟩ := q
  refine ⟨L, G, F, e, r, (AfterS.bind (P1 := DsR X.K) a).mono fun vs H1 z => ?_⟩
  obtain ⟨F1, e1, ds, r1, st1, p1, a1⟩ := z
  dsimp only at a1
  rw [if_neg hij] at a1
  obtain ⟨e2, h2, k⟩ := a1.fl
  obtain ⟨r2, l2⟩ := putAll_state r1 p1 h2
  obtain ⟨v, w, rfl⟩ : ∃ v w, vs = [v, w] := by
    cases vs with
    | nil => cases l2
    | cons v vs => cases vs with
      | nil => cases l2
      | cons w vs => cases vs with
        | nil => exact ⟨v, w, rfl⟩
        | cons _ _ => simp at l2
  exact ⟨v, w, rfl, k _ F1 H1 r2 (Step.refl G F1)⟩
theorem pz_par3 {i j l : Nat} {x y z : Str} {px py pz pt : Pos} {kt k2 : Nat} {pt2 : Pos} {ec : Expr} {cc : Vc} (hc : X.calm = true) (hN : X.N.Nodup) (hi : X.N[i]? = some x) (hj : X.N[j]? = some y) (hl : X.N[l]? = some z) (hij : i ≠ j) (hil : i ≠ l) (hjl : j ≠ l)
    (hx : X.env.scope.names.lookup x = some .local) (hy : X.env.scope.names.lookup y = some .local) (hz : X.env.scope.names.lookup z = some .local) (ha : PVs X W [ea, eb, ec] [ca, cb, cc])
    (hw : swappedStores [.Tuple [.Name x px, .Name y py, .Name z pz] kt pt] (.Tuple [ea, eb, ec] k2 pt2) X.env = pure (some [x, y, z])) :
    PV1 X W (.Assign [.Tuple [.Name x px, .Name y py, .Name z pz] kt pt] (.Tuple [ea, eb, ec] k2 pt2) pos) (par3S i j l ca cb cc) := ps_imp (ps_par3 hc hN hi hj hl hij hil hjl hx hy hz (pa_es ha) hw rfl) fun D σ H q => by
  obtain ⟨L, G, F, e, r, a⟩ := q
  refine ⟨L, G, F, e, r, (AfterS.bind (P1 := DsR X.K) a).mono fun vs H1 z => ?_⟩
  obtain ⟨F1, e1, ds, r1, st1, p1, a1⟩ := z
  dsimp only at a1
  rw [if_neg (by rintro (h | h | h) <;> contradiction)] at a1
  obtain ⟨e2, h2, k⟩ := a1.fl
  obtain ⟨r2, l2⟩ := putAll_state r1 p1 h2
  obtain ⟨u, v, w, rfl⟩ : ∃ u v w, vs = [u, v, w] := by
    cases vs with
    | nil => cases l2
    | cons u vs => cases vs with
      | nil => cases l2
      | cons v vs => cases vs with
        | nil => cases l2
        | cons w vs => cases vs with
          | nil => exact ⟨u, v, w, rfl⟩
          | cons _ _ => simp at l2
  exact ⟨u, v, w, rfl, k _ F1 H1 r2 (Step.refl G F1)⟩
/-- a slot's object is changed -/
theorem Rel.chg {L : Fr} {G F H : Hp} {σ : L2.St} {e : Env} {i : Nat} {t : Bool} {c c' : C} {a : Addr} {o : HO} (r : Rel X.K L G F H σ e) (he : e[i]? = some (.mu t false c)) (ha : sg σ i = some (.ref a)) (ho : Cr X.K F o c') : Rel X.K L G F (upd H a o) σ (e.set i (.mu t false c')) := by
  obtain ⟨b, e1, ⟨q1, q2, ob, q3, q4⟩, q5⟩ := r.sl i _ he
  rw [ha] at e1; cases e1
  have hi := getElem?_lt he
  have mm : ∀ {j : Nat}, isMu (e.set i (.mu t false c')) j → isMu e j := fun {j} ⟨t', k', c', z⟩ => by
    by_cases hj : i = j
    · subst hj; exact ⟨_, _, _, he⟩
    · rw [List.getElem?_set_ne hj] at z; exact ⟨_, _, _, z⟩
  refine ⟨fun b x q => ?_, fun b x q => ?_, by rw [List.length_set]; exact r.len, fun j s hj => ?_, fun j k b hjk m1 m2 => r.ap j k b hjk (mm m1) (mm m2), r.bg⟩
  · rw [upd_ne (ne_of_none q q1)]
    exact r.fh _ _ q
  · rw [upd_ne (ne_of_none q q2)]
    exact r.gh _ _ q
  · by_cases hij : i = j
    · subst hij
      rw [List.getElem?_set_self hi] at hj
      cases hj
      exact ⟨a, ha, ⟨q1, q2, o, upd_same, ho⟩, q5⟩
    · rw [List.getElem?_set_ne hij] at hj
      have q := r.sl j s hj
      cases s with
      | un => trivial
      | fz d => exact q
      | bo d => exact q
      | xc x => exact q
      | mu t' k' c2 =>
        obtain ⟨b, e2, ⟨p1, p2, ob2, p3, p4⟩, p5⟩ := q
        refine ⟨b, e2, ⟨p1, p2, ob2, ?_, p4⟩, p5⟩
        rw [upd_ne]
        · exact p3
        · rintro rfl
          exact r.ap i j b hij ⟨_, _, _, he⟩ ⟨_, _, _, hj⟩ ha e2
theorem muO_some {o : Option Sl} {p : Bool × C} (h : muO o = some p) : o = some (.mu p.1 false p.2) := by
  unfold muO at h
  split at h
  · cases h; rfl
  · cases h
theorem muL_some {o : Option Sl} {p : Bool × List D} (h : muL o = some p) : o = some (.mu p.1 false (.lst p.2)) := by
  unfold muL at h
  split at h
  · cases h; rfl
  · cases h
theorem var_slot {L : FrX X} {G F H : Hp} {σ : L2.St} {e : Env} {i : Nat} {p : Bool × C} {Q : V → Hp → Prop} (r : Rel X.K L G F H σ e) (h : muO e[i]? = some p) (k : ∀ a F' H', Rel X.K L G F' H' σ e → Step G F F' → sg σ i = some (.ref a) → Q (.ref a) H') : Tr X W (varC i) (ROk X.K) σ H Q := by
  have he := muO_some h
  obtain ⟨a, e1, ow, _⟩ := r.sl i _ he
  refine ⟨L, G, F, e, r, ?_⟩
  have : varC i e = .ok (.slot i) e := by unfold varC; rw [he]
  rw [this]
  intro v F' H' r' st p'
  have p' : sg σ i = some v := p'
  rw [e1] at p'
  cases p'
  exact k a F' H' r' st e1
theorem stoD_lst {c c' : C} {k d : D} (h : stoD c k d = some c') : ∃ xs n j, c = .lst xs ∧ k = .int n ∧ L2.ixN xs.length n = some j ∧ c' = .lst (xs.set j d) := by
  unfold stoD at h
  split at h
  · rename_i xs n
    cases hj : L2.ixN xs.length n with
    | none => rw [hj] at h; cases h
    | some j => rw [hj] at h; cases h; exact ⟨xs, n, j, rfl, rfl, hj, rfl⟩
  · cases h
theorem pz_sto {i : Nat} {xo : Expr} {ci cv : Vc} {ei ev : Expr} {tpos : Pos} (ho : PV X W xo (varC i)) (hi : PV X W ei ci) (hv : PV X W ev cv) (ha : ∀ v, assign (.Subscript xo ei tpos) X.env v = (do
      let ov ← holding [v] (eval xo X.env)
      let iv ← holding [v, ov] (eval ei X.env)
      standAt tpos
      holding [v, ov, iv] (setItem ov iv v)
      release [v, ov, iv] [])) (hs : swapsWithSole [.Subscript xo ei tpos] ev pos.line X.env = pure false) (hw : swappedStores [.Subscript xo ei tpos] ev X.env = pure none) (h1 : (assignEach [.Subscript xo ei tpos] X.env).map (·.2) = [assign (.Subscript xo ei tpos) X.env]) :
    PV1 X W (.Assign [.Subscript xo ei tpos] ev pos) (stoS i ci cv) := ps_imp (ps_asg (pv_e hv) (pg_sub ho (pv_e hi) set_list ha) hs hw h1) fun D σ H q => by
  obtain ⟨L, G, F, e, r, a⟩ := q
  refine ⟨L, G, F, e, r, (AfterS.bind (P1 := DOk X.K) a).mono fun v H1 z => ?_⟩
  obtain ⟨F1, e1, d, r1, st1, p1, a1⟩ := z
  obtain ⟨p0, hp0, a2⟩ := a1.ofO
  refine var_slot r1 hp0 fun ad F2 H2 r2 st2 hs2 => ?_
  refine ⟨L, G, F2, e1, r2, (AfterS.bind (P1 := DOk X.K) (a2.step st2)).mono fun y H3 z => ?_⟩
  obtain ⟨F3, e3, n, r3, st3, p3, a3⟩ := z
  obtain ⟨p, hp, a4⟩ := a3.ofO
  obtain ⟨c', hc', a5⟩ := a4.ofO
  obtain ⟨xs, m, j, hxs, rfl, hj, rfl⟩ := stoD_lst hc'
  have he := muO_some hp
  obtain ⟨b, e4, ⟨q1, q2, o, q3, q4⟩, _⟩ := r3.sl i _ he
  rw [hs2] at e4; cases e4
  rw [hxs] at q4
  cases o <;> first | exact (show False from q4).elim | skip
  rename_i vs
  have q4 : DpAll X.K F3 vs xs := q4
  have p3 : Dp X.K F3 y (.int m) := p3
  cases p3
  refine ⟨ad, vs, m, j, rfl, rfl, q3, by rw [dps_len q4]; exact hj, a5 σ F3 _ (r3.chg (c' := .lst (xs.set j d)) he hs2 ?_) (Step.refl G F3)⟩
  exact dps_set (dp_mono (st2.trans st3).s p1) j q4
theorem pz_app {i : Nat} {xo : Expr} {cv : Vc} {ev : Expr} {apos cpos : Pos} (ho : PV X W xo (varC i)) (hv : PV X W ev cv) (hsw : swapsWith (.Call (.Attribute xo "append" apos) [ev] [] cpos) none pos.line X.env = pure false)
    (hbase : attributeBase xo "append" X.env (eval xo X.env) = eval xo X.env)
    (hline : (apos.endLine == cpos.line) = true) (hst : starEach [ev] X.env = [(false, eval ev X.env)]) :
    PV1 X W (.Expr (.Call (.Attribute xo "append" apos) [ev] [] cpos) pos) (appS i cv) := by
  refine ps_imp (ps_expr (pe_bm F.plainAttrs_list ?_ ?_ mt_append ho (pa_cons (pv_e hv) pa_nil hst) hbase ?_ hline hst ?_) hsw) fun D σ H q => ?_
  · exact F.slot_list_append
  · exact F.type_list_append
  · rw [hst]; rfl
  · rfl
  obtain ⟨L, G, F, e, r, a⟩ := q
  obtain ⟨p0, hp0, a1⟩ := a.ofO
  have he0 := muL_some hp0
  refine var_slot r (p := (p0.1, .lst p0.2)) (by rw [he0]; rfl) fun ad F2 H2 r2 st2 hs2 => ?_
  obtain ⟨b, e4, ⟨q1, q2, o, q3, q4⟩, _⟩ := r2.sl i _ he0
  rw [hs2] at e4; cases e4
  refine ⟨.inl ⟨rfl, ?_⟩, ?_⟩
  · cases o <;> first | exact (show False from q4).elim | skip
    exact ⟨_, SqL.of q3⟩
  refine ⟨L, G, F2, e, r2, (AfterS.bind (P1 := DOk X.K) (a1.step st2)).mono fun y H3 z => ?_⟩
  obtain ⟨F3, e3, d, r3, st3, p3, a3⟩ := z
  obtain ⟨p, hp, a4⟩ := a3.ofO
  have he := muL_some hp
  obtain ⟨t, xs⟩ := p
  dsimp only at a4
  split at a4
  · rename_i hlt
    obtain ⟨b, e4, ⟨q1, q2, o, q3, q4⟩, _⟩ := r3.sl i _ he
    rw [hs2] at e4; cases e4
    cases o <;> first | exact (show False from q4).elim | skip
    rename_i vs
    have q4 : DpAll X.K F3 vs xs := q4
    refine ⟨ad, vs, y, rfl, rfl, q3, by rw [dps_len q4]; exact hlt, a4 σ F3 _ (r3.chg (c' := .lst (xs ++ [d])) he hs2 ?_) (Step.refl G F3)⟩
    exact dps_app q4 (.cons p3 .nil)
  · exact a4.elim
theorem pz_aug {i : Nat} {x : Str} {px : Pos} {op : Operator} (hN : X.N.Nodup) (hi : X.N[i]? = some x) (hx : Loc X.env.scope x) (h : PV X W ex c) (hop : op = .Add ∨ op = .Sub) (hf : X.fn x = true ∨ X.env.scope.names.lookup x = some .local) :
    PV1 X W (.AugAssign (.Name x px) op ex pos) (augS i op c) := by
  have main : ∀ (f : Int → Int → Int), (∀ a b, augI op a b = some (f a b)) → ∀ D σ H, TrS X W (augS i op c) D σ H → tAug i (Tr X W (vE c) (DOk X.K)) (ipI f) D σ H := by
    intro f hf D σ H q
    obtain ⟨L, G, F, e, r, a⟩ := q
    obtain ⟨n, hn, a1⟩ := a.ofO
    unfold fzI at hn
    split at hn
    · rename_i m he
      cases hn
      obtain ⟨v, e1, dv⟩ := r.sl i _ he
      cases dv
      refine ⟨.int n, sg_some e1, L, G, F, e, r, (AfterS.bind (P1 := DOk X.K) a1).mono fun y H3 z => ?_⟩
      obtain ⟨F3, e3, d, r3, st3, p3, a3⟩ := z
      obtain ⟨b, hb, a4⟩ := a3.ofO
      obtain ⟨z, hz, a5⟩ := a4.ofO
      rw [hf] at hz
      cases hz
      obtain ⟨e5, h5, k⟩ := a5.fl
      obtain ⟨r5, _⟩ := putAll_state (vs := [.int (f n b)]) r3 (.cons (.int _) .nil) h5
      have p3 : Dp X.K F3 y d := p3
      cases d <;> simp only [intD, reduceCtorEq, Option.some.injEq] at hb
      subst hb
      cases p3
      exact ⟨n, _, rfl, rfl, k _ F3 H3 r5 (Step.refl G F3)⟩
    · cases hn
  rcases hop with rfl | rfl
  · exact ps_imp (ps_aug hN hi hx (pv_e h) ip_add hf) (main _ fun _ _ => rfl)
  · exact ps_imp (ps_aug hN hi hx (pv_e h) ip_sub hf) (main _ fun _ _ => rfl)
/-! ### loops -/
theorem frGo_eq {turn : D → Sc} {ds : List D} : ∀ {n k : Nat} {s : Env}, ds.length < n + k → k ≤ ds.length → frGoN turn (vNx ds) n k s = frGo turn (ds.drop k) s
  | 0, k, s, h, h2 => by omega
  | n + 1, k, s, h, h2 => by
    unfold frGoN vNx
    rw [if_pos h2]
    by_cases hk : k < ds.length
    · have e1 : ds[k]? = some ds[k] := List.getElem?_eq_getElem hk
      rw [e1, List.drop_eq_getElem_cons hk]
      dsimp only
      unfold frGo
      congr
      funext f e1
      have ih := frGo_eq (turn := turn) (ds := ds) (n := n) (k := k + 1) (s := e1) (by omega) (by omega)
      unfold vNx at ih
      cases f <;> first | rfl | exact ih
    · have e1 : ds[k]? = none := List.getElem?_eq_none_iff.mpr (by omega)
      rw [e1, List.drop_eq_nil_of_le (by omega)]
      rfl
theorem off_read {L : Fr} {G F : Hp} {D : Ends} {r : Res Fl} (h : AfterS X W L G F D (offS r)) : AfterS X W L G F { D with bk := D.nx } r := by
  cases r with
  | bad => exact h
  | exc x e => exact h
  | ok f e => cases f <;> exact h
theorem unlk_read {L : Fr} {G G0 F F0 H0 : Hp} {σ0 : L2.St} {e0 : Env} {i : Nat} {a : Addr} {D : Ends} {r : Res Fl} (r0 : Rel X.K L G0 F0 H0 σ0 e0) (ha : sg σ0 i = some (.ref a)) (h : AfterS X W L G F D (unlkS i e0 r)) : AfterS X W (L.at i a) G F { D with bk := D.nx } r := by
  cases r with
  | bad => exact h
  | exc x e =>
    dsimp only [unlkS] at h
    cases hu : unlockE i e0 e with
    | none => rw [hu] at h; exact h.elim
    | some e1 =>
      rw [hu] at h
      exact fun c dd σ' F' H' r1 st p => h c dd σ' F' H' (r0.unlock ha hu r1).1 st p
  | ok f e =>
    dsimp only [unlkS] at h
    cases hu : unlockE i e0 e with
    | none => rw [hu] at h; exact h.elim
    | some e1 =>
      rw [hu] at h
      cases f with
      | nx => exact fun σ' F' H' r1 st => h σ' F' H' (r0.unlock ha hu r1).1 st
      | br => exact fun σ' F' H' r1 st => h σ' F' H' (r0.unlock ha hu r1).1 st
      | ct => exact fun σ' F' H' r1 st => h σ' F' H' (r0.unlock ha hu r1).1 st
      | rt q =>
        intro v σ' F' H' r1 st p
        obtain ⟨r2, mu2⟩ := r0.unlock ha hu r1
        refine h v σ' F' H' r2 st ?_
        cases q with
        | val d => exact p
        | slot j => exact p
        | fresh c =>
          obtain ⟨b, rfl, ow, n⟩ := p
          exact ⟨b, rfl, ow, fun j m => n j (mu2 j m)⟩
theorem fr_go {L : FrX X} {G F1 H1 : Hp} {σ1 : L2.St} {e1 : Env} {J : It} {nx : Nat → Env → Option (Option D)} {n : Nat} {tg : List Nat} {pair : Bool} {b : Sc} {D : Ends}
    (rl : Rel X.K L G F1 H1 σ1 e1) (src : SrcN X L G F1 J nx) (ok : AfterS X W L G F1 { D with bk := D.nx } (frGoN (frTurn tg pair b) nx n 0 e1)) :
    ∃ W' : Nat → Nat → L2.St → Hp → Prop, (∃ m, W' 0 m σ1 H1) ∧ ∀ i m σ H, W' i m σ H →
      (J.stop i H ∧ D.nx σ H) ∨ (J.go i H ∧ ∃ N : L2.St → Hp → Prop, (∀ σ' H', N σ' H' → ∃ m', m' < m ∧ W' (i + 1) m' σ' H') ∧ ∀ x H', J.yld i H x H' → gOf X.K tg pair x σ H' fun σ2 H2 => TrS X W b { D with nx := N, ct := N, bk := D.nx } σ2 H2) := by
  refine ⟨fun i m σ H => ∃ F2 e, Rel X.K L G F2 H σ e ∧ Step G F1 F2 ∧ AfterS X W L G F2 { D with bk := D.nx } (frGoN (frTurn tg pair b) nx m i e), ⟨n, F1, e1, rl, Step.refl G F1, ok⟩, ?_⟩
  rintro i m σ H ⟨F2, e, r2, st2, ok⟩
  cases m with
  | zero => exact ok.elim
  | succ m =>
    unfold frGoN at ok
    cases hx : nx i e with
    | none => rw [hx] at ok; exact ok.elim
    | some o =>
      rw [hx] at ok
      have s1 := src G F2 H σ e i st2.s r2 (Same.refl G) o hx
      cases o with
      | none => exact .inl ⟨s1, ok σ F2 H r2 (Step.refl G F2)⟩
      | some d =>
        obtain ⟨g1, y1⟩ := s1
        refine .inr ⟨g1, _, fun σ' H' w => ⟨m, Nat.lt_succ_self m, w⟩, fun y H' yl => ?_⟩
        obtain ⟨F3, r3, st3, dp3⟩ := y1 y H' yl
        unfold frTurn at ok
        cases hp : putT tg pair d e with
        | none => dsimp only at ok; rw [hp] at ok; exact ok.elim
        | some e5 =>
          dsimp only at ok
          rw [hp] at ok
          refine tg_state r3 dp3 hp fun ws r4 => ⟨L, G, F3, e5, r4, ?_⟩
          have ok := ok.step st3
          dsimp only at ok
          cases hb : b e5 with
          | bad => rw [hb] at ok; exact ok
          | exc x e6 => rw [hb] at ok; exact ok
          | ok f e6 =>
            rw [hb, bind_ok] at ok
            cases f with
            | nx => exact fun σ' F' H' r5 st5 => ⟨F', e6, r5, st2.trans (st3.trans st5), ok.step st5⟩
            | ct => exact fun σ' F' H' r5 st5 => ⟨F', e6, r5, st2.trans (st3.trans st5), ok.step st5⟩
            | br => exact ok
            | rt q => exact ok
theorem pz_fr {tgE iter : Expr} {is : List Nat} {pair : Bool} {w : Env → Res Src} {body : List Stmt} {b : Sc} (hp : PassesOwn (model X.prog X.w) X.A X.env X.xe) (hc : X.calm = true) (hi : PIs X W tgE iter w) (hg : PG X tgE (gOf X.K is pair)) (hb : PVS X W body b) (hs : ∀ x, foldedSetIterable iter X.env x = pure x) :
    PV1 X W (.For tgE iter body [] pos) (frS is pair w b) := ps_imp (ps_for hp hc hi hg hb hs) fun D σ H q => by
  obtain ⟨L, G, F, e, r, a⟩ := q
  refine ⟨L, G, F, e, r, (AfterS.bind (P1 := SrcR X) a).mono fun J H1 z => ?_⟩
  obtain ⟨F1, e1, src, r1, st1, p1, a1⟩ := z
  cases src with
  | vals ds =>
    dsimp only [frRun] at a1
    refine fr_go r1 (src_vals p1) (n := ds.length + 1) ?_
    rw [frGo_eq (by omega) (by omega), List.drop_zero]
    exact off_read a1
  | slot i en =>
    dsimp only [frRun] at a1
    cases hl : lockE i e1 with
    | none => rw [hl] at a1; exact a1.elim
    | some e1' =>
      rw [hl] at a1
      dsimp only at a1
      obtain ⟨ad, hs, r1'⟩ := r1.lock hl
      have a2 := unlk_read r1 hs a1
      have fin := fr_go (L := (⟨L.1.at _ _, L.2⟩ : FrX X)) r1' (src_slotN p1 hs (by unfold Fr.at; simp)) a2
      exact fin
theorem pz_whl {cond : Expr} {t : Env → Res Bool} {body : List Stmt} {b : Sc} (hp : PassesOwn (model X.prog X.w) X.A X.env X.xe) (hc : PB X W cond t) (hb : PVS X W body b) : PV1 X W (.While cond body [] pos) (whS t b) := ps_imp (ps_while hp hc hb) fun D σ H q => by
  obtain ⟨L, G, F, e, r, a⟩ := q
  refine ⟨fun m σ H => ∃ F2 e, Rel X.K L G F2 H σ e ∧ AfterS X W L G F2 D (whGo t b m e), ⟨1000000, F, e, r, a⟩, ?_⟩
  rintro m σ H ⟨F2, e, r2, ok⟩
  cases m with
  | zero => exact ok.elim
  | succ m =>
    unfold whGo at ok
    refine ⟨L, G, F2, e, r2, (AfterS.bind (P1 := BOk) ok).mono fun k H1 z => ?_⟩
    obtain ⟨F3, e3, k', r3, st3, p3, a3⟩ := z
    cases p3
    cases k with
    | false =>
      dsimp only at a3
      rw [if_neg Bool.false_ne_true] at a3 ⊢
      exact a3 σ F3 H1 r3 (Step.refl G F3)
    | true =>
      dsimp only at a3
      rw [if_pos rfl] at a3 ⊢
      refine ⟨_, fun σ' H' w => ⟨m, Nat.lt_succ_self m, w⟩, L, G, F3, e3, r3, ?_⟩
      cases hb : b e3 with
      | bad => rw [hb] at a3; exact a3
      | exc x e6 => rw [hb] at a3; exact a3
      | ok f e6 =>
        rw [hb, bind_ok] at a3
        cases f with
        | nx => exact fun σ' F' H' r5 st5 => ⟨F', e6, r5, a3.step st5⟩
        | ct => exact fun σ' F' H' r5 st5 => ⟨F', e6, r5, a3.step st5⟩
        | br => exact a3
        | rt q => exact a3
end
end Ev
set_option Elab.async false
set_option linter.all false
set_option maxHeartbeats 1000000
/-! Ev11: backwards. -/
namespace Ev
open PySem PySem.Spec PyProof.Rows L2 HT
section
variable {prog : Program} {w : World} {A : Around} {E : Value → Shared → Prop} {s : Shared}
theorem applied_rev {sl : Addr} {vl vu vs : Value} {n : Nat} {Q : Int × Int × Nat → Shared → Prop} (hs : s.heap.IsSliceOf sl vl vu vs) (pl : IsPart vl none) (pu : IsPart vu none) (ps : IsPart vs (some (-1)))
    (h : Q ((n : Int) - 1, -1, n) s) : wpAny (model prog w) A (Builtin.Slice.sliceApplied (.ref sl) (pure (n : Int))) Q E s := by
  obtain ⟨os, hos, hcs, hds⟩ := id hs
  unfold Builtin.Slice.sliceApplied Builtin.Slice.sliceFields
  refine wpAny_bind (wpAny_bind (wpAny_field hos hds (x := vl) rfl (wpAny_bind (wpAny_field hos hds (x := vu) rfl (wpAny_bind (wpAny_field hos hds (x := vs) rfl (wpAny_pure ?_)))))))
  refine wpAny_bind (slicePart_ ps ?_)
  show wpAny _ _ (if ((-1 : Int) == 0) = true then _ else _) _ _ s
  rw [if_neg (by decide)]
  refine wpAny_bind (slicePart_ pl (wpAny_bind (slicePart_ pu (wpAny_bind (wpAny_pure ?_)))))
  have e1 : Builtin.Slice.sliceAdjust none none (-1) (n : Int) = ((n : Int) - 1, -1) := by
    unfold Builtin.Slice.sliceAdjust
    rfl
  have e2 : Builtin.Slice.slicePlaces ((n : Int) - 1) (-1) (-1) = n := by
    unfold Builtin.Slice.slicePlaces
    have h1 : ¬ ((-1 : Int) > 0) := by omega
    rw [if_neg h1]
    split
    · rename_i h2
      have : (((n : Int) - 1 - (-1) - 1) / (-(-1))) = (n : Int) - 1 := by
        rw [show (-(-1 : Int)) = 1 from rfl, Int.ediv_one]
        omega
      rw [this]
      omega
    · omega
  show wpAny _ _ (match Builtin.Slice.sliceAdjust none none (-1) (n : Int) with | (lo, hi) => pure (lo, (-1 : Int), Builtin.Slice.slicePlaces lo hi (-1))) _ _ s
  rw [e1]
  show wpAny _ _ (pure ((n : Int) - 1, (-1 : Int), Builtin.Slice.slicePlaces ((n : Int) - 1) (-1) (-1))) _ _ s
  rw [e2]
  exact wpAny_pure h
theorem pick_back (xs : Array Value) : ((List.range xs.size).filterMap fun (m : Nat) => xs[(((xs.size : Int) - 1) + (m : Int) * (-1)).toNat]?).toArray = xs.toList.reverse.toArray := by
  have e : ((List.range xs.size).filterMap fun (m : Nat) => xs[(((xs.size : Int) - 1) + (m : Int) * (-1)).toNat]?) = (List.range xs.size).filterMap fun m => xs[xs.size - 1 - m]? := by
    have : (fun (m : Nat) => xs[(((xs.size : Int) - 1) + (m : Int) * (-1)).toNat]?) = fun m => xs[xs.size - 1 - m]? := by
      funext m
      have : (((xs.size : Int) - 1) + (m : Int) * (-1)).toNat = xs.size - 1 - m := by omega
      rw [this]
    rw [this]
  rw [e]
  have e2 : ((List.range xs.size).filterMap fun m => xs[xs.size - 1 - m]?) = ((List.range xs.size).map fun k => xs.size - 1 - k).filterMap (xs[·]?) := by
    rw [List.filterMap_map]
    rfl
  rw [e2, PySem.W.krv_range, List.filterMap_reverse, PySem.W.krv_all]
theorem tuple_back {t sl : Addr} {items : Array Value} {vl vu vs : Value} {Q : Value → Shared → Prop} (ht : IsTup s.heap t items) (hs : s.heap.IsSliceOf sl vl vu vs) (pl : IsPart vl none) (pu : IsPart vu none) (ps : IsPart vs (some (-1)))
    (h : Q (.ref s.heap.objs.size) { s with heap := s.heap.push { cls := .type "tuple", data := .seq items.toList.reverse.toArray } })
    (hsz : items.size ≤ sizeLine) : wpAny (model prog w) A (getItem (.ref t) (.ref sl)) Q E s := by
  have htake : sizeOk (.seq items.toList.reverse.toArray) := by
    show items.toList.reverse.toArray.size ≤ sizeLine
    rw [List.size_toArray, List.length_reverse, Array.length_toList]
    exact hsz
  obtain ⟨os, hos, hcs, hds⟩ := id hs
  have hTs : s.TypeIs (.ref sl) "slice" := ⟨os, hos, hcs⟩
  unfold getItem
  try with_reducible refine wpAny_holding ?_
  first | refine wpAny_bind (wpAny_pure ?_) | skip
  refine wpAny_bind (wpAny_sequenceKey ht.typeIs (by decide) ?_)
  refine wpAny_bind (wpAny_callSpecial?_slot (name := Str.ofString "__getitem__") ht.typeIs PyProof.Rows.slot_tuple_getitem
    (wpAny_call_entry PyProof.Rows.slot_tuple_getitem ht.typeIs entry_tuple_getitem ?_ (args_tuple_getitem _ _)))
  show wpAny _ _ (Builtin.Tuple.tupleItemsOf (.ref t) >>= _) _ _ s
  refine wpAny_bind (tupleItemsOf_ ht ?_)
  refine wpAny_bind (wpAny_typeOf hTs ?_)
  rw [if_pos (by decide)]
  refine wpAny_bind (applied_rev (n := items.size) hs pl pu ps ?_)
  have hno : ¬ ((((items.size : Int) - 1) == 0 && (-1 : Int) == 1 && items.size == items.size) = true) := by
    rw [show ((-1 : Int) == 1) = false from rfl, Bool.and_false, Bool.false_and]
    exact Bool.false_ne_true
  show wpAny _ _ (if ((((items.size : Int) - 1) == 0 && (-1 : Int) == 1 && items.size == items.size) = true) then _ else _) _ _ s
  rw [if_neg hno, pick_back]
  first
    | exact wpAny_bind (m := Builtin.Tuple.tupleExact _) (wpAny_newObj_type (wpAny_pure ⟨_, rfl, wpAny_pure h⟩) htake)
    | exact wpAny_bind (m := Builtin.Tuple.tupleExact _) (wpAny_newObj_type (wpAny_bind (wpAny_pure (wpAny_pure ⟨_, rfl, wpAny_pure h⟩))) htake)
    | exact wpAny_bind (wpAny_bind (m := Builtin.Tuple.tupleExact _) (wpAny_newObj_type (wpAny_pure (wpAny_pure ⟨_, rfl, wpAny_pure h⟩)) htake))
    | exact wpAny_bind (wpAny_bind (m := Builtin.Tuple.tupleExact _) (wpAny_newObj_type (wpAny_pure ⟨_, rfl, wpAny_pure h⟩) htake))
end
section
variable {X : Cx} {W : WX} {ea : Expr} {ca : Vc}
/-- what stands in the heap, by any of the roads -/
theorem ar_lst2 {K : PySem.W.Frag} {F H : Hp} {v : V} {ds : List D} (fh : Same F H) (h : Ar K F H v (.list ds)) : ∃ a xs, v = .ref a ∧ SqL K H a xs ∧ DpAll K F xs ds := by
  rcases h with h | ⟨a, xs, ds', rfl, e, h1, h2⟩
  · cases h with
    | lst h1 h2 => exact ⟨_, _, rfl, fh.seq h1, h2⟩
  · cases e
    exact ⟨a, xs, rfl, h1, h2⟩
/-- xs[::-1] of a list or a tuple -/
def tRevA (K : PySem.W.Frag) (te : TE) : TE := fun σ H Q => te σ H fun x H1 => ∃ a xs, x = .ref a ∧ ((SqL K H1 a xs ∧ ∀ p, H1 p = none → Q (.ref p) (upd H1 p (.lst xs.reverse))) ∨ (SqT K H1 a xs ∧ ∀ p, H1 p = none → Q (.ref p) (upd H1 p (.tup xs.reverse))))
theorem pe_revA {te : TE} {k : Nat} {p1 p2 p3 pos : Pos} (he : PE X ea te) : PE X (.Subscript ea (.Slice none none (some (.UnaryOp .USub (.Constant (.int 1) k p1) p2)) p3) pos) (tRevA X.K te) := by
  refine ⟨fun pins s σ H Q I h => Subscript_ (thn (he.run pins s σ H _ I h) fun v s1 ⟨x, H1, I1, r1, q1⟩ => ?_)⟩
  obtain ⟨a, xs, ex, q⟩ := q1
  subst ex
  cases r1
  have hst : PO X (some (.UnaryOp .USub (.Constant (.int 1) k p1) p2)) (tPart (tUn (rU fun i => .int (-i)) (tC (.int 1)))) := po_some (pe_un un_neg pe_int)
  refine wpAny_Slice (thn (po_none.run pins s1 σ H1 (fun o H2 => o = none ∧ H2 = H1) I1 ⟨rfl, rfl⟩) fun vl s2 ⟨l, H2, I2, pl, el, e2⟩ => ?_)
  subst el e2
  refine thn (po_none.run pins s2 σ H2 (fun o H3 => o = none ∧ H3 = H2) I2 ⟨rfl, rfl⟩) fun vu s3 ⟨u, H3, I3, pu, eu, e3⟩ => ?_
  subst eu e3
  refine thn (hst.run pins s3 σ H3 (fun o H4 => o = some (-1) ∧ H4 = H3) I3 ⟨1, rfl, -1, rfl, rfl, rfl⟩) fun vs s4 ⟨o, H4, I4, ps, eo, e4⟩ => ?_
  subst eo e4
  have I5 : Inv X pins σ H4 { s4 with heap := s4.heap.push { cls := .type "slice", data := .fields #[vl, vu, vs] } } := I4.kept (t' := s4.toks) fun b ob q => Heap.get?_push_of_some _ q
  show wpAny (model X.prog X.w) X.A (subscriptTail ea (.Slice none none (some (.UnaryOp .USub (.Constant (.int 1) k p1) p2)) p3) (.ref a) (.ref s4.heap.objs.size)) (EP X pins σ Q) X.xe { s4 with heap := s4.heap.push { cls := .type "slice", data := .fields #[vl, vu, vs] } }
  rcases q with ⟨hx, q⟩ | ⟨hx, q⟩
  · obtain ⟨its, r, ht, hz⟩ := I5.list hx
    have hlen := r.length
    refine tail_any (ops := [.ref a, .ref s4.heap.objs.size]) ht.isList.typeIs (PySem.slot_list_getitem.lookup) ?_ (by with_unfolding_all rfl)
    refine wpAny_getItem_list_slice ht.isList (Heap.IsSliceOf.new _ vl vu vs) pl pu ps (by decide) ?_ (by rw [List.size_toArray]; omega)
    rw [PySem.W.krv_pick]
    refine ⟨.ref _, _, I5.laid (t' := s4.toks) (o := .lst xs.reverse) (fun b ob q => Heap.get?_push_of_some _ q) (Nat.le_refl _) ?_, rfl, q _ (I5.hok.fresh (Nat.le_refl _))⟩
    exact ⟨by rw [List.length_reverse]; exact hz, _, 0, r.reverse, Heap.get?_push_size _ rfl⟩
  · obtain ⟨its, r, ht, hz⟩ := I5.tuple hx
    have hlen := r.length
    refine tail_any (ops := [.ref a, .ref s4.heap.objs.size]) ht.typeIs (PyProof.Rows.slot_tuple_getitem.lookup) ?_ (by with_unfolding_all rfl)
    refine tuple_back ht (Heap.IsSliceOf.new _ vl vu vs) pl pu ps ?_ (by rw [List.size_toArray]; omega)
    refine ⟨.ref _, _, I5.laid (t' := s4.toks) (o := .tup xs.reverse) (fun b ob q => Heap.get?_push_of_some _ q) (Nat.le_refl _) ?_, rfl, q _ (I5.hok.fresh (Nat.le_refl _))⟩
    exact ⟨by rw [List.length_reverse]; exact hz, _, r.reverse, IsTup.new _ _⟩
theorem pv_rev {k : Nat} {p1 p2 p3 pos : Pos} (h : PV X W ea ca) : PV X W (.Subscript ea (.Slice none none (some (.UnaryOp .USub (.Constant (.int 1) k p1) p2)) p3) pos) (revC ca) :=
  pe_imp (pe_revA (pv_d h)) fun σ H Q q => by
    obtain ⟨L, G, F, e, r, a⟩ := q
    refine ⟨L, G, F, e, r, (After.bind (P1 := AOk X.K) a).mono fun x H1 z => ?_⟩
    obtain ⟨F1, e1, d, r1, st1, p1, a1⟩ := z
    obtain ⟨rr, hr, a2⟩ := a1.ofO'
    have p1 : Ar X.K F1 H1 x d := p1
    cases d <;> simp only [revD, reduceCtorEq, Option.some.injEq] at hr
    · rename_i ds
      subst hr
      obtain ⟨ad, xs, rfl, h1, h2⟩ := ar_lst2 r1.fh p1
      refine ⟨ad, xs, rfl, .inl ⟨h1, fun p hp => ?_⟩⟩
      obtain ⟨r2, o2⟩ := fresh_put r1 hp (dps_rev h2)
      exact a2 (.ref p) _ _ r2 (Step.refl G F1) o2
    · rename_i ds
      subst hr
      obtain ⟨ad, xs, rfl, h1, _, h2⟩ := ar_tup r1.fh p1
      refine ⟨ad, xs, rfl, .inr ⟨h1, fun p hp => ?_⟩⟩
      obtain ⟨r2, st2⟩ := r1.lay (o := .tup xs.reverse) hp
      exact a2 (.ref p) _ _ r2 st2 (.tup (SqT.of upd_same) (dps_mono st2.s (dps_rev h2)))
end
end Ev
set_option Elab.async false
set_option linter.all false
set_option maxHeartbeats 1000000
/-! Ev11x: dicts, calls with names. -/
namespace Ev
open PySem PySem.Spec PyProof.Rows L2
theorem kv_get {K : PySem.W.Frag} {F : Hp} {k : Str} : ∀ {kvs : List (Key × V)} {ds : List (Str × D)} {d : D}, KvOk K F kvs ds → keyD ds k = some d → ∃ v, valV kvs (.inr k) = some v ∧ Dp K F v d
  | _, _, d, .nil, h => by cases h
  | _, _, d, @KvOk.cons _ _ j v d0 r s h t, hk => by
    unfold keyD at hk
    rw [List.find?_cons] at hk
    by_cases e : j = k
    · subst e
      simp only [decide_true, Option.map_some, Option.some.injEq] at hk
      subst hk
      exact ⟨v, valV_pos rfl, h⟩
    · simp only [e, decide_false] at hk
      obtain ⟨w, h1, h2⟩ := kv_get t hk
      exact ⟨w, by rw [valV_neg (fun z => e (Sum.inr.inj z))]; exact h1, h2⟩
theorem kv_any {K : PySem.W.Frag} {F : Hp} {k : Str} {kvs : List (Key × V)} {ds : List (Str × D)} (h : KvOk K F kvs ds) : (kvs.any fun kv => decide (kv.1 = .inr k)) = ds.any fun p => decide (p.1 = k) := by
  induction h with
  | nil => rfl
  | cons h t ih =>
    rw [List.any_cons, List.any_cons, ih]
    congr 1
    simp
theorem kv_map {K : PySem.W.Frag} {F : Hp} {k : Str} {v : V} {d : D} (hv : Dp K F v d) {kvs : List (Key × V)} {ds : List (Str × D)} (h : KvOk K F kvs ds) : KvOk K F (kvs.map fun kv => if kv.1 = .inr k then (kv.1, v) else kv) (ds.map fun p => if p.1 = k then (p.1, d) else p) := by
  induction h with
  | nil => exact .nil
  | @cons j w e r s h t ih =>
    rw [List.map_cons, List.map_cons]
    by_cases hj : j = k
    · subst hj
      rw [if_pos rfl, if_pos rfl]
      exact .cons hv ih
    · rw [if_neg (fun z => hj (Sum.inr.inj z)), if_neg hj]
      exact .cons h ih
theorem kv_put {K : PySem.W.Frag} {F : Hp} {k : Str} {v : V} {d : D} (hv : Dp K F v d) {kvs : List (Key × V)} {ds es : List (Str × D)} (h : KvOk K F kvs ds) (hp : putD ds k d = some es) : KvOk K F (putK kvs (.inr k) v) es := by
  unfold putD at hp
  split at hp
  · rename_i c
    cases hp
    unfold putK
    rw [if_pos (by rw [kv_any h]; exact c)]
    exact kv_map hv h
  · cases hp
theorem kv_len {K : PySem.W.Frag} {F : Hp} {kvs : List (Key × V)} {ds : List (Str × D)} (h : KvOk K F kvs ds) : kvs.length = ds.length := by
  induction h with
  | nil => rfl
  | cons _ _ ih => simp [ih]
theorem dctO_some {c : C} {kvs : List (Str × D)} (h : dctO c = some kvs) : c = .dct kvs ∧ kvs.length ≤ 15 := by
  cases c with
  | lst _ => cases h
  | dct q =>
    have h : (if q.length ≤ 15 then some q else none) = some kvs := h
    split at h
    · rename_i hl
      cases h
      exact ⟨rfl, hl⟩
    · cases h
section
variable {X : Cx} {W : WX} {xo : Expr} {pos : Pos}
theorem pv_dg {i : Nat} {k : String} {j : Nat} {p : Pos} (hu : X.A.units + 100 < cLine) (ho : PV X W xo (varC i)) : PV X W (.Subscript xo (.Constant (.str (T k)) j p) pos) (dgC i k) :=
  pe_imp (pe_dget (by omega) ho pe_str fun _ _ => rfl) fun σ H Q q => by
    obtain ⟨L, G, F, e, r, a⟩ := q
    unfold dgC at a
    split at a
    · rename_i t l kvs he
      obtain ⟨d, hd, a1⟩ := a.ofO
      obtain ⟨ad, e1, _⟩ := r.sl i _ he
      refine ⟨L, G, F, e, r, ?_⟩
      have ev : varC i e = .ok (.slot i) e := by unfold varC; rw [he]
      rw [ev]
      intro v F' H' r' st p'
      have p' : sg σ i = some v := p'
      rw [e1] at p'
      cases p'
      obtain ⟨b, e2, ⟨_, _, o, q3, q4⟩, _⟩ := r'.sl i _ he
      rw [e1] at e2; cases e2
      cases o <;> first | exact (show False from q4).elim | skip
      obtain ⟨w, h1, h2⟩ := kv_get q4 hd
      exact ⟨ad, w, rfl, by rw [← h1]; exact DGet.k (k := .inr (T k)) q3, a1 w F' H' r' st h2⟩
    · exact a.elim
theorem pz_dst {i : Nat} {k : String} {j : Nat} {p tp : Pos} {ev : Expr} {cv : Vc} (hu : X.A.units + 100 < cLine) (ho : PV X W xo (varC i)) (hv : PV X W ev cv) (hs : swapsWith ev (some (.Subscript xo (.Constant (.str (T k)) j p) tp)) pos.line X.env = pure false) :
    PV1 X W (.Assign [.Subscript xo (.Constant (.str (T k)) j p) tp] ev pos) (dstS i k cv) := ps_imp (ps_dput (by omega) ho pe_str (pv_e hv) hs) fun D σ H q => by
  obtain ⟨L, G, F, e, r, a⟩ := q
  refine ⟨L, G, F, e, r, (AfterS.bind (P1 := DOk X.K) a).mono fun v H1 z => ?_⟩
  obtain ⟨F1, e1, d, r1, st1, p1, a1⟩ := z
  obtain ⟨p0, hp0, a2⟩ := a1.ofO
  obtain ⟨kvs, hk, a3⟩ := a2.ofO
  obtain ⟨es, hes, a4⟩ := a3.ofO
  obtain ⟨hk, hlen⟩ := dctO_some hk
  have he := muO_some hp0
  rw [hk] at he
  refine var_slot r1 hp0 fun ad F2 H2 r2 st2 hs2 => ?_
  obtain ⟨b, e4, ⟨q1, q2, o, q3, q4⟩, _⟩ := r2.sl i _ he
  rw [hs2] at e4; cases e4
  cases o <;> first | exact (show False from q4).elim | skip
  rename_i kvs0
  refine ⟨ad, _, rfl, DPut.k (k := .inr (T k)) q3 ?_, ?_⟩
  · rw [kv_len q4]
    exact Nat.lt_of_le_of_lt hlen (by decide)
  · exact (a4.step st2) σ F2 _ (r2.chg (c' := .dct es) he hs2 (kv_put (dp_mono st2.s p1) q4 hes)) (Step.refl G F2)
/-! ### a dict's display -/
theorem merge_new : ∀ (more acc : List (Key × V)), (∀ p ∈ more, valV acc p.1 = none) → (more.map (·.1)).Nodup → mergeK acc more = acc ++ more
  | [], acc, _, _ => by simp [mergeK]
  | p :: r, acc, h1, h2 => by
    rw [List.map_cons, List.nodup_cons] at h2
    have e1 : putK acc p.1 p.2 = acc ++ [(p.1, p.2)] := putK_new _ (h1 p List.mem_cons_self)
    show mergeK (putK acc p.1 p.2) r = _
    rw [e1, merge_new r _ (fun q hq => ?_) h2.2]
    · simp
    · rw [valV_snoc _ _ _ _ (h1 p List.mem_cons_self), if_neg]
      · exact h1 q (List.mem_cons_of_mem _ hq)
      · intro e
        exact h2.1 (by rw [← e]; exact List.mem_map_of_mem hq)
def trK (X : Cx) (W : WX) (p : String × Vc) : TE × TE := (tC (.str (T p.1)), Tr X W (vE p.2) (DOk X.K))
theorem pairs_go {L : FrX X} {G : Hp} {σ : L2.St} : ∀ {ks : List String} {cs : List Vc} {F H : Hp} {e : Env} {Q : List V → Hp → Prop} {Q2 : List (V × V) → Hp → Prop}, ks.length = cs.length → (∀ vs H2, Q vs H2 → Q2 ((ks.map fun k => (V.str (T k))).zip vs) H2) → Rel X.K L G F H σ e → After X W L G F σ (DsR X.K) Q (vEs cs e) →
    tPairs ((ks.zip cs).map (trK X W)) σ H Q2
  | [], [], F, H, e, Q, Q2, _, hq, r, a => hq [] H (a [] F H r (Step.refl G F) .nil)
  | k :: ks, c :: cs, F, H, e, Q, Q2, hl, hq, r, a => by
    show Tr X W (vE c) (DOk X.K) σ H _
    refine ⟨L, G, F, e, r, (After.bind (P1 := DOk X.K) a).mono fun v H1 z => ?_⟩
    obtain ⟨F1, e1, d, r1, st1, p1, a1⟩ := z
    refine pairs_go (Q := fun vs H2 => Q (v :: vs) H2) (by simpa using hl) (fun vs H2 h => hq (v :: vs) H2 h) r1 ((After.bind (P1 := DsR X.K) a1).mono fun vs H2 z => ?_)
    obtain ⟨F2, e2, ds, r2, st2, p2, a3⟩ := z
    exact a3 (v :: vs) F2 H2 r2 (Step.refl G F2) (.cons (dp_mono st2.s p1) p2)
  | [], _ :: _, _, _, _, _, _, hl, _, _, _ => by simp at hl
  | _ :: _, [], _, _, _, _, _, hl, _, _, _ => by simp at hl
/-- the display's pieces -/
inductive KPs (X : Cx) (W : WX) : List String → List (Option Expr) → List Expr → List Vc → Prop where
  | nil : KPs X W [] [] [] []
  | cons {k : String} {ks : List String} {j : Nat} {p : Pos} {kes : List (Option Expr)} {e : Expr} {es : List Expr} {c : Vc} {cs : List Vc} : PV X W e c → KPs X W ks kes es cs → KPs X W (k :: ks) (some (.Constant (.str (T k)) j p) :: kes) (e :: es) (c :: cs)
theorem KPs.pps {ks : List String} {kes : List (Option Expr)} {es : List Expr} {cs : List Vc} (h : KPs X W ks kes es cs) : PPs X pos kes es ((ks.zip cs).map (trK X W)) ∧ kes.all (·.isSome) = true ∧ kes.length = es.length ∧ ks.length = cs.length ∧ kes.length = ks.length := by
  induction h with
  | nil => exact ⟨pps_nil, rfl, rfl, rfl, rfl⟩
  | cons h _ ih =>
    obtain ⟨i1, i2, i3, i4, i5⟩ := ih
    exact ⟨pps_cons pe_str (pv_e h) i1, by simp [i2], by simp [i3], by simp [i4], by simp [i5]⟩
theorem kv_zip {K : PySem.W.Frag} {F : Hp} : ∀ {ks : List Str} {vs : List V} {ds : List D}, DpAll K F vs ds → KvOk K F ((ks.map Sum.inr).zip vs) (ks.zip ds)
  | [], _, _, _ => by simp; exact .nil
  | _ :: _, _, _, .nil => .nil
  | k :: ks, _, _, .cons h t => .cons h (kv_zip t)
theorem zip_kv : ∀ {ks : List String} {vs : List V}, (ks.map fun k => V.str (T k)).zip vs = ((((ks.map T).map Sum.inr : List Key)).zip vs).map fun kv => (kV kv.1, kv.2)
  | [], _ => rfl
  | _ :: _, [] => rfl
  | k :: ks, v :: vs => by
    rw [List.map_cons, List.map_cons, List.map_cons, List.zip_cons_cons, List.zip_cons_cons, List.map_cons, zip_kv (ks := ks)]
    rfl
theorem no_mu' {L : FrX X} {G F H : Hp} {σ : L2.St} {e : Env} {p : Addr} (r : Rel X.K L G F H σ e) (hp : H p = none) : ∀ i, isMu e i → sg σ i ≠ some (.ref p) := no_mu r hp
theorem pv_dct {ks : List String} {kes : List (Option Expr)} {es : List Expr} {cs : List Vc} (h : KPs X W ks kes es cs) (nd : (ks.map T).Nodup) (h0 : ks ≠ []) (h15 : ks.length ≤ 15) : PV X W (.Dict kes es pos) (dctC ks cs) := by
  obtain ⟨pp, ha, hl, hl2, hl3⟩ := h.pps (pos := pos)
  refine pe_imp (pe_disp pp ha hl (fun z => h0 (List.length_eq_zero_iff.mp (by rw [← hl3, z]; rfl))) (by rw [hl3]; exact h15)) fun σ H Q q p hp => ?_
  obtain ⟨L, G, F, e, r, a⟩ := q
  have r1 := (r.put (o := .dK []) hp).guard (r.gh.free hp) upd_same (no_mu' r hp)
  refine pairs_go (Q := fun vs H2 => H2 p = some (.dK []) ∧ vs.length = ks.length ∧ Q (.ref p) (upd H2 p (.dK (((ks.map T).map Sum.inr).zip vs)))) hl2 (fun vs H2 hq => ?_) r1 ?_
  · obtain ⟨q1, q2, q3⟩ := hq
    refine ⟨q1, ((ks.map T).map Sum.inr).zip vs, zip_kv, ?_, ?_⟩
    · simp; omega
    · have : mergeK [] (((ks.map T).map Sum.inr).zip vs) = ((ks.map T).map Sum.inr).zip vs := by
        rw [merge_new _ [] (fun _ _ => rfl)]
        · simp
        · rw [List.map_fst_zip (by simp [q2])]
          exact List.Pairwise.map Sum.inr (fun a b h e => h (Sum.inr.inj e)) nd
      rw [this]
      exact q3
  · unfold dctC at a
    cases hv : vEs cs e with
    | bad => rw [hv] at a; exact a.elim
    | exc x e2 =>
      rw [hv] at a
      exact fun c dd F' H' r2 st2 p2 => a c dd F' H' (r2.unguard (r.gh.free hp) r.bg).1 (st2.weak (same_upd (r.gh.free hp))) p2
    | ok ds e1 =>
      rw [hv, bind_ok] at a
      intro vs F' H' r2 st2 p2
      have p2 : DpAll X.K F' vs ds := p2
      obtain ⟨r3, h3, n3⟩ := r2.unguard (r.gh.free hp) r.bg
      have f3 : F' p = none := by
        rw [st2.g p (by rw [upd_same]; exact fun z => nomatch z)]
        exact r.fh.free hp
      refine ⟨h3, by rw [dps_len p2, vEs_len hv, hl2], a (.ref p) F' _ (r3.change (r.gh.free hp) f3 n3) (st2.weak (same_upd (r.gh.free hp))) ⟨p, rfl, ⟨f3, r.gh.free hp, _, upd_same, kv_zip p2⟩, n3⟩⟩
/-! ### calls with names -/
inductive KVs (X : Cx) (W : WX) : List String → List Keyword → List Vc → Prop where
  | nil : KVs X W [] [] []
  | cons {k : String} {ks : List String} {kp : Pos} {e : Expr} {kws : List Keyword} {c : Vc} {cs : List Vc} : PV X W e c → KVs X W ks kws cs → KVs X W (k :: ks) (⟨some (T k), e, kp⟩ :: kws) (c :: cs)
theorem pk_ns : ∀ {ks : List String} {kws : List Keyword} {cs : List Vc}, KVs X W ks kws cs → PK X kws (Tr X W (vNs cs) (RsOk X.K))
  | _, _, _, .nil => ⟨fun pos pins s σ H Q I q => by
      obtain ⟨L, G, F, e, r, a⟩ := q
      exact pk_nil.run pos pins s σ H Q I (a [] F H r (Step.refl G F) .nil)⟩
  | _, _, _, .cons h t => ⟨fun pos pins s σ H Q I q => (pk_cons (pv_n h) (pk_ns t)).run pos pins s σ H Q I (by
      obtain ⟨L, G, F, e, r, a⟩ := q
      exact ⟨L, G, F, e, r, (After.bind (P1 := RNk X.K) a).mono fun v H1 ⟨F1, e1, d, r1, st, p1, a1⟩ =>
        ⟨L, G, F1, e1, r1, (After.bind (P1 := RsOk X.K) a1).mono fun vs H2 ⟨F2, e2, ds, r2, st2, p2, a2⟩ => a2 (v :: vs) F2 H2 r2 (Step.refl G F2) (.cons (p1.later st2.s) p2)⟩⟩)⟩
theorem KVs.names : ∀ {ks : List String} {kws : List Keyword} {cs : List Vc}, KVs X W ks kws cs → (backToKw pos (keywordEach kws X.env)).all (·.1.isSome) = true ∧ (backToKw pos (keywordEach kws X.env)).filterMap (·.1) = ks.map T ∧ (backToKw pos (keywordEach kws X.env)).any (·.1.isNone) = false ∧ ks.length = cs.length
  | _, _, _, .nil => ⟨rfl, rfl, rfl, rfl⟩
  | _, _, _, @KVs.cons _ _ k ks kp e kws c cs h t => by
    obtain ⟨i1, i2, i3, i4⟩ := KVs.names t
    have e0 : backToKw pos (keywordEach (⟨some (T k), e, kp⟩ :: kws) X.env) = (some (T k), do let v ← eval e X.env; standAt pos; pure v) :: backToKw pos (keywordEach kws X.env) := rfl
    rw [e0]
    refine ⟨by rw [List.all_cons, i1]; rfl, by rw [List.filterMap_cons, i2]; rfl, by rw [List.any_cons, i3]; rfl, by simp [i4]⟩
theorem vNs_app : ∀ {cs ds : List Vc} {e : Env}, vNs (cs ++ ds) e = (vNs cs e).bind fun rs e1 => (vNs ds e1).bind fun qs e2 => .ok (rs ++ qs) e2
  | [], ds, e => by
    show vNs ds e = (vNs ds e).bind fun qs e2 => .ok qs e2
    cases vNs ds e <;> rfl
  | c :: cs, ds, e => by
    show ((vN c e).bind fun d e1 => (vNs (cs ++ ds) e1).bind fun r e2 => .ok (d :: r) e2) = ((vN c e).bind fun d e1 => (vNs cs e1).bind fun r e2 => .ok (d :: r) e2).bind _
    cases vN c e with
    | bad => rfl
    | exc _ _ => rfl
    | ok d e1 =>
      simp only [bind_ok]
      rw [vNs_app]
      cases vNs cs e1 with
      | bad => rfl
      | exc _ _ => rfl
      | ok r e2 =>
        simp only [bind_ok]
        cases vNs ds e2 <;> rfl
theorem rs_app {L : FrX X} {G F H : Hp} {σ : L2.St} {e : Env} {K : PySem.W.Frag} {rs qs : List R} {vs ws : List V} (h : RsOk K G F H σ e rs vs) (t : RsOk K G F H σ e qs ws) : RsOk K G F H σ e (rs ++ qs) (vs ++ ws) := by
  induction h with
  | nil => exact t
  | cons h _ ih => exact .cons h ih
theorem rs_get {G F H : Hp} {σ : L2.St} {e : Env} {K : PySem.W.Frag} : ∀ {rs : List R} {vs : List V} {i : Nat} {r : R}, RsOk K G F H σ e rs vs → rs[i]? = some r → ∃ v, vs[i]? = some v ∧ RNk K G F H σ e r v
  | _, _, i, r, .nil, h => by simp at h
  | _, _, 0, r, .cons h _, hr => by
    simp at hr
    subst hr
    exact ⟨_, rfl, h⟩
  | _, _, i + 1, r, .cons _ t, hr => by
    obtain ⟨v, h1, h2⟩ := rs_get (i := i) (r := r) t (by simpa using hr)
    exact ⟨v, by simpa using h1, h2⟩
theorem pick_rs {G F H : Hp} {σ : L2.St} {e : Env} {K : PySem.W.Frag} {rs : List R} {vs : List V} {us : List Value} (h : RsOk K G F H σ e rs vs) (hv : Vals vs us) : ∀ {is : List Nat} {qs : List R}, pick is rs = some qs → ∃ ws zs, pick is us = some zs ∧ Vals ws zs ∧ RsOk K G F H σ e qs ws
  | [], qs, hp => by
    cases hp
    exact ⟨[], [], rfl, .nil, .nil⟩
  | i :: is, qs, hp => by
    unfold pick at hp
    cases hr : rs[i]? with
    | none => rw [hr] at hp; cases hp
    | some r =>
      rw [hr] at hp
      cases hq : pick is rs with
      | none => rw [hq] at hp; cases hp
      | some q =>
        rw [hq] at hp
        cases hp
        obtain ⟨v, h1, h2⟩ := rs_get h hr
        obtain ⟨ws, zs, g1, g2, g3⟩ := pick_rs h hv hq
        obtain ⟨u, h3, h4⟩ := hv.get h1
        exact ⟨v :: ws, u :: zs, by unfold pick; rw [h3, g1]; rfl, .cons h4 g2, .cons h2 g3⟩
theorem run_gk {pins : List (Addr × Obj)} {σ : L2.St} {H : Hp} {s : Shared} {Q : VK} {us ws zs : List Value} {vs : List V} {k : Nat} {f : Addr} {fd : FuncData} {ps ks : List Str} {sp : Sp} (Fn : FnG X.prog X.w X.K X.mg X.base k f fd ps sp) (hr : Room k X.A) (hg : X.A.guards = some []) (hb : BindsTo s fd ⟨us, ks.zip ws⟩ (ps.zip zs)) (tk : L2.Takes X W)
    (I : Inv X pins σ H s) (r : Vals vs zs) (h : sp vs H Q fun cls dd H' => W cls dd σ H') : wpAny (model X.prog X.w) X.A (call (.ref f) us (ks.zip ws)) (EP X pins σ Q) X.xe s := by
  refine wpAny_call (codeAny_mono (Fn.run X.A X.stack s H ⟨us, ks.zip ws⟩ zs vs Q _ hr hg I.env0 hb r h) fun res s' hq => ?_)
  cases res with
  | error x => exact tk x s' (XE.of_call I (fun _ _ _ z => z) hq)
  | ok fl =>
    cases fl with
    | ret u => exact I.after hq
    | _ => exact False.elim hq
theorem vNs_len : ∀ {cs : List Vc} {e : Env} {rs : List R} {e' : Env}, vNs cs e = .ok rs e' → rs.length = cs.length
  | [], e, rs, e', h => by cases h; rfl
  | c :: cs, e, rs, e', h => by
    unfold vNs at h
    cases hc : vN c e with
    | bad => rw [hc] at h; cases h
    | exc _ _ => rw [hc] at h; cases h
    | ok r e1 =>
      rw [hc, bind_ok] at h
      cases hs : vNs cs e1 with
      | bad => rw [hs] at h; cases h
      | exc _ _ => rw [hs] at h; cases h
      | ok q e2 =>
        rw [hs, bind_ok] at h
        cases h
        rw [List.length_cons, List.length_cons, vNs_len hs]
theorem rs_len {G F H : Hp} {σ : L2.St} {e : Env} {K : PySem.W.Frag} {rs : List R} {vs : List V} (h : RsOk K G F H σ e rs vs) : vs.length = rs.length := by
  induction h with
  | nil => rfl
  | cons _ _ ih => simp [ih]
theorem After.bindE {α β γ δ : Type} {L : FrX X} {G F : Hp} {σ : L2.St} {P : Rl α β} {P1 : Rl γ δ} {Q : β → Hp → Prop} {c : Res γ} {f : γ → Env → Res α} (h : After X W L G F σ P Q (c.bind f)) :
    After X W L G F σ P1 (fun b1 H1 => ∃ F1 e1 a, c = .ok a e1 ∧ Rel X.K L G F1 H1 σ e1 ∧ Step G F F1 ∧ P1 G F1 H1 σ e1 a b1 ∧ After X W L G F1 σ P Q (f a e1)) c := by
  cases c with
  | bad => exact h
  | ok a e => exact fun b F' H' r1 st p => ⟨F', e, a, rfl, r1, st, p, After.step h st⟩
  | exc x e => exact h
theorem pv_cak {BN : List String} {GL : List (String × D)} {KB : List KbE} {Gf : Gm} {f : String} {p : Pos} {es : List Expr} {cs ds : List Vc} {ks : List String} {kws : List Keyword} {perm : List Nat} (hcalm : X.calm = true) (ok : Ok X W BN GL KB Gf) (hg : Gl X (T f)) (hdb : (T f == ("__debug__" : Str)) = false) (h : PVs X W es cs) (hk : KVs X W ks kws ds) (hkb : (f, es.length, ks, perm) ∈ KB) :
    PV X W (.Call (.Name (T f) p) es kws pos) (cakC Gf f perm (cs ++ ds)) := by
  refine ⟨fun pins s σ H Q I q => ?_⟩
  obtain ⟨L, G, F, e, r, a⟩ := q
  cases hf : Gf.fk f with
  | none =>
    unfold cakC at a
    rw [hf] at a
    exact a.elim
  | some z =>
    obtain ⟨ms, φ⟩ := z
    obtain ⟨k, ad, hr, hm, hkp, fd, ps, Fn, kb⟩ := ok.fks hcalm f ms φ hf
    obtain ⟨n1, n2, n3, n4⟩ := hk.names (pos := pos)
    have a : After X W L G F σ (ROk X.K) Q ((vNs (cs ++ ds) e).bind fun rs e1 => (ofO (pick perm rs) e1).bind fun qs e2 => callO (Gf.fk f) qs e2) := by
      unfold cakC at a
      rw [hf] at a
      rw [hf]
      exact a
    rw [vNs_app] at a
    have a : After X W L G F σ (ROk X.K) Q ((vNs cs e).bind fun rs e1 => (vNs ds e1).bind fun qs e2 => (ofO (pick perm (rs ++ qs)) e2).bind fun qs e2 => callO (Gf.fk f) qs e2) := by
      cases hcs : vNs cs e with
      | bad => rw [hcs] at a; exact a
      | exc _ _ => rw [hcs] at a; exact a
      | ok rs e1 =>
        rw [hcs, bind_ok] at a
        rw [bind_ok]
        cases hds : vNs ds e1 with
        | bad => rw [hds] at a; exact a
        | exc _ _ => rw [hds] at a; exact a
        | ok qs e2 => rw [hds, bind_ok] at a; exact a
    refine wpAny_Call_Name_kw (ld_glob I hg hm ?_ hdb)
    -- the end, with all values there
    have fin : ∀ {us ws : List Value} {vs xs : List V} {H2 F2 : Hp} {s2 : Shared} {e2 : Env} {rs qs : List R}, Inv X pins σ H2 s2 → Rel X.K L G F2 H2 σ e2 → Vals vs us → Vals xs ws → RsOk X.K G F2 H2 σ e2 rs vs → RsOk X.K G F2 H2 σ e2 qs xs → rs.length = es.length → qs.length = ks.length →
        After X W L G F2 σ (ROk X.K) Q ((ofO (pick perm (rs ++ qs)) e2).bind fun qs e2 => callO (Gf.fk f) qs e2) → wpAny (model X.prog X.w) X.A (call (.ref ad) us ((ks.map T).zip ws)) (EP X pins σ Q) X.xe s2 := by
      intro us ws vs xs H2 F2 s2 e2 rs qs I2 r2 rv rx o1 o2 l1 l2 a2
      obtain ⟨zs, hz, a3⟩ := a2.ofO
      obtain ⟨vz, uz, g1, g2, g3⟩ := pick_rs (rs_app (L := L) o1 o2) (rv.append rx) hz
      have lu : us.length = es.length := by rw [← rv.length, rs_len o1, l1]
      have lw : ws.length = ks.length := by rw [← rx.length, rs_len o2, l2]
      exact run_gk Fn hr ok.gd (kb _ hkb rfl s2 us ws uz I2.kIn lu lw g1) ok.tk I2 g2 (call_sp r2 g3 hf a3)
    cases h with
    | nil =>
      have a : After X W L G F σ (ROk X.K) Q ((vNs ds e).bind fun qs e2 => (ofO (pick perm ([] ++ qs)) e2).bind fun qs e2 => callO (Gf.fk f) qs e2) := a
      refine PySem.W.callWith_KW0 (h₀ := X.base) I.ok.mod.kin hkp n1 (thn ((pk_ns hk).run pos pins s σ H _ I ⟨L, G, F, e, r, After.bindE (P1 := RsOk X.K) a⟩) fun ws s2 z => ?_) (by rw [n3]; rfl)
      obtain ⟨xs, H2, I2, rx, F2, e2, qs, eq, r2, st2, p2, a2⟩ := z
      refine ⟨I2.kIn, ?_⟩
      rw [n2]
      exact fin (us := []) (vs := []) (rs := []) I2 r2 .nil rx .nil p2 rfl (by rw [vNs_len eq, n4]) a2
    | cons h hs t =>
      have pvs : PVs X W _ _ := .cons h hs t
      have hlen := pvs.len
      refine PySem.W.callWith_KW (h₀ := X.base) I.ok.mod.kin hkp n1 (thn ((pa_ns pvs).run pos pins s σ H _ I ⟨L, G, F, e, r, After.bindE (P1 := RsOk X.K) a⟩) fun us s1 z => ?_) (by rw [n3, backTo_any, starEach_len pvs]; rfl) hs
      obtain ⟨vs, H1, I1, rv, F1, e1, rs, eq1, r1, st1, p1, a1⟩ := z
      refine thn ((pk_ns hk).run pos pins s1 σ H1 _ I1 ⟨L, G, F1, e1, r1, After.bindE (P1 := RsOk X.K) a1⟩) fun ws s2 z => ?_
      obtain ⟨xs, H2, I2, rx, F2, e2, qs, eq, r2, st2, p2, a2⟩ := z
      refine ⟨I2.kIn, ?_⟩
      rw [n2]
      exact fin I2 r2 rv rx (p1.later st2.s) p2 (by rw [vNs_len eq1, hlen]) (by rw [vNs_len eq, n4]) a2
end
end Ev
set_option Elab.async false
set_option linter.all false
set_option maxHeartbeats 1000000
set_option maxRecDepth 10000
/-! Ev19: a set's table laid anew, whatever its size. -/
namespace Ev
open PySem L2
/-- where the n-th run begins -/
def itF (m : Nat) : Nat → Nat → Nat → Nat
  | 0, i, _ => i
  | n + 1, i, b => itF m n (SetTable.leap m i b).1 (SetTable.leap m i b).2
theorem leap_le (m i b : Nat) : (SetTable.leap m i b).1 ≤ m := Nat.le_of_lt_succ (Nat.mod_lt _ (Nat.succ_pos m))
theorem runEnd_le {m i : Nat} (h : i ≤ m) : i ≤ SetTable.runEnd m i ∧ SetTable.runEnd m i ≤ m := by
  unfold SetTable.runEnd
  split <;> omega
theorem free_ok {m : Nat} {ow : Array (Option Nat)} {j : Nat} (hj : ow.getD j (some 0) = none) : ∀ (f i b : Nat), i ≤ m → (∃ n, n < f ∧ itF m n i b = j) → ∃ r, SetTable.layClean.free m ow f i b = some r ∧ r ≤ m ∧ ow.getD r (some 0) = none
  | 0, i, b, _, ⟨n, hn, _⟩ => absurd hn (Nat.not_lt_zero _)
  | f + 1, i, b, hi, ⟨n, hn, e⟩ => by
    obtain ⟨r1, r2⟩ := runEnd_le hi
    unfold SetTable.layClean.free
    cases hf : (List.range (SetTable.runEnd m i + 1 - i)).find? fun k => (ow.getD (i + k) (some 0)).isNone with
    | some k =>
      have h1 := List.mem_range.mp (List.mem_of_find?_eq_some hf)
      have h2 := List.find?_some hf
      exact ⟨i + k, rfl, by omega, Option.isNone_iff_eq_none.mp h2⟩
    | none =>
      dsimp only
      cases n with
      | zero =>
        have h1 := List.find?_eq_none.mp hf 0 (List.mem_range.mpr (by omega))
        have e : i = j := e
        rw [Nat.add_zero, e, hj] at h1
        exact absurd rfl h1
      | succ n => exact free_ok hj f _ _ (leap_le m i b) ⟨n, by omega, e⟩
theorem itF_add (m : Nat) : ∀ (a n i b : Nat), itF m (a + n) i b = itF m n (itF m a i b) (b / 32 ^ a)
  | 0, n, i, b => by rw [Nat.zero_add, Nat.pow_zero, Nat.div_one]; rfl
  | a + 1, n, i, b => by
    rw [Nat.add_right_comm]
    show itF m (a + n) (SetTable.leap m i b).1 (SetTable.leap m i b).2 = itF m n (itF m a (SetTable.leap m i b).1 (SetTable.leap m i b).2) (b / 32 ^ (a + 1))
    rw [itF_add m a n]
    congr 1
    show b / 32 / 32 ^ a = b / 32 ^ (a + 1)
    rw [Nat.div_div_eq_div_mul, Nat.pow_succ, Nat.mul_comm]
theorem itF_le {m : Nat} : ∀ (n : Nat) {i b : Nat}, i ≤ m → itF m n i b ≤ m
  | 0, _, _, h => h
  | n + 1, i, b, _ => itF_le n (leap_le m i b)
def MOk (m : Nat) : Prop := m = 7 ∨ m = 15 ∨ m = 31 ∨ m = 63 ∨ m = 127
def orb (m : Nat) : Nat → Nat → List Nat
  | 0, _ => []
  | n + 1, x => x :: orb m n ((x * 5 + 1) % (m + 1))
theorem leap0 (m x : Nat) : SetTable.leap m x 0 = ((x * 5 + 1) % (m + 1), 0) := rfl
theorem orb_mem (m : Nat) : ∀ (n x j : Nat), j ∈ orb m n x → ∃ k, k < n ∧ itF m k x 0 = j
  | 0, _, _, h => by cases h
  | n + 1, x, j, h => by
    rcases List.mem_cons.mp h with rfl | h
    · exact ⟨0, by omega, rfl⟩
    · obtain ⟨k, h1, h2⟩ := orb_mem m n _ j h
      exact ⟨k + 1, by omega, h2⟩
def orbOk (m : Nat) : Bool := (List.range (m + 1)).all (fun j => (orb m (m + 1) 0).contains j) && decide (itF m (m + 1) 0 0 = 0)
theorem orbs : orbOk 7 = true ∧ orbOk 15 = true ∧ orbOk 31 = true ∧ orbOk 63 = true ∧ orbOk 127 = true := by decide +kernel
theorem orb_at {m : Nat} (hm : MOk m) : orbOk m = true := by
  obtain ⟨h1, h2, h3, h4, h5⟩ := orbs
  rcases hm with rfl | rfl | rfl | rfl | rfl <;> assumption
theorem zero_div32 (a : Nat) : 0 / 32 ^ a = 0 := Nat.zero_div _
theorem cyc {m : Nat} (hm : MOk m) {x j : Nat} (hx : x ≤ m) (hj : j ≤ m) : ∃ n, n ≤ m ∧ itF m n x 0 = j := by
  have h := orb_at hm
  unfold orbOk at h
  simp only [Bool.and_eq_true, List.all_eq_true, decide_eq_true_eq] at h
  obtain ⟨h1, h2⟩ := h
  have mem : ∀ y, y ≤ m → ∃ k, k < m + 1 ∧ itF m k 0 0 = y := fun y hy => orb_mem m _ _ _ (by
    have := h1 y (List.mem_range.mpr (by omega))
    simpa using this)
  obtain ⟨a, a1, a2⟩ := mem x hx
  obtain ⟨c, c1, c2⟩ := mem j hj
  by_cases h : a ≤ c
  · refine ⟨c - a, by omega, ?_⟩
    have := itF_add m a (c - a) 0 0
    rw [zero_div32, a2, show a + (c - a) = c by omega, c2] at this
    exact this.symm
  · refine ⟨m + 1 + c - a, by omega, ?_⟩
    have e1 := itF_add m a (m + 1 + c - a) 0 0
    rw [zero_div32, a2, show a + (m + 1 + c - a) = m + 1 + c by omega] at e1
    have e2 := itF_add m (m + 1) c 0 0
    rw [zero_div32, h2, c2] at e2
    exact e1.symm.trans e2
theorem visits {m : Nat} (hm : MOk m) {b : Nat} (hb : b < 2 ^ 64) {j : Nat} (hj : j ≤ m) : ∃ n, n < SetTable.turns m ∧ itF m n (b % (m + 1)) b = j := by
  have hi : b % (m + 1) ≤ m := Nat.le_of_lt_succ (Nat.mod_lt _ (Nat.succ_pos m))
  obtain ⟨n, h1, h2⟩ := cyc hm (itF_le 13 (b := b) hi) hj
  refine ⟨13 + n, by unfold SetTable.turns; omega, ?_⟩
  rw [itF_add, show b / 32 ^ 13 = 0 from Nat.div_eq_of_lt (Nat.lt_trans hb (by decide)), h2]
theorem bits_lt (h : Int) : SetTable.bits h < 2 ^ 64 := by
  unfold SetTable.bits
  have h1 := Int.emod_nonneg h (show ((2 : Int) ^ 64) ≠ 0 by decide)
  have h2 := Int.emod_lt_of_pos h (show (0 : Int) < 2 ^ 64 by decide)
  omega
/-- who sits where: k of them, all there -/
structure OwI (m k : Nat) (ow : Array (Option Nat)) : Prop where
  sz : ow.size = m + 1
  pm : (ow.toList.filterMap id).Perm (List.range k)
theorem fm_len : ∀ l : List (Option Nat), none ∉ l → (l.filterMap id).length = l.length
  | [], _ => rfl
  | none :: l, h => absurd List.mem_cons_self h
  | some x :: l, h => by
    have := fm_len l fun z => h (List.mem_cons_of_mem _ z)
    simpa using this
theorem fm_set (k : Nat) : ∀ (l : List (Option Nat)) (r : Nat), l[r]? = some none → ((l.set r (some k)).filterMap id).Perm (k :: l.filterMap id)
  | [], r, h => by simp at h
  | x :: l, 0, h => by
    simp at h
    subst h
    simp
  | x :: l, r + 1, h => by
    have ih := fm_set k l r (by simpa using h)
    cases x with
    | none => simpa using ih
    | some y =>
      simp only [List.set_cons_succ, List.filterMap_cons, id]
      exact (ih.cons y).trans (List.Perm.swap k y _)
theorem OwI.step {m k : Nat} (hm : MOk m) {ow : Array (Option Nat)} (W : OwI m k ow) (hk : k ≤ m) (h : Int) :
    ∃ j, SetTable.layClean.free m ow (SetTable.turns m) (SetTable.bits h % (m + 1)) (SetTable.bits h) = some j ∧ OwI m (k + 1) (ow.setIfInBounds j (some k)) := by
  have hn : none ∈ ow.toList := by
    apply Classical.byContradiction
    intro z
    have h1 := fm_len _ z
    rw [W.pm.length_eq, List.length_range, Array.length_toList, W.sz] at h1
    omega
  obtain ⟨j, hj, e⟩ := List.mem_iff_getElem.mp hn
  rw [Array.length_toList] at hj
  have e' : ow.getD j (some 0) = none := by
    rw [Array.getD_eq_getD_getElem?, Array.getElem?_eq_getElem hj]
    simpa using e
  obtain ⟨r, h1, h2, h3⟩ := free_ok e' (SetTable.turns m) (SetTable.bits h % (m + 1)) (SetTable.bits h) (Nat.le_of_lt_succ (Nat.mod_lt _ (Nat.succ_pos m))) (visits hm (bits_lt h) (by have := W.sz; omega))
  have hr : r < ow.size := by rw [W.sz]; omega
  refine ⟨r, h1, by rw [Array.size_setIfInBounds, W.sz], ?_⟩
  have h4 : ow.toList[r]? = some none := by
    rw [Array.getD_eq_getD_getElem?, Array.getElem?_eq_getElem hr] at h3
    rw [Array.getElem?_toList, Array.getElem?_eq_getElem hr]
    exact congrArg some h3
  rw [Array.toList_setIfInBounds]
  refine (fm_set k _ r h4).trans ((W.pm.cons k).trans ?_)
  rw [List.range_succ]
  exact (List.perm_append_singleton k _).symm
theorem fold_lay {m : Nat} (hm : MOk m) : ∀ (rest : List Int) (k : Nat) (ow : Array (Option Nat)), OwI m k ow → k + rest.length ≤ m → ∃ ow', rest.foldl (stepF m) (some (ow, k)) = some (ow', k + rest.length) ∧ OwI m (k + rest.length) ow'
  | [], k, ow, W, _ => ⟨ow, rfl, W⟩
  | h :: rest, k, ow, W, hl => by
    rw [List.length_cons] at hl
    obtain ⟨j, e, W'⟩ := W.step hm (by omega) h
    obtain ⟨ow', f, W2⟩ := fold_lay hm rest (k + 1) _ W' (by omega)
    refine ⟨ow', ?_, by rw [List.length_cons, show k + (rest.length + 1) = k + 1 + rest.length by omega]; exact W2⟩
    rw [List.foldl_cons, stepF_some e, f, List.length_cons, show k + 1 + rest.length = k + (rest.length + 1) by omega]
theorem lay_ok {m : Nat} (hm : MOk m) {hs : Array Int} (hn : hs.size ≤ m) : ∃ ow, SetTable.layClean m hs = some ow ∧ OwI m hs.size ow := by
  have W0 : OwI m 0 (Array.replicate (m + 1) none) := ⟨by simp, by simp⟩
  obtain ⟨ow, f, W⟩ := fold_lay hm hs.toList 0 _ W0 (by rw [Array.length_toList]; omega)
  rw [Nat.zero_add, Array.length_toList] at f W
  refine ⟨ow, ?_, W⟩
  rw [layClean_eq, f]
  rfl
theorem laid_ok {m : Nat} (hm : MOk m) {hs : Array Int} (hn : hs.size ≤ m) (fi mv : Nat) (led plain : Bool) :
    ∃ t' order, SetTable.laid m fi mv led plain hs = some (t', order) ∧ order.toList.Perm (List.range hs.size) ∧ Ris t'.place.toList ∧ t'.place.size = hs.size ∧ t'.dummies = #[] ∧ t'.mask = m ∧ t'.led = led := by
  obtain ⟨ow, e, W⟩ := lay_ok hm hn
  have ris := (ris_live (fun j => ow.getD j none) (List.range (m + 1)) (by
    unfold Ris
    first | exact List.pairwise_lt_range | exact List.pairwise_lt_range _)).1
  have el : ((List.range (m + 1)).filterMap fun j => (ow.getD j none).map (j, ·)).map (·.2) = ow.toList.filterMap id := by
    have e1 : ow.toList = (List.range (m + 1)).map fun j => ow.getD j none := by
      apply List.ext_getElem?
      intro i
      rw [List.getElem?_map, Array.getElem?_toList]
      by_cases hi : i < m + 1
      · rw [List.getElem?_range hi, Array.getElem?_eq_getElem (by rw [W.sz]; exact hi)]
        show _ = some (ow.getD i none)
        rw [Array.getD_eq_getD_getElem?, Array.getElem?_eq_getElem (by rw [W.sz]; exact hi)]
        rfl
      · rw [Array.getElem?_eq_none (by rw [W.sz]; omega), List.getElem?_eq_none (by simp; omega)]
        rfl
    rw [e1, List.filterMap_map, List.map_filterMap]
    congr 1
    funext j
    show ((ow.getD j none).map (j, ·)).map (·.2) = ow.getD j none
    cases ow.getD j none <;> rfl
  refine ⟨{ mask := m, place := (((List.range (m + 1)).filterMap fun j => (ow.getD j none).map (j, ·)).map (·.1)).toArray, dummies := #[], finger := fi, led := led, moves := mv, plain := plain },
    (((List.range (m + 1)).filterMap fun j => (ow.getD j none).map (j, ·)).map (·.2)).toArray, ?_, ?_, ris, ?_, rfl, rfl, rfl⟩
  · unfold SetTable.laid
    rw [e]
    rfl
  · show ((((List.range (m + 1)).filterMap fun j => (ow.getD j none).map (j, ·)).map (·.2)).toArray).toList.Perm _
    rw [el]
    exact W.pm
  · have := congrArg List.length el
    rw [W.pm.length_eq, List.length_range, List.length_map] at this
    rw [List.size_toArray, List.length_map]
    exact this
end Ev
set_option Elab.async false
set_option linter.all false
set_option maxHeartbeats 1000000
set_option maxRecDepth 10000
/-! Ev20: ints taken out of a set, a set copied. -/
namespace Ev
open PySem L2 PyProof.Rows
section
variable {P : Program} {w : World} {A : Around} {E : Value → Shared → Prop} {s : Shared} {a : Addr} {S : Int → Bool} {n : Nat}
theorem erase_list {α : Type} (xs : Array α) (i : Nat) : (SetTable.eraseAt xs i).toList = xs.toList.eraseIdx i := by
  unfold SetTable.eraseAt
  rw [List.eraseIdx_eq_take_drop_succ]
  simp [List.take_of_length_le, Array.length_toList]
theorem setR_discard {k : Int} {tk : Tok} {Q : Bool → Shared → Prop} (R : SetR w s.heap a S n)
    (hQ : ∀ h' m, Heap.SameBut a s.heap h' → m ≤ n → SetR w h' a (fun j => S j && !decide (j = k)) m → Q (S k) { s with heap := h' }) :
    wpAny (model P w) A (setDiscardHashed a (.int k tk) ((intKind P w).hash k)) Q E s := by
  obtain ⟨o, es, ep, t, ho, hex, hd, g, nd, hm, hb, hf, hn, hr, hl⟩ := R
  have hkey : (intKind P w).is k (.int k tk) = true := intKind_is P w k tk
  have hsc : (Value.int k tk).scannable = true := rfl
  have hel : ElemsOf (intKind P w) es.toList := good_elems g
  unfold setDiscardHashed setFind setFindIn
  refine wpAny_bind (wpAny_bind (wpAny_setState_of ho hd hf ?_))
  dsimp only
  rw [byScan_of hsc hb hel]
  simp only [↓reduceIte]
  refine wpAny_bind (wpAny_rule ?_)
  refine wpAny_bind (wpAny_setScan_of hkey ho hd hf hel ?_)
  cases hfi : List.findIdx? (fun e => (intKind P w).is k e.2) es.toList with
  | none =>
    dsimp only
    refine wpAny_pure (wpAny_pure ?_)
    have hnk : k ∉ es.toList.map keyOf := fun z => by
      obtain ⟨e, he, q⟩ := (good_mem (P := P) (w := w) g k).1 z
      have c := List.findIdx?_eq_none_iff.mp hfi e he
      rw [q] at c
      cases c
    have hSk : S k = false := by
      cases q : S k with
      | false => rfl
      | true => exact absurd ((hm k).1 q) hnk
    have q := hQ s.heap n (Heap.SameBut.refl a s.heap) (Nat.le_refl _) ⟨o, es, ep, t, ho, hex, hd, g, nd, fun i => by
      rw [Bool.and_eq_true, ← hm i]
      refine ⟨fun z => z.1, fun z => ⟨z, ?_⟩⟩
      have : i ≠ k := fun c => by rw [c, hSk] at z; cases z
      simpa using this, hb, hf, hn, hr, hl⟩
    rw [hSk] at q
    exact q
  | some j =>
    dsimp only
    obtain ⟨hj, pj, _⟩ := List.findIdx?_eq_some_iff_getElem.mp hfi
    have kj : keyOf es.toList[j] = k := (good_is (g _ (List.getElem_mem hj)) k).1 pj
    have hSk : S k = true := (hm k).2 (List.mem_map.mpr ⟨_, List.getElem_mem hj, kj⟩)
    refine wpAny_pure ?_
    dsimp only
    refine wpAny_bind (wpAny_setState_of ho hd hf ?_)
    dsimp only
    rw [Nat.zero_add]
    have hsz : (SetTable.eraseAt es j).size = es.size - 1 := by
      rw [← Array.length_toList, erase_list, List.length_eraseIdx_of_lt hj, Array.length_toList]
    rw [Array.length_toList] at hj
    have pm : (es.toList[j] :: (SetTable.eraseAt es j).toList).Perm es.toList := by
      rw [erase_list]
      exact erase_perm es.toList j _ (List.getElem?_eq_getElem _)
    have hf' := hf
    unfold SetTable.fits at hf'
    rw [Bool.and_eq_true, beq_iff_eq, decide_eq_true_eq] at hf'
    have hpj : j < t.place.size := by rw [hf'.1]; exact hj
    have et : t.drop j = { t with place := SetTable.eraseAt t.place j, dummies := SetTable.insertAt t.dummies (SetTable.below t.dummies t.place[j]) t.place[j] } := by
      unfold SetTable.drop
      rw [Array.getElem?_eq_getElem hpj]
    have hpl : (SetTable.eraseAt t.place j).size = t.place.size - 1 := by
      rw [← Array.length_toList, erase_list, List.length_eraseIdx_of_lt (by rw [Array.length_toList]; exact hpj), Array.length_toList]
    have hdl : (SetTable.insertAt t.dummies (SetTable.below t.dummies t.place[j]) t.place[j]).size = t.dummies.size + 1 := by
      rw [← Array.length_toList, (SetTable.insertAt_perm _ _ _).length_eq, Array.length_toList, Array.size_push]
    refine wpAny_bind (wpAny_storeSet_of ho hd ?_ (by rw [hsz]; have := fits_of_scanBound hb; omega))
    refine wpAny_bind (wpAny_point ?_)
    refine wpAny_pure ?_
    have q := hQ _ (n - 1) (Heap.SameBut.update s.heap a (Obj.putSet (SetTable.eraseAt es j) (t.drop j))) (Nat.sub_le _ _) ?_
    · rw [hSk] at q
      exact q
    · have pk := pm.map keyOf
      rw [List.map_cons, kj] at pk
      have nd' := pk.nodup_iff.mpr nd
      obtain ⟨n1, n2⟩ := List.nodup_cons.mp nd'
      refine ⟨_, _, _, _, store_at ho hd, hex, rfl, fun e he => g e (pm.mem_iff.mp (List.mem_cons_of_mem _ he)), n2, fun i => ?_, by rw [hsz]; omega, ?_, by rw [hsz, hn], ?_, ?_⟩
      · rw [Bool.and_eq_true, hm i, ← pk.mem_iff, List.mem_cons]
        constructor
        · rintro ⟨h1, h2⟩
          have h2 : i ≠ k := by simpa using h2
          exact h1.resolve_left h2
        · intro h1
          refine ⟨.inr h1, ?_⟩
          have : i ≠ k := fun c => n1 (c ▸ h1)
          simpa using this
      · rw [et]
        unfold SetTable.fits SetTable.fill
        unfold SetTable.fill at hf'
        rw [Bool.and_eq_true, beq_iff_eq, decide_eq_true_eq]
        show (SetTable.eraseAt t.place j).size = _ ∧ (SetTable.eraseAt t.place j).size + (SetTable.insertAt t.dummies _ _).size ≤ t.mask
        rw [hpl, hdl, hsz]
        omega
      · rw [et]
        show Ris (SetTable.eraseAt t.place j).toList
        rw [erase_list]
        exact List.Pairwise.sublist (List.eraseIdx_sublist _ _) hr
      · rw [et]
        exact hl
end
end Ev
set_option Elab.async false
set_option linter.all false
set_option maxHeartbeats 1000000
set_option maxRecDepth 10000
/-! Ev21: a set copied into a new one. -/
namespace Ev
open PySem L2 PyProof.Rows
/-- an order's rows -/
theorem order_perm {α : Type} (xs : Array α) (order : Array Nat) (hp : order.toList.Perm (List.range xs.size)) : (order.filterMap (xs[·]?)).toList.Perm xs.toList := by
  have h1 : (order.filterMap (xs[·]?)).toList = order.toList.filterMap (xs[·]?) := by simp
  rw [h1]
  refine (hp.filterMap _).trans ?_
  have key : ∀ n, n ≤ xs.size → (List.range n).filterMap (xs[·]?) = xs.toList.take n := by
    intro n
    induction n with
    | zero => intro _; rfl
    | succ n ih =>
      intro hn
      have hlt : n < xs.toList.length := by rw [Array.length_toList]; exact hn
      rw [List.range_succ, List.filterMap_append, ih (by omega), List.take_succ, List.getElem?_eq_getElem hlt]
      have : xs[n]? = some xs.toList[n] := by rw [← Array.getElem?_toList, List.getElem?_eq_getElem hlt]
      rw [List.filterMap_cons_some this] <;> rfl
  rw [key _ (Nat.le_refl _), ← Array.length_toList, List.take_length]
/-- the rows in a laid table's order -/
def reord (vs : Array (Int × Value)) (got : Option (SetTable × Array Nat)) : Sem (Array (Int × Value) × SetTable) := do
  let some (tab, order) := got | unsupported "internal:set-table-without-room"
  let ws := order.filterMap (vs[·]?)
  if ws.size != vs.size then unsupported "internal:set-table-lost-an-element"
  pure (ws, tab)
theorem merge_eq (a o : Addr) (each : Sem Unit) : setMerge a o each = (do
    if a == o then return
    let (vs, was, tb) ← setState o
    if vs.isEmpty then return
    setRoomFor a vs.size
    let (_, _, ta) ← setState a
    match ta.road tb with
    | .slotForSlot => storeSet a vs { tb with finger := ta.finger, led := ta.led && tb.led, moves := ta.moves, plain := ta.plain && tb.plain }
    | .clean =>
      let (ws, tc) ← reord vs (SetTable.laid ta.mask ta.finger ta.moves (led := ta.led && tb.led) (plain := ta.plain && tb.plain) (vs.map (·.1)))
      storeSet a ws tc
    | .oneByOne =>
      for (h, x) in ← setWalkUnseen o [a] (some a) do
        let _ ← holding [x] (setAddHashed a x h)
        each
        if (← setState o).2.1 != was then unsupported "set.changed-during-merge") := by rfl
theorem relay_eq (a : Addr) (wanted : Nat) : setRelay a wanted = (do
    let (vs, _, tb) ← setState a
    if SetTable.sizeAbove wanted > sizeLine then unsupported "set:memory"
    let (ws, tc) ← reord vs (tb.relaid (vs.map (·.1)) wanted)
    storeSet a ws tc) := by rfl
instance (m : Nat) : Decidable (MOk m) := by unfold MOk; infer_instance
theorem wanted_ok : ∀ n, n < 64 → 5 ≤ n → MOk (SetTable.sizeAbove (n * 2) - 1) ∧ n ≤ SetTable.sizeAbove (n * 2) - 1 ∧ SetTable.sizeAbove (n * 2) ≤ 128 := by decide +kernel
section
variable {P : Program} {w : World} {A : Around} {E : Value → Shared → Prop} {s : Shared} {a o : Addr} {S : Int → Bool} {n : Nat}
theorem reord_at {vs : Array (Int × Value)} {tab : SetTable} {order : Array Nat} {got : Option (SetTable × Array Nat)} (hg : got = some (tab, order)) (hp : order.toList.Perm (List.range vs.size)) {Q : Array (Int × Value) × SetTable → Shared → Prop} (h : Q (order.filterMap (vs[·]?), tab) s) : wpAny (model P w) A (reord vs got) Q E s := by
  subst hg
  have e : (order.filterMap (vs[·]?)).size = vs.size := by rw [← Array.length_toList, (order_perm vs order hp).length_eq, Array.length_toList]
  unfold reord
  dsimp only
  refine wp_if_neg (by rw [e]; simp) ?_
  try refine wpAny_bind (wpAny_pure ?_)
  exact wpAny_pure h
/-- an empty set whose table has room for n -/
def Room0 (w : World) (h : Heap) (a : Addr) (n : Nat) : Prop := ∃ ob ep t, h.get? a = some ob ∧ ob.ExactSet ∧ ob.data = .set #[] ep t ∧ t.place = #[] ∧ t.dummies = #[] ∧ MOk t.mask ∧ n ≤ t.mask ∧ (w.params.followText "set-order" = true ∨ t.led = true)
theorem fits0 {t : SetTable} (h1 : t.place = #[]) (h2 : t.dummies = #[]) : t.fits (#[] : Array (Int × Value)).size = true := by
  unfold SetTable.fits SetTable.fill
  rw [h1, h2]
  simp
theorem room_at {ob : Obj} (h : s.heap.get? a = some ob) (hex : ob.ExactSet) (hd : ob.data = .set #[] 0 (.fresh 0 0 (!w.params.followText "set-order"))) (h64 : n < 64) {Q : Unit → Shared → Prop}
    (hQ : ∀ h', Heap.SameBut a s.heap h' → Room0 w h' a n → Q () { s with heap := h' }) : wpAny (model P w) A (setRoomFor a n) Q E s := by
  have hled : w.params.followText "set-order" = true ∨ (!w.params.followText "set-order") = true := by
    cases w.params.followText "set-order"
    · exact .inr rfl
    · exact .inl rfl
  unfold setRoomFor
  refine wpAny_bind (wpAny_setState_of h hd (fits0 rfl rfl) ?_)
  dsimp only
  have er : (SetTable.fresh 0 0 (!w.params.followText "set-order")).roomFor n = if (0 + n) * 5 ≥ 7 * 3 then some ((0 + n) * 2) else none := rfl
  rw [er, Nat.zero_add]
  by_cases hn : n * 5 ≥ 7 * 3
  · rw [if_pos hn]
    dsimp only
    obtain ⟨m1, m2, m3⟩ := wanted_ok n h64 (by omega)
    rw [relay_eq]
    refine wpAny_bind (wpAny_setState_of h hd (fits0 rfl rfl) ?_)
    dsimp only
    refine wp_if_neg (by rw [sizeLine_eq]; omega) ?_
    try refine wpAny_bind (wpAny_pure ?_)
    obtain ⟨t', order, e, hp, ris, sz, dm, em, el⟩ := laid_ok m1 (hs := (#[] : Array Int)) (Nat.zero_le _) 0 ((SetTable.fresh 0 0 (!w.params.followText "set-order")).movedTo (SetTable.sizeAbove (n * 2) - 1)) (!w.params.followText "set-order") true
    have hp0 : order.toList.Perm (List.range (#[] : Array (Int × Value)).size) := hp
    have e2 : (SetTable.fresh 0 0 (!w.params.followText "set-order")).relaid ((#[] : Array (Int × Value)).map (·.1)) (n * 2) = some (t', order) := by
      rw [show (#[] : Array (Int × Value)).map (·.1) = #[] by simp]
      exact e
    refine wpAny_bind (reord_at e2 hp0 ?_)
    dsimp only
    have e0 : order.filterMap ((#[] : Array (Int × Value))[·]?) = #[] := by
      have := order_perm (#[] : Array (Int × Value)) order hp0
      have := this.length_eq
      rw [Array.length_toList] at this
      exact Array.eq_empty_of_size_eq_zero this
    rw [e0]
    refine wpAny_storeSet_of h hd ?_ (Nat.zero_le _)
    exact hQ _ (Heap.SameBut.update s.heap a _) ⟨_, _, t', store_at h hd, hex, rfl, Array.eq_empty_of_size_eq_zero sz, dm, by rw [em]; exact m1, by rw [em]; exact m2, by rw [el]; exact hled⟩
  · rw [if_neg hn]
    dsimp only
    exact wpAny_pure (hQ s.heap (Heap.SameBut.refl a s.heap) ⟨ob, 0, _, h, hex, hd, rfl, rfl, .inl rfl, by show n ≤ 7; omega, hled⟩)
theorem setR_merge {ob : Obj} (R : SetR w s.heap o S n) (hao : a ≠ o) (h : s.heap.get? a = some ob) (hex : ob.ExactSet) (hd : ob.data = .set #[] 0 (.fresh 0 0 (!w.params.followText "set-order"))) (h64 : n < 64) {each : Sem Unit} {Q : Unit → Shared → Prop}
    (hQ : ∀ h', Heap.SameBut a s.heap h' → SetR w h' a S n → Q () { s with heap := h' }) : wpAny (model P w) A (setMerge a o each) Q E s := by
  obtain ⟨oo, vs, was, tb, ho, hox, hod, g, nd, hm, hb, hf, hn, hr, hl⟩ := R
  have hled : w.params.followText "set-order" = true ∨ (!w.params.followText "set-order") = true := by
    cases w.params.followText "set-order"
    · exact .inr rfl
    · exact .inl rfl
  rw [merge_eq]
  refine wp_if_neg (by simpa using hao) ?_
  try refine wpAny_bind (wpAny_pure ?_)
  refine wpAny_bind (wpAny_setState_of ho hod hf ?_)
  dsimp only
  by_cases he : vs.isEmpty = true
  · refine wp_if_pos he ?_
    refine wpAny_pure (hQ s.heap (Heap.SameBut.refl a s.heap) ?_)
    have e0 : vs = #[] := by simpa using he
    subst e0
    have en : n = 0 := by simpa using hn.symm
    subst en
    exact ⟨ob, #[], 0, _, h, hex, hd, fun e z => by simp at z, List.nodup_nil, hm, by decide, fits0 rfl rfl, rfl, List.Pairwise.nil, hled⟩
  · refine wp_if_neg he ?_
    try refine wpAny_bind (wpAny_pure ?_)
    rw [hn]
    refine wpAny_bind (room_at h hex hd h64 fun h1 sb1 r1 => ?_)
    obtain ⟨ob1, ep1, ta, g1, x1, d1, p1, u1, m1, n1, l1⟩ := r1
    refine wpAny_bind (wpAny_setState_of g1 d1 (fits0 p1 u1) ?_)
    dsimp only
    have fl : ta.fill = 0 := by unfold SetTable.fill; rw [p1, u1]; rfl
    have hl2 : w.params.followText "set-order" = true ∨ (ta.led && tb.led) = true := by
      rcases l1 with z | z
      · exact .inl z
      · rcases hl with z2 | z2
        · exact .inl z2
        · exact .inr (by rw [z, z2]; rfl)
    have er : ta.road tb = .slotForSlot ∨ ta.road tb = .clean := by
      unfold SetTable.road
      rw [fl]
      by_cases c : (ta.mask == tb.mask && tb.dummies.isEmpty) = true
      · exact .inl (by simp [c])
      · exact .inr (by simp [c])
    rcases er with er | er
    · rw [er]
      dsimp only
      refine wpAny_storeSet_of g1 d1 ?_ (fits_of_scanBound hb)
      refine hQ _ (sb1.trans (Heap.SameBut.update h1 a _)) ?_
      exact ⟨_, vs, _, _, store_at g1 d1, x1, rfl, g, nd, hm, hb, hf, hn, hr, hl2⟩
    · rw [er]
      dsimp only
      obtain ⟨t', order, e, hp, ris, sz, dm, em, el⟩ := laid_ok m1 (hs := vs.map (·.1)) (by rw [Array.size_map, hn]; exact n1) ta.finger ta.moves (ta.led && tb.led) (ta.plain && tb.plain)
      rw [Array.size_map] at hp sz
      have pm := order_perm vs order hp
      have hsz : (order.filterMap (vs[·]?)).size = n := by rw [← Array.length_toList, pm.length_eq, Array.length_toList, hn]
      refine wpAny_bind (reord_at e hp ?_)
      dsimp only
      refine wpAny_storeSet_of g1 d1 ?_ (by rw [hsz, ← hn]; exact fits_of_scanBound hb)
      refine hQ _ (sb1.trans (Heap.SameBut.update h1 a _)) ?_
      refine ⟨_, _, _, _, store_at g1 d1, x1, rfl, fun e he => g e (pm.mem_iff.mp he), (pm.map keyOf).nodup_iff.mpr nd, fun k => (hm k).trans (pm.map keyOf).mem_iff.symm, by rw [hsz, ← hn]; exact hb, ?_, hsz, ris, by rw [el]; exact hl2⟩
      unfold SetTable.fits SetTable.fill
      rw [Bool.and_eq_true, beq_iff_eq, decide_eq_true_eq, dm, hsz, sz, hn, em]
      exact ⟨rfl, n1⟩
end
end Ev
set_option Elab.async false
set_option linter.all false
set_option maxHeartbeats 1000000
set_option maxRecDepth 10000
/-! Ev22: a set walked inside. -/
namespace Ev
open PySem L2 PyProof.Rows
theorem walk_eq (a : Addr) : setWalk a = (do
    let (vs, was, tb) ← setState a
    if ← setsByText then return pickOrder ((← ask).params.setOrder a was) vs
    if !tb.plain && vs.size > 1 then return (← drawOrder vs.size vs.toList).toArray
    (do if !tb.led && vs.size > 1 then unsupported "set:maker-not-led" : Sem Unit)
    return vs) := by rfl
section
variable {P : Program} {w : World} {A : Around} {E : Value → Shared → Prop} {s : Shared} {a o : Addr} {S : Int → Bool} {n : Nat}
theorem walk_at {ob : Obj} {vs : Array (Int × Value)} {was : Nat} {tb : SetTable} (ho : s.heap.get? o = some ob) (hod : ob.data = .set vs was tb) (hf : tb.fits vs.size = true) (hl : w.params.followText "set-order" = true ∨ tb.led = true) {Q : Array (Int × Value) → Shared → Prop}
    (hQ : ∀ ws d, ws.toList.Perm vs.toList → Q ws { s with drawn := d }) : wpAny (model P w) A (setWalk o) Q E s := by
  rw [walk_eq]
  refine wpAny_bind (wpAny_setState_of ho hod hf ?_)
  dsimp only
  refine wpAny_bind (wpAny_byText ?_)
  by_cases hb : w.params.followText "set-order" = true
  · refine wp_if_pos hb ?_
    refine wpAny_bind (wpAny_askSetting ?_)
    exact wpAny_pure (hQ _ s.drawn (pick_perm _ _))
  · refine wp_if_neg hb ?_
    try refine wpAny_bind (wpAny_pure ?_)
    by_cases hd : (!tb.plain && decide (vs.size > 1)) = true
    · refine wp_if_pos hd ?_
      refine wpAny_bind (drawOrder_at vs.size vs.toList s _ (by rw [Array.length_toList]; exact Nat.le_refl _) fun ys d pm => ?_)
      exact wpAny_pure (hQ _ d (by simpa using pm))
    · refine wp_if_neg hd ?_
      try refine wpAny_bind (wpAny_pure ?_)
      have hled : tb.led = true := hl.resolve_left hb
      refine wpAny_bind (wp_if_neg (by rw [hled]; simp) (wpAny_pure ?_))
      exact wpAny_pure (hQ _ s.drawn (List.Perm.refl _))
/-- ints have no == of their own -/
theorem quiet_at {es : Array (Int × Value)} (g : ∀ e ∈ es.toList, GoodE e) {Q : Bool → Shared → Prop} {ob : Obj} {was : Nat} {tb : SetTable} (ho : s.heap.get? o = some ob) (hod : ob.data = .set es was tb) (hf : tb.fits es.size = true)
    {vs : Array (Int × Value)} {oa : Obj} {wa : Nat} {ta : SetTable} (ga : ∀ e ∈ vs.toList, GoodE e) (ha : s.heap.get? a = some oa) (hd : oa.data = .set vs wa ta) (hfa : ta.fits vs.size = true) (hQ : Q true s) : wpAny (model P w) A (setsQuiet [o, a]) Q E s := by
  have inner : ∀ (β : Type) (b : β) (f : Int × Value → β → Sem (ForInStep β)), (∀ e, GoodE e → f e b = pure (.yield b)) → ∀ l : List (Int × Value), (∀ e ∈ l, GoodE e) → forIn l b f = (pure b : Sem β) := by
    intro β b f hf l
    induction l with
    | nil => intro _; rfl
    | cons e l ih =>
      intro h
      rw [List.forIn_cons, hf e (h e List.mem_cons_self), pure_bind]
      exact ih fun x hx => h x (List.mem_cons_of_mem _ hx)
  unfold setsQuiet setEntries
  simp only [List.forIn_cons, List.forIn_nil, bind_assoc, pure_bind]
  refine wpAny_bind (wpAny_setState_of ho hod hf ?_)
  rw [← Array.forIn_toList, inner _ _ _ (fun e he => by obtain ⟨k, tk, h1, _⟩ := he; obtain ⟨x, y⟩ := e; cases h1; rfl) _ g]
  simp only [pure_bind]
  refine wpAny_bind (wpAny_bind (wpAny_setState_of ha hd hfa ?_))
  rw [← Array.forIn_toList, inner _ _ _ (fun e he => by obtain ⟨k, tk, h1, _⟩ := he; obtain ⟨x, y⟩ := e; cases h1; rfl) _ ga]
  simp only [pure_bind]
  exact wpAny_pure (wpAny_pure hQ)
/-- the walk by which one set goes through another -/
theorem unseen_at {Sa : Int → Bool} {m : Nat} {ob : Obj} {vs : Array (Int × Value)} {was : Nat} {tb : SetTable} (ho : s.heap.get? o = some ob) (hod : ob.data = .set vs was tb) (g : ∀ e ∈ vs.toList, GoodE e) (hf : tb.fits vs.size = true) (hl : w.params.followText "set-order" = true ∨ tb.led = true)
    (R : SetR w s.heap a Sa m) {Q : Array (Int × Value) → Shared → Prop}
    (hQ : ∀ ws h' d, ws.toList.Perm vs.toList → Heap.SameBut a s.heap h' → SetR w h' a Sa m → Q ws { s with heap := h', drawn := d }) : wpAny (model P w) A (setWalkUnseen o [a] (some a)) Q E s := by
  have fin : ∀ ws d, ws.toList.Perm vs.toList → Q ws { s with drawn := d } := fun ws d pm => hQ ws s.heap d pm (Heap.SameBut.refl a s.heap) R
  unfold setWalkUnseen
  refine wpAny_bind (wpAny_setState_of ho hod hf ?_)
  dsimp only
  refine wpAny_bind (wpAny_byText ?_)
  by_cases hc : (w.params.followText "set-order" || (tb.led && tb.plain) || decide (vs.size ≤ 1)) = true
  · refine wp_if_pos hc ?_
    exact walk_at ho hod hf hl fin
  · refine wp_if_neg hc ?_
    try refine wpAny_bind (wpAny_pure ?_)
    have hbt : ¬ w.params.followText "set-order" = true := fun z => hc (by rw [z]; rfl)
    have hled : tb.led = true := hl.resolve_left hbt
    obtain ⟨oa, va, wa, ta, ha, hax, had, ga, nda, hma, hba, hfa, hna, hra, hla⟩ := R
    have hla' : ta.led = true := hla.resolve_left hbt
    refine wpAny_bind (quiet_at g ho hod hf ga ha had hfa ?_)
    refine wp_if_neg (by decide) ?_
    try refine wpAny_bind (wpAny_pure ?_)
    refine wpAny_bind (wpAny_rule ?_)
    refine wpAny_bind (wpAny_setState_of ha had hfa ?_)
    dsimp only
    by_cases hx : ((ta.led && !tb.led) || (ta.plain && !tb.plain)) = true
    · refine wp_if_pos hx ?_
      refine wpAny_bind (wpAny_storeSet_of ha had ?_ (fits_of_scanBound hba))
      refine wpAny_pure (hQ vs _ s.drawn (List.Perm.refl _) (Heap.SameBut.update s.heap a _) ?_)
      exact ⟨_, va, _, _, store_at ha had, hax, rfl, ga, nda, hma, hba, hfa, hna, hra, .inr (by show (ta.led && tb.led) = true; rw [hled, hla']; rfl)⟩
    · refine wp_if_neg hx ?_
      try refine wpAny_bind (wpAny_pure ?_)
      exact wpAny_pure (hQ vs s.heap s.drawn (List.Perm.refl _) (Heap.SameBut.refl a s.heap) ⟨oa, va, wa, ta, ha, hax, had, ga, nda, hma, hba, hfa, hna, hra, hla⟩)
end
end Ev
set_option Elab.async false
set_option linter.all false
set_option maxHeartbeats 1000000
set_option maxRecDepth 10000
/-! Ev23: the ^ of two sets of ints. -/
namespace Ev
open PySem L2 PyProof.Rows PySem.Builtin.Frozenset
section
variable {P : Program} {w : World} {A : Around} {E : Value → Shared → Prop} {s : Shared} {a o : Addr} {S : Int → Bool} {n : Nat}
/-- one thing put in or taken out -/
def flipX (a : Addr) (e : Int × Value) : Sem Unit := holding [e.2] (do
  if !(← setDiscardHashed a e.2 e.1) then
    let _ ← setAddHashed a e.2 e.1)
theorem flip_at {e : Int × Value} {m : Nat} (ge : GoodE e) (R : SetR w s.heap a S m) (room : m + 1 < scanBound) {Q : Unit → Shared → Prop}
    (hQ : ∀ h' m', Heap.SameBut a s.heap h' → m' ≤ m + 1 → SetR w h' a (fun j => S j ^^ decide (j = keyOf e)) m' → Q () { s with heap := h' }) : wpAny (model P w) A (flipX a e) Q E s := by
  obtain ⟨k, tk, h1, h2⟩ := ge
  obtain ⟨hv, v⟩ := e
  have h1 : v = .int k tk := h1
  have h2 : hv = hashInt k := h2
  subst h1 h2
  unfold flipX
  refine wpAny_holding (wpAny_bind (setR_discard (k := k) (tk := tk) R fun h' m1 sb hm R1 => ?_))
  have hk : keyOf (hashInt k, Value.int k tk) = k := rfl
  rw [hk] at hQ
  cases hS : S k with
  | true =>
    refine wp_if_neg (by decide) ?_
    refine wpAny_pure (hQ h' m1 sb (by omega) (R1.congr fun j => ?_))
    by_cases c : j = k
    · subst c; simp [hS]
    · simp [c]
  | false =>
    refine wp_if_pos (by decide) ?_
    refine wpAny_bind (setR_add_hashed (s := { s with heap := h' }) (k := k) (tk := tk) R1 (by omega) fun h2 sb2 R2 => ?_)
    refine wpAny_pure (hQ h2 _ (sb.trans sb2) ?_ (R2.congr fun j => ?_))
    · split <;> omega
    · by_cases c : j = k
      · subst c; simp [hS]
      · simp [c]
theorem flips_at {ob : Obj} {vs : Array (Int × Value)} {was : Nat} {tb : SetTable} {id : String} (hao : a ≠ o) (hod : ob.data = .set vs was tb) (hf : tb.fits vs.size = true) :
    ∀ (l : List (Int × Value)) (s : Shared) (S : Int → Bool) (m : Nat), (∀ e ∈ l, GoodE e) → (l.map keyOf).Nodup → s.heap.get? o = some ob → SetR w s.heap a S m → m + l.length < scanBound → ∀ {Q : PUnit → Shared → Prop},
    (∀ h' m', Heap.SameBut a s.heap h' → m' ≤ m + l.length → SetR w h' a (fun j => S j ^^ decide (j ∈ l.map keyOf)) m' → Q PUnit.unit { s with heap := h' }) →
    wpAny (model P w) A (forIn l PUnit.unit fun e _ => do flipX a e; unchanged id o was; pure (ForInStep.yield PUnit.unit)) Q E s
  | [], s, S, m, _, _, ho, R, _, Q, hQ => wpAny_pure (hQ s.heap m (Heap.SameBut.refl a s.heap) (by simp) (R.congr fun j => by simp))
  | e :: l, s, S, m, g, nd, ho, R, hb, Q, hQ => by
    rw [List.length_cons] at hb hQ
    rw [List.map_cons] at nd
    obtain ⟨n1, n2⟩ := List.nodup_cons.mp nd
    rw [List.forIn_cons]
    refine wpAny_bind (wpAny_bind (flip_at (g e List.mem_cons_self) R (by omega) fun h' m' sb hm R1 => ?_))
    have ho1 : h'.get? o = some ob := by rw [sb.2 o (Ne.symm hao)]; exact ho
    unfold unchanged setEpoch
    refine wpAny_bind (wpAny_bind (wpAny_bind (wpAny_setState_of (s := { s with heap := h' }) ho1 hod hf (wpAny_pure ?_))))
    refine wp_if_neg (by simp) (wpAny_pure ?_)
    refine wpAny_pure ?_
    refine flips_at hao hod hf l { s with heap := h' } _ m' (fun x hx => g x (List.mem_cons_of_mem _ hx)) n2 ho1 R1 (by omega) fun h2 m2 sb2 hm2 R2 => ?_
    refine hQ h2 m2 (sb.trans sb2) (by omega) (R2.congr fun j => ?_)
    by_cases c : j = keyOf e
    · subst c; simp [n1]
    · simp [c]
end
end Ev
set_option Elab.async false
set_option linter.all false
set_option maxHeartbeats 1000000
set_option maxRecDepth 10000
/-! Ev24: the ^ of two sets of ints, as the program writes it. -/
namespace Ev
open PySem L2 PyProof.Rows PySem.Builtin.Frozenset
theorem sub_set_froz : isSubtype (.type "set") (.type "frozenset") = pure false := by rw [isSubtype_type]; kernel_rfl
section
variable {P : Program} {w : World} {A : Around} {E : Value → Shared → Prop} {s : Shared} {a o : Addr} {S T : Int → Bool} {n m : Nat}
theorem any_at (h : s.TypeIs (.ref o) "set") {Q : Bool → Shared → Prop} (hQ : Q true s) : wpAny (model P w) A (isAnySet (.ref o)) Q E s := by
  unfold isAnySet orM
  refine wpAny_bind (wpAny_isInstance h sub_set_self ?_)
  exact wpAny_pure hQ
theorem base_at (h : s.TypeIs (.ref o) "set") {Q : Value → Shared → Prop} (hQ : Q (.type "set") s) : wpAny (model P w) A (baseOf o) Q E s := by
  unfold baseOf
  refine wpAny_bind (wpAny_isInstance h sub_set_self ?_)
  exact wpAny_pure hQ
theorem SetR.typeIs (R : SetR w s.heap o S n) : s.TypeIs (.ref o) "set" := by
  obtain ⟨ob, es, ep, t, ho, hex, _⟩ := R
  exact ⟨ob, ho, hex.1⟩
theorem xorUp_at {id : String} (hao : a ≠ o) (R : SetR w s.heap a S m) (Ro : SetR w s.heap o T n) (hb : m + n < scanBound) {Q : Unit → Shared → Prop}
    (hQ : ∀ h' d m', Heap.SameBut a s.heap h' → m' ≤ m + n → SetR w h' a (fun j => S j ^^ T j) m' → Q () { s with heap := h', drawn := d }) : wpAny (model P w) A (symmetricDifferenceUpdate id a (.ref o)) Q E s := by
  have ht := SetR.typeIs Ro
  obtain ⟨ob, vs, was, tb, ho, hox, hod, g, nd, hm, hbv, hf, hn, hr, hl⟩ := Ro
  unfold symmetricDifferenceUpdate
  have hne : (Value.ref o == Value.ref a) = false := by
    simp
    exact Ne.symm hao
  refine wp_if_neg (by rw [hne]; decide) ?_
  try refine wpAny_bind (wpAny_pure ?_)
  refine wpAny_bind (wpAny_typeOf ht ?_)
  refine wp_if_neg (by decide) ?_
  try refine wpAny_bind (wpAny_pure ?_)
  refine wpAny_bind (any_at ht ?_)
  refine wp_if_pos rfl ?_
  refine wpAny_bind (wpAny_pure ?_)
  refine wpAny_bind (wpAny_pure ?_)
  unfold setEpoch
  refine wpAny_bind (wpAny_bind (wpAny_setState_of ho hod hf (wpAny_pure ?_)))
  refine wpAny_holding ?_
  refine wpAny_bind (unseen_at ho hod g hf hl R fun ws h1 d pm sb R1 => ?_)
  have ho1 : h1.get? o = some ob := by rw [sb.2 o (Ne.symm hao)]; exact ho
  have pk := pm.map keyOf
  have hlen : ws.toList.length = n := by rw [pm.length_eq, Array.length_toList, hn]
  rw [← Array.forIn_toList]
  refine wpAny_bind ?_
  refine flips_at (id := id) hao hod hf ws.toList { s with heap := h1, drawn := d } S m (fun e he => g e (pm.mem_iff.mp he)) (pk.nodup_iff.mpr nd) ho1 R1 (by rw [hlen]; exact hb) fun h2 m2 sb2 hm2 R2 => ?_
  refine wpAny_pure ?_
  · rw [hlen] at hm2
    refine hQ h2 d m2 (sb.trans sb2) hm2 (R2.congr fun j => ?_)
    congr 1
    have e1 := hm j
    have e2 : j ∈ ws.toList.map keyOf ↔ j ∈ vs.toList.map keyOf := pk.mem_iff
    cases hT : T j with
    | true => exact (decide_eq_true (e2.mpr (e1.mp hT))).symm
    | false =>
      refine (decide_eq_false fun z => ?_).symm
      rw [e1.mpr (e2.mp z)] at hT
      cases hT
/-- a new set with another's things -/
theorem newFrom_at {id : String} (R : SetR w s.heap o T n) (h64 : n < 64) {Q : Value → Shared → Prop}
    (hQ : ∀ h', (∀ b x, s.heap.get? b = some x → h'.get? b = some x) → SetR w h' s.heap.objs.size T n → Q (.ref s.heap.objs.size) { s with heap := h' }) : wpAny (model P w) A (newFrom id (.type "set") (.ref o)) Q E s := by
  have hlt := R.lt
  unfold newFrom newSet
  dsimp only
  refine wpAny_bind (wpAny_bind (wpAny_byText ?_))
  simp only [newObj]
  refine wp_if_neg (by decide) ?_
  try refine wpAny_bind (wpAny_pure ?_)
  unfold newObjAsIs
  refine wpAny_bind (wpAny_alloc ?_)
  try refine wpAny_bind (wpAny_pure ?_)
  refine wpAny_pure ?_
  have hnew := Heap.get?_push_size s.heap (o := { cls := .type "set", dict := none, data := .set #[] 0 (.fresh 0 0 (!w.params.followText "set-order")) }) rfl
  have R1 : SetR w (s.heap.push { cls := .type "set", dict := none, data := .set #[] 0 (.fresh 0 0 (!w.params.followText "set-order")) }) o T n := R.at fun x e => Heap.get?_push_of_some _ e
  unfold addrOf
  refine wpAny_bind (wpAny_pure ?_)
  refine wpAny_bind (wpAny_holding ?_)
  unfold updateFrom
  refine wpAny_bind (any_at (SetR.typeIs (s := { s with heap := s.heap.push { cls := .type "set", dict := none, data := .set #[] 0 (.fresh 0 0 (!w.params.followText "set-order")) } }) R1) ?_)
  refine wp_if_pos rfl ?_
  refine wpAny_bind (wpAny_pure ?_)
  unfold merge setEpoch
  have R2 := R1
  obtain ⟨ob, vs, was, tb, ho, hox, hod, g, nd, hm, hbv, hf, hn, hr, hl⟩ := R2
  refine wpAny_bind (wpAny_bind (wpAny_setState_of ho hod hf (wpAny_pure ?_)))
  refine setR_merge R1 (Nat.ne_of_gt hlt) hnew ⟨rfl, rfl, rfl⟩ rfl h64 fun h' sb R3 => ?_
  refine wpAny_pure (hQ h' (fun b x e => ?_) R3)
  rw [sb.2 b (Nat.ne_of_lt (Heap.lt_size e))]
  exact Heap.get?_push_of_some _ e
/-- what the set's own method does -/
theorem xor_eq (x y : Value) : Builtin.«frozenset.__xor__» ⟨[x, y], []⟩ = (do
    let (l, r) ← slot1 "__xor__" ⟨[x, y], []⟩
    if !(← isAnySet l <&&> isAnySet r) then rule s!"frozenset.{"__xor__"}.declined"; return ← ret .notImplemented
    let p ← addrOf l
    let v ← (do
      let got ← newFrom s!"frozenset.{"__xor__"}" (← baseOf p) r
      let q ← addrOf got
      holding [got] (symmetricDifferenceUpdate s!"frozenset.{"__xor__"}" q (.ref p))
      return got : Sem Value)
    ret v) := by rfl
theorem slot_set_xor : Slot "set" "__xor__" "set.__xor__" :=
  .of (owner := "set") (n := "__xor__") (by rw [typeLookup_type, builtinLookup_eq_fast]; kernel_rfl) (by decide +kernel) (by decide +kernel) (by decide +kernel)
    (by first | exact .inl (by decide +kernel) | exact .inr (by decide +kernel)) (by rw [isSubtype_type]; kernel_rfl)
theorem entry_set_xor : entryFor table "set.__xor__" = some Builtin.«frozenset.__xor__» := 
  entryFor_alias (id' := "frozenset.__xor__") (by kernel_rfl) rfl (by decide +kernel) (by kernel_rfl)
theorem args_set_xor (x y : Value) : argsOk "set.__xor__" ⟨[x, y], []⟩ := by unfold argsOk; kernel_rfl
theorem rslot_set_xor : typeLookup (.type "set") "__rxor__" = pure (some (.builtin "set.__rxor__")) := by rw [typeLookup_type, builtinLookup_eq_fast]; kernel_rfl
theorem fills_set_xor : fillsNumberSlot (.type "set") "xor" = pure true := fillsNumberSlot_of slot_set_xor.lookup (by decide +kernel) rslot_set_xor
/-- set ^ set -/
theorem xor_at {x y : Addr} (Rx : SetR w s.heap x S m) (Ry : SetR w s.heap y T n) (hm : m < 64) (hn : n < 64) {Q : Value → Shared → Prop}
    (hQ : ∀ h' d p c, (∀ b o, s.heap.get? b = some o → h'.get? b = some o) → s.heap.objs.size ≤ p → c ≤ n + m → SetR w h' p (fun j => T j ^^ S j) c → Q (.ref p) { s with heap := h', drawn := d }) : wpAny (model P w) A (binaryOp .BitXor (.ref x) (.ref y)) Q E s := by
  have tx := SetR.typeIs Rx
  have ty := SetR.typeIs Ry
  refine wpAny_binaryOp_same tx ty fills_set_xor slot_set_xor (wpAny_call_entry slot_set_xor tx entry_set_xor ?_ (args_set_xor _ _))
  rw [xor_eq]
  have es : slot1 "__xor__" ⟨[.ref x, .ref y], []⟩ = pure (.ref x, .ref y) := rfl
  rw [es, pure_bind]
  dsimp only
  unfold andM
  refine wpAny_bind (wpAny_bind (any_at tx ?_))
  refine any_at ty ?_
  refine wp_if_neg (by decide) ?_
  try refine wpAny_bind (wpAny_pure ?_)
  unfold addrOf
  refine wpAny_bind (wpAny_bind (base_at tx ?_))
  refine wpAny_bind (newFrom_at Ry hn fun h1 k1 R1 => ?_)
  refine wpAny_bind (wpAny_pure ?_)
  have hx : (x : Nat) < s.heap.objs.size := Rx.lt
  have Rx1 : SetR w h1 x S m := Rx.at fun o e => k1 x o e
  refine wpAny_bind (wpAny_holding (xorUp_at (s := { s with heap := h1 }) (Nat.ne_of_gt hx) R1 Rx1 (by unfold scanBound; omega) fun h2 d c sb hc R2 => ?_))
  refine wpAny_pure ?_
  have hne : Value.ref s.heap.objs.size ≠ .notImplemented := by
    intro z
    cases z
  refine wpAny_pure ⟨_, rfl, hne, hQ h2 d s.heap.objs.size c (fun b o e => ?_) (Nat.le_refl _) (by omega) R2⟩
  rw [sb.2 b (Nat.ne_of_lt (Heap.lt_size e))]
  exact k1 b o e
end
end Ev
set_option Elab.async false
set_option linter.all false
set_option maxHeartbeats 1000000
set_option maxRecDepth 10000
/-! Ev25: sets of ints as the hand layer tracks them: set(t) of a tuple, and ^. -/
namespace Ev
open PySem PySem.Spec L2 PyProof.Rows
section
variable {X : Cx}
def rSetTI (K : PySem.W.Frag) (w : World) : List V → Hp → VK → Prop := fun xs H Q => ∃ (t : Addr) (ns : List Int), xs = [V.ref t] ∧ SqT K H t (ns.map V.int) ∧ ns.length < 64 ∧
  ∀ p c, H p = none → c ≤ ns.length → Q (.ref p) (upd H p (SetO w p (fun j => decide (j ∈ ns)) c))
theorem cr_setTI (hc : X.calm = true) : CallR X (.type "set") (rSetTI X.K X.w) := by
  intro pins s σ H xs us Q I r h
  obtain ⟨t, ns, rfl, hq, hl, q⟩ := h
  rw [Vals.ref1 r]
  obtain ⟨its, rv, pt, hz⟩ := I.tuple hq
  have hn : H s.heap.objs.size = none := I.hok.fresh (Nat.le_refl _)
  refine call_set_tupI (P := X.prog) (w := X.w) ns (I.ok.hd hc) (show s.heap.IsTuple t its.toArray from pt) (ints_of_vals rv) (by unfold scanBound; omega) fun h' tk c R1 hcn k => ?_
  exact ⟨.ref s.heap.objs.size, upd H s.heap.objs.size (SetO X.w s.heap.objs.size (fun j => decide (j ∈ ns)) c), I.laid (t' := tk) k (Nat.le_refl _) (setO_new R1), rfl, q _ c hn hcn⟩
def rXor (w : World) : R2 := fun x y H Q => ∃ (a b : Addr) (S T : Int → Bool) (m n : Nat), x = .ref a ∧ y = .ref b ∧ H a = some (SetO w a S m) ∧ H b = some (SetO w b T n) ∧ m < 64 ∧ n < 64 ∧
  ∀ p c, H p = none → c ≤ m + n → Q (.ref p) (upd H p (SetO w p (fun j => T j ^^ S j) c))
theorem op_xorS : OpR X (binaryOp .BitXor) (rXor X.w) := by
  intro pins s σ H x y v u Q I rx ry h
  obtain ⟨a, b, S, T, m, n, rfl, rfl, ha, hb, hm, hn, q⟩ := h
  cases rx
  cases ry
  refine xor_at (P := X.prog) (setO_get I ha) (setO_get I hb) hm hn fun h' d p c k hp hc R => ?_
  have hnp : H p = none := I.hok.fresh hp
  have J : Inv X pins σ (upd H p (SetO X.w p (fun j => T j ^^ S j) c)) { s with heap := h', gens := s.gens, drawn := d, toks := s.toks } :=
    I.call (ch := []) (Un.laid k hp hnp) (I.hok.laid k hp (setO_new R)) I.bare (fun _ z => nomatch z)
  exact ⟨.ref p, _, J, rfl, q p c hnp (by omega)⟩
end
end Ev
set_option Elab.async false
set_option linter.all false
set_option maxHeartbeats 4000000
set_option maxRecDepth 100000
/-! Ev25b: set(xs) of a list of ints, and sorted of it. -/
namespace Ev
open PySem PySem.Spec L2 PyProof.Rows
def voidS (w : World) : Obj := { cls := .type "set", dict := none, data := .set #[] 0 (.fresh 0 0 (!w.params.followText "set-order")) }
section
variable {P : Program} {w : World} {A : Around} {E : Value → Shared → Prop} {s : Shared}
theorem call_set_lstI {ad : Addr} {its : Array Value} (ks : List Int) {Q : Value → Shared → Prop} (nh : A.handled = none) (il : s.heap.IsList ad its) (ii : IntsAre its.toList ks) (kb : ks.length + 1 < scanBound)
    (fin : ∀ (h1 : Heap) (tk c : Nat), SetR w h1 s.heap.objs.size (fun j => decide (j ∈ ks)) c → c ≤ ks.length → (∀ b o, s.heap.get? b = some o → h1.get? b = some o) → Q (.ref s.heap.objs.size) { s with heap := h1, toks := tk }) :
    wpAny (model P w) A (call (.type "set") [.ref ad]) Q E s := by
  have hsz : its.size = ks.length := by
    have e := IntsAre.length ii
    rwa [Array.length_toList] at e
  obtain ⟨c0, tl0, mro0⟩ := F.called_set.mro
  have made0 := F.called_set.made
  have sub0 := F.called_set.sub
  refine wpAny_call (codeAny_of_tree ?_)
  show wpAny _ _ (callAny (.type "set") _) _ _ _
  refine wpAny_pure ⟨Code.quiet_builtin _ (by decide +kernel), codeAny_builtin F.entry_type_call ?_⟩
  rw [Around.under_plain (weight_type_call_type "set" [.ref ad] []) rfl]
  have nt0 := F.called_set.notType
  have cc0 := F.called_set.canCreate
  have tc0 := F.typeCall_set_1 (.ref ad)
  (repeat (any_goals (first | assumption | wp_step)))
  refine codeAny_mono (code_set_led1 (.ref ad) (E := E) (Q₁ := fun ob s1 => ob = .ref s.heap.objs.size ∧ s1 = { s with heap := s.heap.push { cls := .type "set", dict := none, data := .set #[] 0 (.fresh 0 0 (!w.params.followText "set-order")) } }) ⟨rfl, rfl⟩) fun r0 s1 hr0 => ?_
  cases r0 with
  | error e => exact hr0
  | ok fl0 =>
    cases fl0 with
    | ret ob =>
      obtain ⟨rfl, rfl⟩ := hr0
      have gS : (s.heap.push { cls := .type "set", dict := none, data := .set #[] 0 (.fresh 0 0 (!w.params.followText "set-order")) }).get? s.heap.objs.size = some { cls := .type "set", dict := none, data := .set #[] 0 (.fresh 0 0 (!w.params.followText "set-order")) } := Heap.get?_push_size _ rfl
      have tS : Shared.TypeIs { s with heap := s.heap.push { cls := .type "set", dict := none, data := .set #[] 0 (.fresh 0 0 (!w.params.followText "set-order")) } } (.ref s.heap.objs.size) "set" := ⟨_, gS, rfl⟩
      have li0 := F.called_set.init.lookup
      have bi0 := F.called_set.init.bind (.ref s.heap.objs.size)
      (repeat (any_goals (first | assumption | wp_step)))
      refine codeAny_mono (codeAny_call_builtin (R := wants (fun r1 s2 => r1 = .none ∧ ∃ h1 tk c, s2 = { s with heap := h1, toks := tk } ∧ SetR w h1 s.heap.objs.size (fun j => decide (j ∈ ks)) c ∧ c ≤ ks.length ∧
          (∀ b o, s.heap.get? b = some o → h1.get? b = some o)) E) F.called_set.init.plain F.entry_set_init (check_set_init_1 tS ?_)) fun r1 s2 hr1 => ?_
      · obtain ⟨o0, ho0, hc0, n0, hd0⟩ := il
        obtain ⟨oc, od, oda, os⟩ := o0
        simp only at hc0 hd0
        subst hc0
        subst hd0
        have ho1 : (s.heap.push { cls := .type "set", dict := none, data := .set #[] 0 (.fresh 0 0 (!w.params.followText "set-order")) }).get? ad = some { cls := .type "list", dict := od, data := .seq its n0, slots := os } := Heap.get?_push_of_some _ ho0
        have sb1 := F.sub_list_set
        have sb2 := F.sub_list_frozenset
        have nd0 : (Value.type "list" == Value.type "dict") = false := by decide
        have il1 : (s.heap.push { cls := .type "set", dict := none, data := .set #[] 0 (.fresh 0 0 (!w.params.followText "set-order")) }).IsList ad its := ⟨_, ho1, rfl, n0, rfl⟩
        unfold Builtin.«set.__init__» noKeywords Builtin.Frozenset.updateFrom
        generalize hit : pyIter = itr
        wp_walk
        subst hit
        refine wpAny_pyIter_list il1 ?_
        refine wpAny_bind (wpAny_runValue ?_)
        have la : ad < s.heap.objs.size := Heap.lt_size ho0
        have nh3 : A.in1.in1.in1.handled = none := by simp [nh]
        have ne1 : ad ≠ (s.heap.push { cls := .type "set", dict := none, data := .set #[] 0 (.fresh 0 0 (!w.params.followText "set-order")) }).objs.size := by
          rw [Heap.size_push]
          exact Nat.ne_of_lt (Nat.lt_succ_of_lt la)
        have nS : s.heap.objs.size ∉ [(s.heap.push { cls := .type "set", dict := none, data := .set #[] 0 (.fresh 0 0 (!w.params.followText "set-order")) }).objs.size, ad] := by
          rw [Heap.size_push]
          simp only [List.mem_cons, List.mem_singleton, List.not_mem_nil, or_false, not_or]
          exact ⟨Nat.ne_of_lt (Nat.lt_succ_self _), Nat.ne_of_gt la⟩
        have vl : ∀ (i : Nat) (v : Value), its[i]? = some v → ∃ k t, ks[i]? = some k ∧ v = .int k t := fun i v hv => by
          have hi : i < ks.length := by
            rw [← hsz]
            exact (Array.getElem?_eq_some_iff.mp hv).1
          obtain ⟨t, e⟩ := PyProof.Rows.IntsAre.int_at ii i v (by rw [Array.getElem?_toList]; exact hv)
          refine ⟨ks[i], t, List.getElem?_eq_getElem hi, ?_⟩
          rw [e, List.getD_eq_getElem?_getD, List.getElem?_eq_getElem hi] <;> rfl
        refine set_update_ints ((Walks.list nh3 _ ad ne1 its).toS) s.heap.objs.size nS ks hsz kb vl (its.size - 0) 0 _ (by omega) (Nat.zero_le _) ⟨⟨_, Heap.get?_push_size _ rfl, rfl, rfl⟩, (il1.push _)⟩ ?first ?last
        case first => exact ⟨0, Nat.le_refl 0, setR_new_at (Heap.get?_push_of_some _ gS)⟩
        case last =>
          intro s3 c3 mv hc3 hS3
          obtain ⟨h1, g1, d1, tk1, os1⟩ := s3
          have eg : g1 = s.gens := mv.gens
          have ed : d1 = s.drawn := mv.drawn
          have eo : os1 = s.os := mv.os
          subst eg
          subst ed
          subst eo
          show wpAny _ _ _ _ _ _
          refine wpAny_pure ?_
          show wpAny _ _ (ret Value.none) _ _ _
          rw [hsz] at hc3
          refine wpAny_pure ⟨rfl, h1, tk1, c3, rfl, hS3, hc3, fun b o e => ?_⟩
          have lb : b < s.heap.objs.size := Heap.lt_size e
          refine mv.heap b o ?_ (Heap.get?_push_of_some _ (Heap.get?_push_of_some _ e))
          rw [Heap.size_push]
          simp only [List.mem_cons, List.mem_singleton, List.not_mem_nil, or_false, not_or]
          exact ⟨Nat.ne_of_lt lb, Nat.ne_of_lt (Nat.lt_succ_of_lt lb)⟩
      · cases r1 with
        | error e => exact hr1
        | ok fl1 =>
          cases fl1 with
          | ret r =>
            obtain ⟨rfl, h1, tk, c, rfl, hS1, hc1, hk1⟩ := hr1
            (repeat (any_goals (first | assumption | wp_step)))
            exact fin _ _ _ hS1 hc1 hk1
          | _ => exact hr1.elim
    | _ => exact hr0.elim
theorem setR_len {h : Heap} {a : Addr} {S : Int → Bool} {n : Nat} (R : SetR w h a S n) {l : List Int} (nd : l.Nodup) (m : ∀ k, S k = true ↔ k ∈ l) : n = l.length := by
  obtain ⟨o, es, ep, t, ho, hx, hd, g, nd2, hm, hb, hf, hn, _⟩ := R
  rw [← hn]
  have p : (es.toList.map keyOf).Perm l := (List.perm_ext_iff_of_nodup nd2 nd).mpr fun k => (hm k).symm.trans (m k)
  have := p.length_eq
  rw [List.length_map, Array.length_toList] at this
  exact this
end
end Ev
set_option Elab.async false
set_option linter.all false
set_option maxHeartbeats 1000000
set_option maxRecDepth 10000
/-! Ev26: tuple(sorted(set(a) ^ set(b))). -/
namespace Ev
open PySem PySem.Spec L2 PyProof.Rows
theorem mem_ins {k j : Int} : ∀ l : List Int, j ∈ insI k l ↔ j = k ∨ j ∈ l
  | [] => by simp [insI]
  | x :: l => by
    unfold insI
    split
    · simp
    · split
      · rename_i h; subst h; simp
      · simp only [List.mem_cons, mem_ins l]
        constructor
        · rintro (h | h | h) <;> simp [h]
        · rintro (h | h | h) <;> simp [h]
theorem ris_ins {k : Int} : ∀ {l : List Int}, l.Pairwise (· < ·) → (insI k l).Pairwise (· < ·)
  | [], _ => by simp [insI]
  | x :: l, h => by
    obtain ⟨h1, h2⟩ := List.pairwise_cons.mp h
    unfold insI
    split
    · rename_i c
      refine List.pairwise_cons.mpr ⟨fun y hy => ?_, h⟩
      rcases List.mem_cons.mp hy with rfl | hy
      · exact c
      · exact Int.lt_trans c (h1 y hy)
    · split
      · exact h
      · refine List.pairwise_cons.mpr ⟨fun y hy => ?_, ris_ins h2⟩
        rcases (mem_ins l).mp hy with rfl | hy
        · omega
        · exact h1 y hy
theorem sym_ris (ns ms : List Int) : (symI ns ms).Pairwise (· < ·) := by
  unfold symI
  generalize (ns.filter fun k => !ms.contains k) ++ (ms.filter fun k => !ns.contains k) = l
  induction l with
  | nil => exact List.Pairwise.nil
  | cons x l ih => exact ris_ins ih
theorem mem_fold (j : Int) : ∀ l : List Int, j ∈ l.foldr insI [] ↔ j ∈ l
  | [] => by simp
  | x :: l => by rw [List.foldr_cons, mem_ins, mem_fold j l, List.mem_cons]
theorem mem_sym {ns ms : List Int} {j : Int} : j ∈ symI ns ms ↔ (decide (j ∈ ms) ^^ decide (j ∈ ns)) = true := by
  unfold symI
  rw [mem_fold, List.mem_append, List.mem_filter, List.mem_filter]
  by_cases h1 : j ∈ ns <;> by_cases h2 : j ∈ ms <;> simp [h1, h2]
theorem ris_one : ∀ {l m : List Int}, l.Pairwise (· < ·) → m.Pairwise (· < ·) → (∀ k, k ∈ l ↔ k ∈ m) → l = m
  | [], [], _, _, _ => rfl
  | [], y :: m, _, _, h => absurd ((h y).mpr List.mem_cons_self) List.not_mem_nil
  | x :: l, [], _, _, h => absurd ((h x).mp List.mem_cons_self) List.not_mem_nil
  | x :: l, y :: m, h1, h2, h => by
    obtain ⟨a1, a2⟩ := List.pairwise_cons.mp h1
    obtain ⟨b1, b2⟩ := List.pairwise_cons.mp h2
    have e : x = y := by
      rcases List.mem_cons.mp ((h x).mp List.mem_cons_self) with q | q
      · exact q
      · rcases List.mem_cons.mp ((h y).mpr List.mem_cons_self) with q2 | q2
        · exact q2.symm
        · have := b1 x q
          have := a1 y q2
          omega
    subst e
    congr 1
    refine ris_one a2 b2 fun k => ?_
    have hk := h k
    rw [List.mem_cons, List.mem_cons] at hk
    constructor
    · intro z
      rcases hk.mp (.inr z) with q | q
      · subst q; exact absurd (a1 _ z) (Int.lt_irrefl _)
      · exact q
    · intro z
      rcases hk.mpr (.inr z) with q | q
      · subst q; exact absurd (b1 _ z) (Int.lt_irrefl _)
      · exact q
section
variable {X : Cx} {a b : Expr} {ta tb : TE}
def rTup (K : PySem.W.Frag) : List V → Hp → VK → Prop := fun xs H Q => ∃ p ys, xs = [.ref p] ∧ ((SqL K H p ys ∧ ∀ l, H l = none → Q (.ref l) (upd H l (.tup ys))) ∨ (SqT K H p ys ∧ Q (.ref p) H))
theorem pe_sx {p1 p2 p3 p4 q1 q2 q3 q4 q5 : Pos} (hc : X.calm = true) (g1 : Gl X "tuple") (m1 : X.mg "tuple" = none) (g2 : Gl X "sorted") (m2 : X.mg "sorted" = none) (g3 : Gl X "set") (m3 : X.mg "set" = none) (ha : PE X a ta) (hb : PE X b tb)
    (na : starEach [a] X.env = (false, eval a X.env) :: starEach [] X.env := by rfl) (nb : starEach [b] X.env = (false, eval b X.env) :: starEach [] X.env := by rfl) :
    PE X (.Call (.Name "tuple" p1) [.Call (.Name "sorted" p2) [.BinOp (.Call (.Name "set" p3) [a] [] q3) .BitXor (.Call (.Name "set" p4) [b] [] q4) q5] [] q2] [] q1)
      (tCB (rTup X.K) (tCons (tCB (rSortedSet X.w) (tCons (tOp (rXor X.w) (tCB (rSetTI X.K X.w) (tCons ta tNil)) (tCB (rSetTI X.K X.w) (tCons tb tNil))) tNil)) tNil)) :=
  pe_callTy call_tuple_of g1 m1 PyProof.Rows.boot_tuple (pa_cons (pe_callB (cr_sortedSet hc) g2 m2 PyProof.Rows.boot_sorted (pa_cons (pe_op op_xorS (pe_callTy (cr_setTI hc) g3 m3 PyProof.Rows.boot_set (pa_cons ha pa_nil (hs := na)) (he := na)) (pe_callTy (cr_setTI hc) g3 m3 PyProof.Rows.boot_set (pa_cons hb pa_nil (hs := nb)) (he := nb))) pa_nil)) pa_nil)
end
end Ev
set_option Elab.async false
set_option linter.all false
set_option maxHeartbeats 1000000
set_option maxRecDepth 10000
/-! Ev27: sum_two's expression in the evaluator's terms. -/
namespace Ev
open PySem PySem.Spec L2 PyProof.Rows
theorem intsL_map : ∀ {ds : List D} {ns : List Int}, intsL ds = some ns → ds = ns.map .int
  | [], ns, h => by cases h; rfl
  | d :: ds, ns, h => by
    cases d <;> simp only [intsL, reduceCtorEq, Option.map_eq_some_iff] at h
    obtain ⟨ms, h1, rfl⟩ := h
    rw [intsL_map h1]
    rfl
theorem intsT_tup {d : D} {ns : List Int} (h : intsT d = some ns) : d = .tuple (ns.map .int) ∧ ns.length < 64 := by
  cases d <;> simp only [intsT, reduceCtorEq] at h
  rename_i ds
  obtain ⟨ms, h1, h2⟩ := Option.bind_eq_some_iff.mp h
  by_cases c : ms.length < 64
  · rw [if_pos c] at h2
    cases h2
    rw [intsL_map h1]
    exact ⟨rfl, c⟩
  · rw [if_neg c] at h2
    cases h2
theorem ints_dps {K : PySem.W.Frag} {F : Hp} : ∀ ns : List Int, DpAll K F (ns.map V.int) (ns.map .int)
  | [] => .nil
  | _ :: ns => .cons (.int _) (ints_dps ns)
theorem dps_int {K : PySem.W.Frag} {F : Hp} : ∀ {xs : List V} {ns : List Int}, DpAll K F xs (ns.map .int) → xs = ns.map V.int
  | [], [], _ => rfl
  | _ :: _, n :: ns, h => by
    cases h with
    | cons h1 h2 =>
      cases h1
      rw [dps_int h2]
      rfl
section
variable {X : Cx} {W : WX} {ea eb : Expr} {ca cb : Vc}
theorem pv_sx {p1 p2 p3 p4 q1 q2 q3 q4 q5 : Pos} (hc : X.calm = true) (g1 : Gl X "tuple") (m1 : X.mg "tuple" = none) (g2 : Gl X "sorted") (m2 : X.mg "sorted" = none) (g3 : Gl X "set") (m3 : X.mg "set" = none) (ha : PV X W ea ca) (hb : PV X W eb cb)
    (na : starEach [ea] X.env = (false, eval ea X.env) :: starEach [] X.env := by rfl) (nb : starEach [eb] X.env = (false, eval eb X.env) :: starEach [] X.env := by rfl) :
    PV X W (.Call (.Name "tuple" p1) [.Call (.Name "sorted" p2) [.BinOp (.Call (.Name "set" p3) [ea] [] q3) .BitXor (.Call (.Name "set" p4) [eb] [] q4) q5] [] q2] [] q1) (sxC ca cb) :=
  pe_imp (pe_sx hc g1 m1 g2 m2 g3 m3 (pv_d ha) (pv_d hb) na nb) fun σ H Q q => by
    obtain ⟨L, G, F, e, r, a⟩ := q
    simp only [tCB, tCons, tNil, tOp]
    refine ⟨L, G, F, e, r, (After.bind (P1 := AOk X.K) a).mono fun x H1 z => ?_⟩
    obtain ⟨F1, e1, d, r1, st1, k1, a1⟩ := z
    obtain ⟨ns, hns, a2⟩ := a1.ofO
    have k1 : Ar X.K F1 H1 x d := k1
    obtain ⟨rfl, hl⟩ := intsT_tup hns
    obtain ⟨ad, xs, rfl, h1, _, h2⟩ := ar_tup r1.fh k1
    cases dps_int h2
    refine ⟨ad, ns, rfl, h1, hl, fun p c hp hcn => ?_⟩
    obtain ⟨r2, st2⟩ := r1.lay (o := SetO X.w p (fun j => decide (j ∈ ns)) c) hp
    refine ⟨L, G, _, e1, r2, (After.bind (P1 := AOk X.K) (After.step a2 st2)).mono fun y H2 z2 => ?_⟩
    obtain ⟨F3, e3, d', r3, st3, k3, a3⟩ := z2
    obtain ⟨ms, hms, a4⟩ := a3.ofO
    have k3 : Ar X.K F3 H2 y d' := k3
    obtain ⟨rfl, hl2⟩ := intsT_tup hms
    obtain ⟨ad2, ys, rfl, h3, _, h4⟩ := ar_tup r3.fh k3
    cases dps_int h4
    obtain ⟨dd, hdd, a5⟩ := a4.ofO
    have hsum : ns.length + ms.length < 64 := by
      apply Classical.byContradiction
      intro z
      rw [if_neg z] at hdd
      cases hdd
    rw [if_pos hsum] at hdd
    cases hdd
    have hp2 : H2 p = some (SetO X.w p (fun j => decide (j ∈ ns)) c) := r3.fh _ _ (st3.s _ _ upd_same)
    refine ⟨ad2, ms, rfl, h3, hl2, fun p' c' hp' hcn' => ?_⟩
    have n1 : p ≠ p' := ne_of_none hp2 hp'
    refine ⟨p, p', _, _, c, c', rfl, rfl, (upd_ne n1).trans hp2, upd_same, by omega, by omega, fun p3 c3 hp3 hc3 => ?_⟩
    refine ⟨p3, _, c3, rfl, upd_same, by omega, fun out p4 o1 o2 o3 hp4 => ?_⟩
    refine ⟨p4, _, rfl, .inl ⟨SqL.of upd_same, fun l hl => ?_⟩⟩
    have eo : out = symI ns ms := ris_one o1 (sym_ris ns ms) fun k => (o2 k).trans mem_sym.symm
    subst eo
    have r4 := r3.put (o := SetO X.w p' (fun j => decide (j ∈ ms)) c') hp'
    have r5 := r4.put (o := SetO X.w p3 (fun j => decide (j ∈ ms) ^^ decide (j ∈ ns)) c3) hp3
    have r6 := r5.put (o := .lst ((symI ns ms).map V.int)) hp4
    obtain ⟨r7, st7⟩ := r6.lay (o := .tup ((symI ns ms).map V.int)) hl
    exact a5 (.ref l) _ _ r7 st7 (.tup (SqT.of upd_same) (ints_dps _))
/-- set(xs), xs a list of ints -/
def rSetLI (K : PySem.W.Frag) (w : World) : List V → Hp → VK → Prop := fun xs H Q => ∃ (t : Addr) (ns : List Int), xs = [V.ref t] ∧ SqL K H t (ns.map V.int) ∧ ns.length ≤ 4000 ∧
  ∀ p, H p = none → Q (.ref p) (upd H p (SetO w p (fun j => decide (j ∈ ns)) (ns.foldr insI []).length))
theorem fold_ris : ∀ l : List Int, (l.foldr insI []).Pairwise (· < ·)
  | [] => List.Pairwise.nil
  | _ :: l => ris_ins (fold_ris l)
theorem ris_nodup {l : List Int} (h : l.Pairwise (· < ·)) : l.Nodup := h.imp fun h => by omega
theorem cr_setLI (hc : X.calm = true) : CallR X (.type "set") (rSetLI X.K X.w) := by
  intro pins s σ H xs us Q I r h
  obtain ⟨t, ns, rfl, hq, hl, q⟩ := h
  rw [Vals.ref1 r]
  obtain ⟨its, rv, pl, hz⟩ := I.list hq
  have hn : H s.heap.objs.size = none := I.hok.fresh (Nat.le_refl _)
  refine call_set_lstI (P := X.prog) (w := X.w) ns (I.ok.hd hc) (show s.heap.IsList t its.toArray from pl.isList) (ints_of_vals rv) (by unfold scanBound; omega) fun h' tk c R1 hcn k => ?_
  have ec : c = (ns.foldr insI []).length := setR_len R1 (ris_nodup (fold_ris ns)) fun k => by rw [mem_fold]; simp
  subst ec
  exact ⟨.ref s.heap.objs.size, upd H s.heap.objs.size (SetO X.w s.heap.objs.size (fun j => decide (j ∈ ns)) (ns.foldr insI []).length), I.laid (t' := tk) k (Nat.le_refl _) (setO_new R1), rfl, q _ hn⟩
/-- set(xs), xs a list or a tuple of ints -/
def rSetXI (K : PySem.W.Frag) (w : World) : List V → Hp → VK → Prop := fun xs H Q => rSetLI K w xs H Q ∨ rSetTI K w xs H Q
theorem cr_setXI (hc : X.calm = true) : CallR X (.type "set") (rSetXI X.K X.w) := fun pins s σ H xs us Q I r h => h.elim (cr_setLI hc pins s σ H xs us Q I r) (cr_setTI hc pins s σ H xs us Q I r)
theorem pe_ssl {ta : TE} {p2 p3 q2 q3 : Pos} (hc : X.calm = true) (g2 : Gl X "sorted") (m2 : X.mg "sorted" = none) (g3 : Gl X "set") (m3 : X.mg "set" = none) (ha : PE X ea ta)
    (na : starEach [ea] X.env = (false, eval ea X.env) :: starEach [] X.env := by rfl) :
    PE X (.Call (.Name "sorted" p2) [.Call (.Name "set" p3) [ea] [] q3] [] q2) (tCB (rSortedSet X.w) (tCons (tCB (rSetXI X.K X.w) (tCons ta tNil)) tNil)) :=
  pe_callB (cr_sortedSet hc) g2 m2 PyProof.Rows.boot_sorted (pa_cons (pe_callTy (cr_setXI hc) g3 m3 PyProof.Rows.boot_set (pa_cons ha pa_nil (hs := na)) (he := na)) pa_nil)
theorem pv_ssl {p2 p3 q2 q3 : Pos} (hc : X.calm = true) (g2 : Gl X "sorted") (m2 : X.mg "sorted" = none) (g3 : Gl X "set") (m3 : X.mg "set" = none) (ha : PV X W ea ca)
    (na : starEach [ea] X.env = (false, eval ea X.env) :: starEach [] X.env := by rfl) :
    PV X W (.Call (.Name "sorted" p2) [.Call (.Name "set" p3) [ea] [] q3] [] q2) (sslC ca) :=
  pe_imp (pe_ssl hc g2 m2 g3 m3 (pv_d ha) na) fun σ H Q q => by
    obtain ⟨L, G, F, e, r, a⟩ := q
    simp only [tCB, tCons, tNil]
    refine ⟨L, G, F, e, r, (After.bind (P1 := AOk X.K) a).mono fun x H1 z => ?_⟩
    obtain ⟨F1, e1, d, r1, st1, k1, a1⟩ := z
    obtain ⟨rr, hr, a2⟩ := a1.ofO'
    have k1 : Ar X.K F1 H1 x d := k1
    -- what the sorted list comes to
    have fin : ∀ {ns : List Int} {p : Addr} {c : Nat}, rr = .fresh (.lst ((ns.foldr insI []).map .int)) → c < 64 → H1 p = none → rSortedSet X.w [.ref p] (upd H1 p (SetO X.w p (fun j => decide (j ∈ ns)) c)) Q := fun {ns p c} hrr hc hp => by
      subst hrr
      refine ⟨p, _, _, rfl, upd_same, hc, fun out p4 o1 o2 o3 hp4 => ?_⟩
      have eo : out = ns.foldr insI [] := ris_one o1 (fold_ris ns) fun k => (o2 k).trans (by rw [mem_fold]; simp)
      subst eo
      obtain ⟨r3, o3⟩ := fresh_put (r1.put hp) hp4 (ints_dps _)
      exact a2 (.ref p4) _ _ r3 (Step.refl G F1) o3
    cases d <;> simp only [sslD, reduceCtorEq] at hr
    · rename_i ds
      obtain ⟨ns, hns, hr2⟩ := Option.bind_eq_some_iff.mp hr
      split at hr2
      · rename_i c
        cases hr2
        have e1 := intsL_map hns
        subst e1
        obtain ⟨ad, xs, rfl, h1, h2⟩ := ar_lst2 r1.fh k1
        cases dps_int h2
        exact .inl ⟨ad, ns, rfl, h1, c.2, fun p hp => fin rfl c.1 hp⟩
      · cases hr2
    · rename_i ds
      obtain ⟨ns, hns, hr2⟩ := Option.bind_eq_some_iff.mp hr
      split at hr2
      · rename_i c
        cases hr2
        have e1 := intsL_map hns
        subst e1
        obtain ⟨ad, xs, rfl, h1, _, h2⟩ := ar_tup r1.fh k1
        cases dps_int h2
        exact .inr ⟨ad, ns, rfl, h1, c.2, fun p n hp hn => fin rfl (by omega) hp⟩
      · cases hr2
end
end Ev
set_option Elab.async false
set_option linter.all false
set_option maxRecDepth 100000
set_option maxHeartbeats 2000000
/-! Ev30: raise X(a, ..) of an own exception. -/
namespace Ev
open PySem PySem.Spec PyProof.Rows L2
theorem fs_ok {K : PySem.W.Frag} {F : Hp} : ∀ (fs : List Str) {ds : List D} {vs : List V}, DpAll K F vs ds → FsOk K F (fs.zip vs) (fs.zip ds)
  | [], _, _, _ => .nil
  | _ :: _, _, _, .nil => .nil
  | f :: fs, _, _, .cons h t => .cons h (fs_ok fs t)
theorem fs_app {K : PySem.W.Frag} {F : Hp} : ∀ {a : List (Str × V)} {b : List (Str × D)} {c : List (Str × V)} {d : List (Str × D)}, FsOk K F a b → FsOk K F c d → FsOk K F (a ++ c) (b ++ d)
  | _, _, _, _, .nil, h => h
  | _, _, _, _, .cons h t, h2 => .cons h (fs_app t h2)
theorem fs_rev {K : PySem.W.Frag} {F : Hp} : ∀ {a : List (Str × V)} {b : List (Str × D)}, FsOk K F a b → FsOk K F a.reverse b.reverse
  | _, _, .nil => .nil
  | _, _, .cons h t => by
    rw [List.reverse_cons, List.reverse_cons]
    exact fs_app (fs_rev t) (.cons h .nil)
theorem dpAll_len {K : PySem.W.Frag} {F : Hp} : ∀ {ds : List D} {vs : List V}, DpAll K F vs ds → ds.length = vs.length
  | _, _, .nil => rfl
  | _, _, .cons _ t => by rw [List.length_cons, List.length_cons, dpAll_len t]
theorem pz_rai {X : Cx} {W : WX} {x : String} {fs : List Str} {e : Expr} {es : List Expr} {cs : List Vc} {p pos pos' : Pos} (T0 : XcOk X.prog X.w X.K X.mg X.base x fs) (hr : Room 2 X.A) (tk : Takes X W) (hc : X.calm = true) (hg : Gl X (T x))
    (h : PVs X W (e :: es) cs) (hdb : (T x == ("__debug__" : Str)) = false) (he : starEach (e :: es) X.env = (false, eval e X.env) :: starEach es X.env) (hpl : (backTo pos (starEach es X.env)).any (·.1) = false) :
    PS X (.Raise (some (.Call (.Name (T x) p) (e :: es) [] pos)) none pos') (TrS X W (raiS x fs cs)) := by
  obtain ⟨bk, C, fI, fd, hm, TC, iC, tI, F1, hb, hno⟩ := T0
  refine ps_imp (ps_raise hc tk (pmk_ox TC iC tI F1 hr hb hg hm (pa_es h) hdb he hpl)) fun D σ H q => ?_
  obtain ⟨L, G, F, e0, r, a⟩ := q
  unfold raiS at a
  split at a
  · exact a.elim
  refine ⟨L, G, F, e0, r, (AfterS.bind (P1 := DsR X.K) a).mono fun vs H1 z => ?_⟩
  obtain ⟨F1', e1, ds, r1, st, p1, a1⟩ := z
  have p1 : DpAll X.K F1' vs ds := p1
  have a1 : AfterS X W L G F1' D (if ds.length = fs.length ∧ 0 < fs.length ∧ fs.length ≤ 9 then Res.exc ⟨T x, (fs.zip ds).reverse⟩ e1 else Res.bad) := a1
  split at a1
  case isFalse => exact a1.elim
  rename_i hl
  obtain ⟨hl, _, hm9⟩ := hl
  have hv : vs.length = fs.length := by rw [← dpAll_len p1]; exact hl
  refine ⟨by omega, fun a2 ha2 => ?_⟩
  refine ⟨a2, C, vs, rfl, hv, TC, hno, upd_same, fun H2 dx hdx hne ea ed ho => ?_⟩
  have hd1 : H1 dx = none := by rw [upd_ne hne] at hdx; exact hdx
  refine ⟨rfl, dx, _, ea, ed, hd1, ?_⟩
  have eH : upd (del H2 a2) dx (.xd (fs.zip vs).reverse) = upd H1 dx (.xd (fs.zip vs).reverse) := by
    funext b
    by_cases hb : b = dx
    · rw [hb, upd_same, upd_same]
    · rw [upd_ne hb, upd_ne hb]
      by_cases hb2 : b = a2
      · rw [hb2, del_same, ha2]
      · rw [del_ne hb2, ho b hb2 hb, upd_ne hb2]
  rw [eH]
  exact a1 (.ref C) (some dx) σ F1' _ (r1.put hd1) (Step.refl G F1') ⟨C, dx, _, hm, rfl, rfl, upd_same, fs_rev (fs_ok fs p1)⟩
end Ev
set_option Elab.async false
set_option linter.all false
set_option maxRecDepth 100000
set_option maxHeartbeats 2000000
/-! Ev31: try .. except (A, B) as e. -/
namespace Ev
open PySem PySem.Spec PyProof.Rows L2
section
variable {B : Heap} {fr : List PySem.Env} {a : Addr} {Z : Obj → Prop} {h h' : Heap}
/-- objects laid behind it do not touch a caught error -/
theorem flying_keeps (f : HandSPX.FlyingZ B fr a Z h) (k : ∀ b o, h.get? b = some o → h'.get? b = some o) : HandSPX.FlyingZ B fr a Z h' :=
  match f with
  | ⟨k1, k2, k3, oe, vs, T0, oT, ts, he, hz, hd, h1, hn, hne, hT, hr⟩ => ⟨fun b o z => k _ _ (k1 b o z), k2, Heap.FunFrames.of_keeps (fun b o e _ => ⟨o, k b o e, rfl⟩) k3, oe, vs, T0, oT, ts, k _ _ he, hz, hd, h1, hn, hne, k _ _ hT, hr⟩
/-- an error is no frame -/
theorem flying_apart (f : HandSPX.FlyingZ B fr a Z h) : a ∉ frs fr := by
  intro inF
  obtain ⟨oe, vs, at1, _, rec⟩ := f.there
  obtain ⟨_, o2, at2, plain⟩ := f.2.2.1.mem inF
  have same := Option.some.inj (at1.symm.trans at2)
  exact plain _ (same ▸ rec)
theorem frs_head {X : Cx} (hf : X.env.frame = some X.env.locals) : frs (X.env :: X.outer) = X.env.locals :: X.fs := by simp [frs, hf]
end
/-- what the clause wishes of an error of the body: slot i is e's -/
def wAs2 (K : PySem.W.Frag) (cs : List Value) (i : Nat) (ts : Addr → Value → Option Addr → TS) (Wout : WX) (D : Ends) : WX := fun cls d σ H =>
  ∃ b, PySem.W.exmAny K cls cs = some b ∧ if b then ∀ a, H a = none → ts a cls d ⟨fun σ' H' => D.nx (σ'.set i none) H', D.rt, fun σ' H' => D.bk (σ'.set i none) H', fun σ' H' => D.ct (σ'.set i none) H'⟩ (σ.set i (some (.ref a))) H else Wout cls d σ H
section
variable {X : Cx} {x1 x2 n : Str} {c1 c2 : Value} {i k : Nat} {body su : List Stmt} {st0 : Stmt} {q1 q2 q3 q4 pos : Pos} {tb : WX → TS} {ts : Addr → Value → Option Addr → TS} {Wout : WX}
/-- a class's name, looked up while the error is in hand -/
theorem class_read {a : Addr} {oe : Obj} {pn pins : List (Addr × Obj)} {σ : L2.St} {H : Hp} {s : Shared} {x : Str} {c : Value} {p : Pos} {Q : Value → Shared → Prop} {E : Value → Shared → Prop} (nm : L2.Names X x c) (S : Inv (X.suite a ((a, oe) :: pn)) pins σ H s) (q : Q c s) :
    wpAny (model X.prog X.w) (X.A.mark (some (.ref a))) (eval (.Name x p) X.env) Q E s := by
  rcases nm with ⟨gl, nd, own | ⟨no, bt, nn⟩⟩
  · exact ld_glob (X := X.suite a ((a, oe) :: pn)) S gl own q nd
  · exact ld_blt (X := X.suite a ((a, oe) :: pn)) S gl no bt q nn nd
theorem ps_try_as2 (hs : X.stack = X.env :: X.outer) (hf : X.env.frame = some X.env.locals) (nd : X.N.Nodup) (hi : X.N[i]? = some n) (loc : X.env.kindOf n = some .local) (n1 : L2.Names X x1 c1) (n2 : L2.Names X x2 c2) (tk : Takes X Wout)
    (bodyOk : ∀ W pn xe, Takes (X.tr pn xe) W → PassesOwn (model X.prog X.w) X.A X.env xe → PSs (X.tr pn xe) body (tb W))
    (suiteOk : ∀ a oe cls d pn, Zc cls d oe → (∃ vs, oe.data = .fields vs) → PSs (X.suite a ((a, oe) :: pn)) (st0 :: su) (ts a cls d)) :
    PS X (.Try body [.ExceptHandler (some (.Tuple [.Name x1 q1, .Name x2 q2] k q3)) (some n) (st0 :: su) q4] [] [] pos) (fun D σ H => tb (wAs2 X.K [c1, c2] i ts Wout D) D σ H) := by
  constructor
  intro pins s σ H D I rd
  have ok := I.ok
  have stk : X.A.frames = some (X.env :: X.outer) := ok.frames.trans (congrArg some hs)
  refine wpAny_Try_except (wpAny_mono ((bodyOk (wAs2 X.K [c1, c2] i ts Wout D) (X.pn ++ pins) (fun e z1 => wpAny (model X.prog X.w) X.A (noteFrame e X.env) (fun _ z2 => wpAny (model X.prog X.w) X.A (setFlight e none) (fun _ z3 =>
    wpAny (model X.prog X.w) X.A (handleBy e X.env [.ExceptHandler (some (.Tuple [.Name x1 q1, .Name x2 q2] k q3)) (some n) (st0 :: su) q4]) (SP X pins D) X.xe z3) X.xe z2) X.xe z1) ?caught PassesOwn.looking).run [] s σ H D (I.toTry _) rd) ?through fun _ _ z => z)
  case through =>
    intro fl s1 z
    cases fl <;> first
      | exact wpAny_execs_nil (let ⟨_, _, J1, q⟩ := z; ⟨_, _, J1.ofTry ok, q⟩)
      | exact (let ⟨_, _, J1, q⟩ := z; ⟨_, _, J1.ofTry ok, q⟩)
      | exact (let ⟨_, _, _, J1, r, q⟩ := z; ⟨_, _, _, J1.ofTry ok, r, q⟩)
  case caught =>
    rintro u s1 ⟨a, B, sI, pins1, σ1, H1, cls, d, rfl, Jt, nb, up, sky, na, os, ag, b, hb, wish⟩
    have J := Jt.ofTry ok
    refine Sky.land (Z := Zc cls d) Zc.steady stk hf (by rw [← hs]; exact sky) fun h2 f2 u2 => ?_
    have off := flying_apart f2
    rw [frs_head hf, List.mem_cons, not_or] at off
    have held : ∀ {h : Heap}, HandSPX.FlyingZ B (X.env :: X.outer) a (Zc cls d) h → s1.heap.UpToSlots h → Inv X pins σ1 H1 { s1 with heap := h } := fun f v => J.landed nb f.1 (up.trans v) os ag
    obtain ⟨oe, vs, ho, zo, hd⟩ := f2.there
    have S2 := (held f2 u2).suite ho hd na off.1 off.2
    refine wpAny_handleBy_cons (codeAny_handlers_test (wpAny_Tuple (wpAny_items_cons (class_read n1 S2 (wpAny_items_cons (class_read n2 S2 (wpAny_items_nil ⟨by size_fits, ?_⟩))))))) (fun z => by cases z)
    have more : ∀ b o, h2.get? b = some o → (h2.push { cls := .type "tuple", data := .seq [c1, c2].toArray }).get? b = some o := fun _ _ z => Heap.get?_push_of_some _ z
    have pair := Heap.get?_push_size h2 (o := { cls := .type "tuple", data := .seq [c1, c2].toArray }) rfl
    show wpAny _ _ (excMatches (.ref a) (.ref h2.objs.size)) _ _ { s1 with heap := h2.push { cls := .type "tuple", data := .seq [c1, c2].toArray } }
    generalize h2.push { cls := .type "tuple", data := .seq [c1, c2].toArray } = h3 at more pair ⊢
    have f3 := flying_keeps f2 more
    have u3 := u2.trans (Heap.UpToSlots.of_keeps more)
    refine (PySem.W.exm_tup2 (held f3 u3).kIn (fun A Q E s k q => wpAny_typeOf_ref (k _ _ (more _ _ ho)) (zo.1.symm ▸ q)) pair hb).here ?_
    cases b
    · -- no class of these: on it goes
      refine wpAny_handleBy_nil ?_
      have out : wpAny (model X.prog X.w) X.A (setFlight (.ref a) X.env.frame) (fun _ z => wpAny (model X.prog X.w) X.A (throw (.ref a) : Sem Flow) (SP X pins D) X.xe z) X.xe { s1 with heap := h3 } :=
        hf.symm ▸ HandSPX.setFlight_upZ f3 fun h4 f4 u4 => wpAny_throw (tk _ _ ⟨a, B, sI, _, σ1, H1, cls, d, rfl, J, nb, up.trans (u3.trans u4), .inr (.inr (hs.symm ▸ f4)), na, os, ag, wish⟩)
      obtain ⟨_, _, _, oe3, v3, tb3, _, _, ho3, _, hd3, at3, _⟩ := f3
      unfold PySem.passOn
      refine wpAny_bind (wpAny_field ho3 hd3 at3 ?_)
      have isRef : (Value.ref tb3 == Value.none) = false := rfl
      rw [isRef, if_neg Bool.false_ne_true]
      first
        | exact wpAny_bind out
        | exact wpAny_bind (wpAny_pure (wpAny_bind out))
    · -- the suite
      refine codeAny_handlers_suite_as (HandSPX.lands_againZ f3 fun h4 f4 u4 => ?_)
      obtain ⟨o4, v4, ho4, zo4, hd4⟩ := f4.there
      refine store_ok (X := X.suite a ((a, o4) :: (X.pn ++ pins))) (v := .ref a) ((held f4 (u3.trans u4)).suite ho4 hd4 na off.1 off.2) nd hi (.inl loc) rfl (fun s5 S5 => ?_) (.inr loc)
      refine wpAny_mono ((suiteOk a o4 cls d (X.pn ++ pins) zo4 ⟨_, hd4⟩).run [] s5 _ H1 _ S5 (wish a na)) (fun fl s6 z => ?_) fun _ _ z => z.elim
      cases fl <;> first
        | exact (let ⟨_, _, S6, q⟩ := z; gone_ok (S6.unsuite ok) nd hi loc fun _ J7 => ⟨_, _, J7, q⟩)
        | exact (let ⟨_, _, _, S6, r, q⟩ := z; gone_ok (S6.unsuite ok) nd hi loc fun _ J7 => ⟨_, _, _, J7, r, q⟩)
end
end Ev
set_option Elab.async false
set_option linter.all false
set_option maxRecDepth 100000
set_option maxHeartbeats 2000000
/-! Ev32: isinstance(e, C), isinstance(e, (C, D, ..)) of a caught error that has its dict. -/
namespace Ev
open PySem PySem.Spec PyProof.Rows L2
def rIsX (K : PySem.W.Frag) (C a dd : Addr) : List V → Hp → VK → Prop := fun xs H Q => (∃ fs, H dd = some (.xd fs)) ∧
  ((∃ (c : V) (cv : Value) (b : Bool), xs = [.ref a, c] ∧ (∀ u, RelV c u → u = cv) ∧ PySem.W.kitOne K (.ref C) cv = some b ∧ Q (.bl b) H) ∨
   (∃ (t : Addr) (cs : List V) (cvs : List Value) (b : Bool), xs = [.ref a, .ref t] ∧ SqT K H t cs ∧ (∀ us, Vals cs us → us = cvs) ∧ PySem.W.kitAny K (.ref C) cvs = some b ∧ Q (.bl b) H))
theorem call_isX {X : Cx} {a C dd : Addr} {oe : Obj} (hpn : (a, oe) ∈ X.pn) (T : ExcC X.K C) (hz : Zc (.ref C) (some dd) oe) (hf : ∃ vs, oe.data = .fields vs) :
    CallR X (.builtin "isinstance") (rIsX X.K C a dd) := by
  intro pins s σ H xs us Q I r h
  obtain ⟨⟨fs, ed⟩, h⟩ := h
  obtain ⟨hget, _⟩ := I.pin (a, oe) (List.mem_append.mpr (.inl hpn))
  obtain ⟨vs, hv⟩ := hf
  have hx : ObjOk X.prog X.w H s.heap dd (.xd fs) := I.hok dd _ ed
  obtain ⟨mA, hns, hr⟩ := hx
  obtain ⟨od, ho, hl⟩ := lookIn_ns hns
  have J : PySem.W.InstAt s.heap a oe C (some od) := ⟨hget, hz.1, by unfold PySem.W.notCls; rw [hv] <;> rfl, by rw [hz.2]; exact ho⟩
  have hcl : (PySem.W.clsIn X.K C).isSome = true := by
    obtain ⟨cd, hc, _⟩ := PySem.W.any_some T.hd
    rw [hc]
    rfl
  have Z := PySem.W.kitx_exc (K := X.K) (x := a) (C := C) (ox := oe) (od := some od) hcl T.hg T.hk T.hs T.ha T.hn T.ht T.hm
  rcases h with ⟨c, cv, b, rfl, hcv, e, q⟩ | ⟨t, cs, cvs, b, rfl, hsq, hcv, e, q⟩
  · cases r with
    | cons rx rr =>
      cases rr with
      | cons rt rr =>
        cases rr
        cases rx
        have ec := hcv _ rt
        subst ec
        exact PySem.W.kia_one Z I.kIn J e (fun z => nomatch z) fun tk => ⟨.bl b, H, I.kept (t' := tk) fun _ _ z => z, rfl, q⟩
  · cases r with
    | cons rx rr =>
      cases rr with
      | cons rt rr =>
        cases rr
        cases rx
        cases rt
        obtain ⟨its, rv, ⟨o, e0, e1, n, e2⟩, hz2⟩ := I.tuple hsq
        have ec := hcv _ rv
        subst ec
        obtain ⟨oc, od2, oda, osl⟩ := o
        dsimp only at e1 e2
        subst e1 e2
        exact PySem.W.kia_tup Z I.kIn J e0 e (fun z => nomatch z) fun tk => ⟨.bl b, H, I.kept (t' := tk) fun _ _ z => z, rfl, q⟩
end Ev
set_option Elab.async false
set_option linter.all false
set_option maxRecDepth 100000
set_option maxHeartbeats 2000000
/-! Ev33: what is read of an error in hand. -/
namespace Ev
open PySem PySem.Spec PyProof.Rows L2
section
variable {X : Cx} {W : WX} {BN : List String} {GL : List (String × D)} {KB : List KbE} {G : Gm}
/-- a class's name as isinstance is asked about it -/
def Cn (X : Cx) (x : String) (v : V) (u : Value) : Prop := (X.mg (T x) = some u ∨ (X.mg (T x) = none ∧ bootBuiltins (T x) = some u ∧ T x ≠ "__name__")) ∧ RelV v u ∧ ∀ u', RelV v u' → u' = u
theorem pe_cn {x : String} {v : V} {u : Value} {p : Pos} (h : Cn X x v u) (hg : Gl X (T x)) (hd : (T x == ("__debug__" : Str)) = false) : PE X (.Name (T x) p) (tC v) := by
  obtain ⟨q | ⟨q1, q2, q3⟩, r, _⟩ := h
  · exact pe_glob hg q r hd
  · exact pe_bltn hg q1 q2 r q3 hd
/-- what a slot with an error in hand stands for -/
theorem xc_slot {L : FrX X} {Gh F H : Hp} {σ : L2.St} {e : Env} {i : Nat} {x : Xn} (r : Rel X.K L Gh F H σ e) (he : e[i]? = some (.xc x)) (hot : X.calm = false) :
    ∃ a C dd fs oe, σ[i]? = some (some (.ref a)) ∧ X.mg x.cls = some (.ref C) ∧ H dd = some (.xd fs) ∧ FsOk X.K F fs x.fs ∧ (a, oe) ∈ X.pn ∧ Zc (.ref C) (some dd) oe ∧ ∃ vs, oe.data = .fields vs := by
  obtain ⟨a, C, dd, fs, x1, x2, x3, x4⟩ := r.sl i _ he
  obtain ⟨y1, oe, y2, y3, y4⟩ := L.2 hot a C dd x.cls x1
  exact ⟨a, C, dd, fs, oe, sg_some x2, y1, r.gh _ _ (r.bg _ _ x3), x4, y2, y3, y4⟩
theorem fs_lookup {K : PySem.W.Frag} {F : Hp} {f : Str} {d : D} : ∀ {fs : List (Str × V)} {gs : List (Str × D)}, FsOk K F fs gs → gs.lookup f = some d → ∃ v, fs.lookup f = some v ∧ Dp K F v d
  | _, _, .nil, h => by cases h
  | _, _, @FsOk.cons _ _ n v d0 fs gs h t, q => by
    rw [List.lookup_cons] at q ⊢
    cases hn : (f == n) with
    | true => rw [hn] at q; cases q; exact ⟨v, rfl, h⟩
    | false => rw [hn] at q; exact fs_lookup t q
end
end Ev
set_option Elab.async false
set_option linter.all false
set_option maxRecDepth 100000
set_option maxHeartbeats 2000000
/-! Ev34: isinstance(e, ..), e.f of an error in hand; list(range(..)), tuple(range(..)). -/
namespace Ev
open PySem PySem.Spec PyProof.Rows L2
section
variable {X : Cx} {W : WX} {G : Gm}
/-- names of classes, as they stand in a clause or a tuple -/
inductive CNs (X : Cx) : List String → List Expr → Prop where
  | nil : CNs X [] []
  | cons {x : String} {xs : List String} {es : List Expr} {p : Pos} : Gl X (T x) → (T x == ("__debug__" : Str)) = false → CNs X xs es → CNs X (x :: xs) (.Name (T x) p :: es)
def OnlyV (v : V) (u : Value) : Prop := RelV v u ∧ ∀ u', RelV v u' → u' = u
theorem any_cons {c : Str} {x : String} {xs : List String} {b : Bool} (h : anyX G c (x :: xs) = some b) : ∃ b1 b2, G.sub c x = some b1 ∧ anyX G c xs = some b2 ∧ b = (b1 || b2) := by
  unfold anyX at h
  split at h
  · rename_i b1 b2 h1 h2
    cases h
    exact ⟨b1, b2, h1, h2, rfl⟩
  · cases h
/-- names of classes, told -/
theorem any_names (sub : ∀ c x b, G.sub c x = some b → SubOk X.K X.mg c x b) {c : Str} {C : Addr} (hm : X.mg c = some (.ref C)) : ∀ {xs : List String} {es : List Expr} {b : Bool}, CNs X xs es → anyX G c xs = some b →
    ∃ vs us, PA X es (fun σ H Q => Q vs H) ∧ vs.length = es.length ∧ (∀ us', Vals vs us' → us' = us) ∧ PySem.W.kitAny X.K (.ref C) us = some b ∧ PySem.W.exmAny X.K (.ref C) us = some b ∧ (xs ≠ [] → ExcC X.K C) ∧ us.length = xs.length ∧
      ∀ (n : Nat) (x : String), xs[n]? = some x → ∃ u, us[n]? = some u ∧ (X.mg (T x) = some u ∨ X.mg (T x) = none)
  | [], _, b, .nil, h => by
    cases h
    exact ⟨[], [], pa_nil, rfl, fun us' v => by cases v; rfl, rfl, rfl, fun z => absurd rfl z, rfl, fun n x z => by simp at z⟩
  | x :: xs, _, b, .cons g d t, h => by
    obtain ⟨b1, b2, h1, h2, rfl⟩ := any_cons h
    obtain ⟨EC, v, u, q1, q2, q3, q4, q5⟩ := sub c x b1 h1 C hm
    obtain ⟨vs, us, p1, p2, p3, p4, p5, p6, p7, p8⟩ := any_names sub hm t h2
    refine ⟨v :: vs, u :: us, pa_cons (pe_cn ⟨q1, q2, q3⟩ g d) p1 rfl, by simp [p2], fun us' hv => ?_, ?_, ?_, fun _ => EC, by simp [p7], fun n y hy => ?_⟩
    · cases hv with
      | cons r rr => rw [q3 _ r, p3 _ rr]
    · unfold PySem.W.kitAny
      rw [q4]
      cases b1 with
      | true => rfl
      | false => exact p4
    · unfold PySem.W.exmAny
      rw [q5, p5]
    · cases n with
      | zero =>
        cases hy
        exact ⟨u, rfl, q1.imp id fun z => z.1⟩
      | succ n => exact p8 n y (by simpa using hy)
variable {i : Nat} {n : Str} {cs : List String} {es : List Expr} {p p1 p2 p3 pos : Pos} {k : Nat}
theorem pv_xisT (hot : X.calm = false) (sub : ∀ c x b, G.sub c x = some b → SubOk X.K X.mg c x b) (hN : X.N[i]? = some n) (hv : Vis X.env.scope n) (hd : (n == ("__debug__" : Str)) = false) (hcd : (n == ("__classdict__" : Str)) = false)
    (hg : Gl X "isinstance") (hm : X.mg "isinstance" = none) (hn : CNs X cs es) (h0 : cs ≠ []) (hl : es.length ≤ sizeLine) : PV X W (.Call (.Name "isinstance" p) [.Name n p1, .Tuple es k p2] [] pos) (xisC G i cs) := by
  refine ⟨fun pins s σ H Q I q => ?_⟩
  obtain ⟨L, Gh, F, e, r, a⟩ := q
  unfold xisC at a
  split at a
  case h_2 => exact a.elim
  rename_i xn he
  split at a
  case h_2 => exact a.elim
  rename_i b hb
  obtain ⟨ad, C, dd, fs, oe, h1, h2, h3, h4, h5, h6, h7⟩ := xc_slot r he hot
  obtain ⟨vs, us, g1, g2, g3, g4, g5, g6, _⟩ := any_names sub h2 hn hb
  refine (pe_callB (call_isX h5 (g6 h0) h6 h7) hg hm boot_isinstance (pa_cons (pe_var hN hv hd hcd) (pa_cons (pe_tup g1) pa_nil rfl) rfl) (by decide) (by decide) rfl rfl).run pins s σ H Q I ?_
  refine ⟨.ref ad, h1, by rw [g2]; exact hl, fun a1 ha1 => ?_⟩
  have ne : dd ≠ a1 := fun z => by rw [z, ha1] at h3; cases h3
  exact ⟨⟨fs, by rw [upd_ne ne]; exact h3⟩, .inr ⟨a1, vs, us, b, rfl, .inl (.inl upd_same), g3, g4, a (.bl b) F _ (r.put ha1) (Step.refl Gh F) (.bl b)⟩⟩
theorem pv_xis1 (hot : X.calm = false) (sub : ∀ c x b, G.sub c x = some b → SubOk X.K X.mg c x b) (hN : X.N[i]? = some n) (hv : Vis X.env.scope n) (hd : (n == ("__debug__" : Str)) = false) (hcd : (n == ("__classdict__" : Str)) = false)
    (hg : Gl X "isinstance") (hm : X.mg "isinstance" = none) {e1 : Expr} (hn : CNs X cs [e1]) : PV X W (.Call (.Name "isinstance" p) [.Name n p1, e1] [] pos) (xisC G i cs) := by
  refine ⟨fun pins s σ H Q I q => ?_⟩
  obtain ⟨L, Gh, F, e, r, a⟩ := q
  unfold xisC at a
  split at a
  case h_2 => exact a.elim
  rename_i xn he
  split at a
  case h_2 => exact a.elim
  rename_i b hb
  obtain ⟨ad, C, dd, fs, oe, h1, h2, h3, h4, h5, h6, h7⟩ := xc_slot r he hot
  cases hn with
  | cons gg dg t =>
    cases t
    obtain ⟨b1, b2, k1, k2, rfl⟩ := any_cons hb
    cases k2
    obtain ⟨EC, v, u, q1, q2, q3, q4, q5⟩ := sub _ _ _ k1 C h2
    refine (pe_callB (call_isX h5 EC h6 h7) hg hm boot_isinstance (pa_cons (pe_var hN hv hd hcd) (pa_cons (pe_cn ⟨q1, q2, q3⟩ gg dg) pa_nil rfl) rfl) (by decide) (by decide) rfl rfl).run pins s σ H Q I ?_
    refine ⟨.ref ad, h1, ⟨fs, h3⟩, .inl ⟨v, u, b1, rfl, q3, q4, ?_⟩⟩
    rw [Bool.or_false] at a
    exact a (.bl b1) F H r (Step.refl Gh F) (.bl b1)
/-- e.f -/
theorem pe_fld {a C dd : Addr} {oe : Obj} {f : Str} {e : Expr} {te : TE} (hpn : (a, oe) ∈ X.pn) (T : XfC X.K C) (hno : PySem.W.findIn X.K (.ref C) f = some none) (hz : Zc (.ref C) (some dd) oe) (hf : ∃ vs, oe.data = .fields vs) (he : PE X e te)
    (hb : attributeBase e f X.env (eval e X.env) = eval e X.env) : PE X (.Attribute e f pos) (fun σ H Q => te σ H fun x H1 => x = .ref a ∧ ∃ fs v, H1 dd = some (.xd fs) ∧ fs.lookup f = some v ∧ Q v H1) :=
  ⟨fun pins s σ H Q I h => attr_of hb (thn (he.run pins s σ H _ I h) fun w s1 z => by
    obtain ⟨x, H1, J, rx, ex, fs, v, at1, look, fin⟩ := z
    subst ex
    have ew : w = Value.ref a := rx
    subst ew
    have there := (J.pin (a, oe) (List.mem_append.mpr (.inl hpn))).1
    obtain ⟨_, data⟩ := hf
    obtain ⟨mA, isNs, rel⟩ := (show ObjOk X.prog X.w H1 s1.heap dd (.xd fs) from J.hok dd _ at1)
    obtain ⟨od, get, look2⟩ := lookIn_ns isNs
    obtain ⟨u, eu, ru⟩ := RelO.some_of (v := v) (o := mA f) (by rw [← look]; exact rel f)
    have inst : PySem.W.InstAt s1.heap a oe C (some od) := ⟨there, hz.1, by unfold PySem.W.notCls; rw [data] <;> rfl, by rw [hz.2]; exact get⟩
    exact HandSPX.exc_get J.kIn inst T.ga T.gg T.exC (PySem.W.findObj_own T.hdC hno rfl (by rw [look2, eu])) (handed_of ru) ⟨v, H1, J.tok _, ru, fin⟩)⟩
theorem pv_xat {f : String} (hot : X.calm = false) (fld : ∀ c f, G.fld c f = true → FldOk X.K X.mg c f) (hN : X.N[i]? = some n) (hv : Vis X.env.scope n) (hd : (n == ("__debug__" : Str)) = false) (hcd : (n == ("__classdict__" : Str)) = false) :
    PV X W (.Attribute (.Name n p) (Ev.T f) pos) (xatC G i f) := by
  refine ⟨fun pins s σ H Q I q => ?_⟩
  obtain ⟨L, Gh, F, e, r, a⟩ := q
  unfold xatC at a
  split at a
  case h_2 => exact a.elim
  rename_i xn he
  split at a
  · exact a.elim
  rename_i hfl
  split at a
  case h_2 => exact a.elim
  rename_i d hl
  obtain ⟨ad, C, dd, fs, oe, h1, h2, h3, h4, h5, h6, h7⟩ := xc_slot r he hot
  obtain ⟨XC, hno⟩ := fld _ _ (by simpa using hfl) C h2
  obtain ⟨v, g1, g2⟩ := fs_lookup h4 hl
  refine (pe_fld h5 XC hno h6 h7 (pe_var hN hv hd hcd) rfl).run pins s σ H Q I ⟨.ref ad, h1, rfl, fs, v, h3, g1, a v F H r (Step.refl Gh F) g2⟩
theorem res_assoc {α β γ : Type} (c : Res α) (f : α → Env → Res β) (g : β → Env → Res γ) : (c.bind f).bind g = c.bind fun a e => (f a e).bind g := by
  cases c <;> rfl
theorem rng_dp {F : Hp} (lo : Int) (n : Nat) : DpAll X.K F ((List.range n).map fun (k : Nat) => V.int (lo + (k : Int))) (rngD lo n) := by
  unfold rngD
  induction (List.range n) with
  | nil => exact .nil
  | cons m l ih => exact .cons (.int _) ih
variable {ea eb : Expr} {ca cb : Vc} {l : Bool}
/-- a range laid out -/
theorem rt_fin {L : FrX X} {Gh F H : Hp} {σ : L2.St} {e : Env} {Q : VK} {lo hi : Int} (r : Rel X.K L Gh F H σ e) {o : List V → HO} (ho : o = if l = true then HO.lst else HO.tup)
    (a : After X W L Gh F σ (ROk X.K) Q (.ok (if l = true then R.fresh (.lst (rngD lo (hi - lo).toNat)) else R.val (.tuple (rngD lo (hi - lo).toNat))) e)) (q : Addr) (hq : H q = none) : Q (.ref q) (upd H q (o (rgV lo hi))) := by
  have dp : ∀ F : Hp, DpAll X.K F (rgV lo hi) (rngD lo (hi - lo).toNat) := fun F => rng_dp lo _
  subst ho
  cases l with
  | true =>
    obtain ⟨r2, o2⟩ := fresh_put r hq (dp F)
    exact a (.ref q) _ _ r2 (Step.refl Gh F) o2
  | false =>
    obtain ⟨r2, st⟩ := r.lay (o := .tup (rgV lo hi)) hq
    exact a (.ref q) _ _ r2 st (.tup (.inl (.inl upd_same)) (dp _))
theorem pe_rgT {te : L2.St → Hp → (Int → Int → Hp → Prop) → Prop} {e : Expr} (hc : X.calm = true) (hg : Gl X (T (if l = true then "list" else "tuple"))) (hm : X.mg (T (if l = true then "list" else "tuple")) = none) (he : PRg X e te) (na : starEach [e] X.env = (false, eval e X.env) :: starEach [] X.env) :
    PE X (.Call (.Name (T (if l = true then "list" else "tuple")) p) [e] [] pos) (fun σ H Q => te σ H fun a b H1 => RgOk a b ∧ ∀ q, H1 q = none → Q (.ref q) (upd H1 q ((if l = true then HO.lst else HO.tup) (rgV a b)))) := by
  cases l with
  | true => exact pe_listRg hc hg hm he na
  | false => exact pe_tupRg hc hg hm he na
theorem okRg_of {i j : Int} (h : okRg i j = true) : (-(big : Int) ≤ i ∧ i ≤ big ∧ -(big : Int) ≤ j ∧ j ≤ big) ∧ (j - i).toNat ≤ big := @of_decide_eq_true _ (Classical.propDecidable _) h
theorem rtR_of {q : Bool} {x y : D} {r : R} (h : rtR q x y = some r) : ∃ i j, x = .int i ∧ y = .int j ∧ RgOk i j ∧ r = if q = true then .fresh (.lst (rngD i (j - i).toNat)) else .val (.tuple (rngD i (j - i).toNat)) := by
  unfold rtR at h
  split at h
  · split at h
    · rename_i i j hk
      cases h
      obtain ⟨⟨b1, b2, b3, b4⟩, b5⟩ := okRg_of hk
      have b1 : -(16777216 : Int) ≤ i := b1
      have b2 : i ≤ 16777216 := b2
      have b3 : -(16777216 : Int) ≤ j := b3
      have b4 : j ≤ 16777216 := b4
      have b5 : (j - i).toNat ≤ 16777216 := b5
      exact ⟨i, j, rfl, rfl, ⟨by omega, by omega, by omega, by omega, by omega⟩, rfl⟩
    · cases h
  · cases h
theorem pv_rt1 (hc : X.calm = true) (hg : Gl X (T (if l = true then "list" else "tuple"))) (hm : X.mg (T (if l = true then "list" else "tuple")) = none) (hg2 : Gl X (T "range")) (hm2 : X.mg (T "range") = none) (h : PV X W ea ca) (hs : starEach [ea] X.env = (false, eval ea X.env) :: starEach [] X.env) :
    PV X W (.Call (.Name (T (if l = true then "list" else "tuple")) p) [.Call (.Name (T "range") p1) [ea] [] p2] [] pos) (rt1C l ca) := by
  refine pe_imp (pe_rgT hc hg hm (prg_1 hg2 hm2 (pv_d h) hs) rfl) fun σ H Q q => ?_
  obtain ⟨L, Gh, F, e, r, a⟩ := q
  refine ⟨L, Gh, F, e, r, (After.bind (P1 := AOk X.K) a).mono fun x H1 z => ?_⟩
  obtain ⟨F1, e1, d, r1, st1, p1, a1⟩ := z
  obtain ⟨rr, hr, a2⟩ := After.ofO' a1
  obtain ⟨i, j, e0, rfl, ok, rfl⟩ := rtR_of hr
  cases e0
  rw [ar_int p1]
  exact ⟨j, rfl, ok, fun q hq => rt_fin (lo := 0) r1 rfl a2 q hq⟩
theorem pv_rt2 (hc : X.calm = true) (hg : Gl X (T (if l = true then "list" else "tuple"))) (hm : X.mg (T (if l = true then "list" else "tuple")) = none) (hg2 : Gl X (T "range")) (hm2 : X.mg (T "range") = none) (ha : PV X W ea ca) (hb : PV X W eb cb) (hs : starEach [ea, eb] X.env = (false, eval ea X.env) :: starEach [eb] X.env) (hs2 : starEach [eb] X.env = (false, eval eb X.env) :: starEach [] X.env) :
    PV X W (.Call (.Name (T (if l = true then "list" else "tuple")) p) [.Call (.Name (T "range") p1) [ea, eb] [] p2] [] pos) (rt2C l ca cb) := by
  refine pe_imp (pe_rgT hc hg hm (prg_2 hg2 hm2 (pv_n ha) (pv_n hb) hs hs2 (by rw [hs2]; rfl)) rfl) fun σ H Q q => ?_
  refine two_tr (P := ROk X.K) (Q := Q) (r := fun x y H Q' => ∃ i j, x = V.int i ∧ y = V.int j ∧ RgOk i j ∧ ∀ q, H q = none → Q' (.ref q) (upd H q ((if l = true then HO.lst else HO.tup) (rgV i j)))) (fun L Gh F H e x y d d' rl hx hy a => ?_) q
  obtain ⟨rr, hr, a2⟩ := After.ofO' a
  obtain ⟨i, j, rfl, rfl, ok, rfl⟩ := rtR_of hr
  rw [ar_int hx, ar_int hy]
  exact ⟨i, j, rfl, rfl, ok, fun q hq => rt_fin rl rfl a2 q hq⟩
end
end Ev
set_option Elab.async false
set_option linter.all false
set_option maxRecDepth 100000
set_option maxHeartbeats 2000000
/-! Ev35: try: .. except A as e, except (A, B) as e, of the evaluator. -/
namespace Ev
open PySem PySem.Spec PyProof.Rows L2
section
variable {K : PySem.W.Frag} {L : Fr} {G F H : Hp} {σ : L2.St} {e : Env} {i : Nat} {dd : Addr} {fs : List (Str × V)}
theorem no_xc {x : Xn} (h : noXc e = true) (hi : e[i]? = some (.xc x)) : False := by
  have := List.all_eq_true.mp h _ (List.mem_of_getElem? hi)
  exact Bool.false_ne_true this
/-- where no error is in hand it does not matter which one is said to be -/
theorem rel_noX {xa : Option (Addr × Addr × Addr × Str)} (r : Rel K L G F H σ e) (h : noXc e = true) : Rel K ⟨L.l, L.b, xa⟩ G F H σ e :=
  ⟨r.fh, r.gh, r.len, fun i s hs => by
    have q := r.sl i s hs
    cases s with
    | xc x => exact (no_xc h hs).elim
    | un => trivial
    | fz d => exact q
    | bo d => exact q
    | mu t k c => exact q, r.ap, r.bg⟩
theorem rel_none (hx : L.xa = none) (r : Rel K L G F H σ e) : noXc e = true := by
  refine List.all_eq_true.mpr fun s hs => ?_
  obtain ⟨i, hi⟩ := List.mem_iff_getElem?.mp hs
  cases s with
  | xc x =>
    obtain ⟨_, _, _, _, z, _⟩ := r.sl i _ hi
    rw [hx] at z
    cases z
  | _ => rfl
theorem sg_set {j : Nat} {o : Option V} (h : i ≠ j) : sg (σ.set i o) j = sg σ j := getD_set_ne h
theorem mu_set {j : Nat} {s : Sl} (hs : ∀ t k c, s ≠ .mu t k c) (hi : i < e.length) (h : isMu (e.set i s) j) : i ≠ j ∧ isMu e j := by
  obtain ⟨t, k, c, z⟩ := h
  by_cases hm : i = j
  · subst hm
    rw [List.getElem?_set_self hi] at z
    exact absurd (Option.some.inj z) (hs t k c)
  · rw [List.getElem?_set_ne hm] at z
    exact ⟨hm, t, k, c, z⟩
theorem same_xd {P : Hp} (h : Same P H) (hd : H dd = some (.xd fs)) : Same P (upd P dd (.xd fs)) := fun b o q => by
  by_cases hb : b = dd
  · subst hb
    rw [upd_same, ← hd]
    exact h _ _ q
  · rw [upd_ne hb]
    exact q
theorem sql_down {P : Hp} {a : Addr} {xs : List V} (h : SqL K (upd P dd (.xd fs)) a xs) : SqL K P a xs := by
  by_cases ha : a = dd
  · subst ha
    rcases h with (h | ⟨o, h⟩) | h
    · rw [upd_same] at h
      cases h
    · rw [upd_same] at h
      cases h
    · exact .inr h
  · rcases h with (h | ⟨o, h⟩) | h
    · rw [upd_ne ha] at h
      exact .inl (.inl h)
    · rw [upd_ne ha] at h
      exact .inl (.inr ⟨o, h⟩)
    · exact .inr h
/-- an error taken in hand -/
theorem rel_hand {a C : Addr} {x : Xn} (hx : L.xa = none) (r : Rel K L G F H σ e) (hd : H dd = some (.xd fs)) (hf : FsOk K F fs x.fs) (hi : e[i]? = some .un) :
    Rel K ⟨L.l, upd L.b dd (.xd fs), some (a, C, dd, x.cls)⟩ (upd G dd (.xd fs)) F H (σ.set i (some (.ref a))) (e.set i (.xc x)) := by
  have hlt : i < e.length := (List.getElem?_eq_some_iff.mp hi).1
  refine ⟨r.fh, fun b o q => ?_, by rw [List.length_set, List.length_set]; exact r.len, fun j s hj => ?_, fun j k b hjk m1 m2 e1 => ?_, same_upd2 r.bg⟩
  · by_cases hb : b = dd
    · subst hb
      rw [upd_same] at q
      rw [hd, q]
    · rw [upd_ne hb] at q
      exact r.gh _ _ q
  · by_cases hij : i = j
    · subst hij
      rw [List.getElem?_set_self hlt] at hj
      cases hj
      refine ⟨a, C, dd, fs, rfl, ?_, upd_same, hf⟩
      show (σ.set i (some (.ref a))).getD i none = _
      rw [List.getD, List.getElem?_set_self (by rw [r.len]; exact hlt)]
      rfl
    · rw [List.getElem?_set_ne hij] at hj
      have q := r.sl j s hj
      cases s with
      | un => trivial
      | fz d => obtain ⟨v, e1, q⟩ := q; exact ⟨v, by rw [sg_set hij]; exact e1, q⟩
      | bo d =>
        obtain ⟨v, e1, q⟩ := q
        refine ⟨v, by rw [sg_set hij]; exact e1, ?_⟩
        rcases q with q | ⟨b, xs, ds, h1, h2, h3, h4⟩
        · exact .inl q
        · exact .inr ⟨b, xs, ds, h1, h2, (same_xd (r.bg.trans r.gh) hd).seq h3, h4⟩
      | xc y =>
        obtain ⟨_, _, _, _, z, _⟩ := q
        rw [hx] at z
        cases z
      | mu t k c =>
        obtain ⟨b, e1, ⟨q1, q2, o, q3, q4⟩, q5⟩ := q
        refine ⟨b, by rw [sg_set hij]; exact e1, ⟨q1, ?_, o, q3, q4⟩, q5⟩
        rw [upd_ne]
        · exact q2
        · rintro rfl
          rw [hd] at q3
          cases q3
          cases c <;> exact (show False from q4)
  · obtain ⟨n1, m1⟩ := mu_set (by intro _ _ _ z; cases z) hlt m1
    obtain ⟨n2, m2⟩ := mu_set (by intro _ _ _ z; cases z) hlt m2
    rw [sg_set n1] at e1
    rw [sg_set n2]
    exact r.ap j k b hjk m1 m2 e1
/-- .. put off again -/
theorem rel_back {xa xa' : Option (Addr × Addr × Addr × Str)} {l : Nat → Option Addr} {b0 : Hp} (gs : Same G (upd G dd (.xd fs))) (hbg : Same b0 G) (r : Rel K ⟨l, upd b0 dd (.xd fs), xa⟩ (upd G dd (.xd fs)) F H σ e) (hn : noXc (e.set i .un) = true) (hi : i < e.length) :
    Rel K ⟨l, b0, xa'⟩ G F H (σ.set i none) (e.set i .un) := by
  refine ⟨r.fh, gs.trans r.gh, by rw [List.length_set, List.length_set]; exact r.len, fun j s hj => ?_, fun j k b hjk m1 m2 e1 => ?_, hbg⟩
  · by_cases hij : i = j
    · subst hij
      rw [List.getElem?_set_self hi] at hj
      cases hj
      trivial
    · have hj0 := hj
      rw [List.getElem?_set_ne hij] at hj
      have q := r.sl j s hj
      cases s with
      | un => trivial
      | fz d => obtain ⟨v, e1, q⟩ := q; exact ⟨v, by rw [sg_set hij]; exact e1, q⟩
      | bo d =>
        obtain ⟨v, e1, q⟩ := q
        refine ⟨v, by rw [sg_set hij]; exact e1, ?_⟩
        rcases q with q | ⟨b, xs, ds, h1, h2, h3, h4⟩
        · exact .inl q
        · exact .inr ⟨b, xs, ds, h1, h2, sql_down h3, h4⟩
      | xc y => exact (no_xc hn hj0).elim
      | mu t k c =>
        obtain ⟨b, e1, ⟨q1, q2, o, q3, q4⟩, q5⟩ := q
        exact ⟨b, by rw [sg_set hij]; exact e1, ⟨q1, gs.free q2, o, q3, q4⟩, q5⟩
  · obtain ⟨n1, m1⟩ := mu_set (by intro _ _ _ z; cases z) hi m1
    obtain ⟨n2, m2⟩ := mu_set (by intro _ _ _ z; cases z) hi m2
    rw [sg_set n1] at e1
    rw [sg_set n2]
    exact r.ap j k b hjk m1 m2 e1
theorem rok_back {r : R} {v : V} (gs : Same G (upd G dd (.xd fs))) (h : ROk K (upd G dd (.xd fs)) F H σ e r v) (hf : flOk i (.rt r) = true) (hi : i < e.length) : ROk K G F H (σ.set i none) (e.set i .un) r v := by
  cases r with
  | val d => exact h
  | slot j =>
    have h : sg σ j = some v := h
    have hj : (j != i) = true := hf
    show sg (σ.set i none) j = some v
    rw [sg_set (fun z => by subst z; simp at hj)]
    exact h
  | fresh c =>
    obtain ⟨p, hp, ⟨q1, q2, q3⟩, hn⟩ := h
    refine ⟨p, hp, ⟨q1, gs.free q2, q3⟩, fun j m => ?_⟩
    obtain ⟨n1, m1⟩ := mu_set (by intro _ _ _ z; cases z) hi m
    rw [sg_set n1]
    exact hn j m1
theorem step_back {F' : Hp} (gs : Same G (upd G dd (.xd fs))) (s : Step (upd G dd (.xd fs)) F F') : Step G F F' := ⟨s.s, fun a h => s.g a fun z => h (gs.free z)⟩
end
section
variable {X : Cx} {W : WX} {G : Gm} {i : Nat} {cs : List String} {b su : Sc}
/-- what the body asks -/
def tB (X : Cx) (b : Sc) (W : WX) : TS := fun D σ H => ∃ (L : Fr) (Gh F : Hp) (e : Env), L.xa = none ∧ Rel X.K L Gh F H σ e ∧ AfterS X W L Gh F D (b e)
/-- what the suite asks -/
def tSu (X : Cx) (su : Sc) (a : Addr) (cls : Value) (d : Option Addr) : TS := fun D σ H => ∃ (L : Fr) (C dd : Addr) (x : Str) (Gh F : Hp) (e : Env), L.xa = some (a, C, dd, x) ∧ cls = .ref C ∧ d = some dd ∧ X.mg x = some (.ref C) ∧ Rel X.K L Gh F H σ e ∧ AfterS X W0 L Gh F D (su e)
abbrev offD (i : Nat) (D : Ends) : Ends := ⟨fun σ' H' => D.nx (σ'.set i none) H', D.rt, fun σ' H' => D.bk (σ'.set i none) H', fun σ' H' => D.ct (σ'.set i none) H'⟩
theorem tra_body {D : Ends} {σ : L2.St} {H : Hp} {W1 : WX} (q : TrS X W (traS G i cs b su) D σ H)
    (hf : ∀ (c : Str) (C : Addr) (d : Option Addr) (σ : L2.St) (H : Hp), X.mg c = some (.ref C) → anyX G c cs = some false → W (.ref C) d σ H → W1 (.ref C) d σ H)
    (ht : ∀ (c : Str) (C : Addr) (d : Option Addr) (σ : L2.St) (H : Hp), X.mg c = some (.ref C) → anyX G c cs = some true → (∀ a, H a = none → tSu X su a (.ref C) d (offD i D) (σ.set i (some (.ref a))) H) → W1 (.ref C) d σ H) : tB X b W1 D σ H := by
  obtain ⟨L, Gh, F, e, r, a⟩ := q
  unfold traS at a
  split at a
  case isFalse => exact a.elim
  rename_i hno
  refine ⟨⟨L.1.l, L.1.b, none⟩, Gh, F, e, rfl, rel_noX r hno.1, ?_⟩
  cases hb : b e with
  | bad => rw [hb] at a; exact a.elim
  | ok f e1 =>
    rw [hb] at a
    have a : AfterS X W L Gh F D (.ok f e1) := a
    cases f with
    | nx => exact fun σ' F' H' r1 st => a σ' F' H' (rel_noX (L := ⟨L.1.l, L.1.b, none⟩) (xa := L.1.xa) r1 (rel_none rfl r1)) st
    | br => exact fun σ' F' H' r1 st => a σ' F' H' (rel_noX (L := ⟨L.1.l, L.1.b, none⟩) (xa := L.1.xa) r1 (rel_none rfl r1)) st
    | ct => exact fun σ' F' H' r1 st => a σ' F' H' (rel_noX (L := ⟨L.1.l, L.1.b, none⟩) (xa := L.1.xa) r1 (rel_none rfl r1)) st
    | rt q => exact fun v σ' F' H' r1 st p => a v σ' F' H' (rel_noX (L := ⟨L.1.l, L.1.b, none⟩) (xa := L.1.xa) r1 (rel_none rfl r1)) st p
  | exc x e1 =>
    rw [hb] at a
    intro cls d0 σ' F' H' r1 st1 xo
    obtain ⟨C, dd, fs, m1, rfl, rfl, hd, hfs⟩ := xo
    dsimp only at a
    split at a
    · exact a.elim
    · rename_i hany
      exact hf x.cls C _ σ' H' m1 hany (a (.ref C) (some dd) σ' F' H' (rel_noX (L := ⟨L.1.l, L.1.b, none⟩) (xa := L.1.xa) r1 (rel_none rfl r1)) st1 ⟨C, dd, fs, m1, rfl, rfl, hd, hfs⟩)
    · rename_i hany
      split at a
      case h_2 => exact a.elim
      rename_i hun
      split at a
      case h_2 => exact a.elim
      rename_i f e2 hsu
      split at a
      case isFalse => exact a.elim
      rename_i hc
      obtain ⟨c1, c2, c3⟩ := hc
      refine ht x.cls C _ σ' H' m1 hany fun ad had => ⟨_, C, dd, x.cls, _, F', _, rfl, rfl, rfl, m1, rel_hand rfl r1 hd hfs hun, ?_⟩
      have gs : Same Gh (upd Gh dd (.xd fs)) := same_xd r1.gh hd
      rw [hsu]
      cases f with
      | nx => exact fun σ2 F2 H2 r2 st2 => a _ F2 H2 (rel_back gs r1.bg r2 c1 c3) (st1.trans (step_back gs st2))
      | br => exact fun σ2 F2 H2 r2 st2 => a _ F2 H2 (rel_back gs r1.bg r2 c1 c3) (st1.trans (step_back gs st2))
      | ct => exact fun σ2 F2 H2 r2 st2 => a _ F2 H2 (rel_back gs r1.bg r2 c1 c3) (st1.trans (step_back gs st2))
      | rt q => exact fun v σ2 F2 H2 r2 st2 p => a v _ F2 H2 (rel_back gs r1.bg r2 c1 c3) (st1.trans (step_back gs st2)) (rok_back gs p c2 c3)
variable {n : Str} {body sts : List Stmt} {st0 : Stmt} {p1 p2 p3 p4 pos : Pos} {k : Nat}
theorem tra_tB (hb : ∀ W pn xe, Takes (X.tr pn xe) W → PassesOwn (model X.prog X.w) X.A X.env xe → PVS (X.tr pn xe) W body b) : ∀ (W : WX) (pn : List (Addr × Obj)) (xe : Value → Shared → Prop), Takes (X.tr pn xe) W → PassesOwn (model X.prog X.w) X.A X.env xe → PSs (X.tr pn xe) body (tB X b W) :=
  fun W pn xe tk own => pss_imp (hb W pn xe tk own) fun D σ H ⟨L, Gh, F, e, hx, r, a⟩ => ⟨⟨L, fun _ a C dd x z => by rw [hx] at z; cases z⟩, Gh, F, e, r, a⟩
theorem tra_tS (hsu : ∀ a oe pn, PVS (X.suite a ((a, oe) :: pn)) W0 (st0 :: sts) su) : ∀ (a : Addr) (oe : Obj) (cls : Value) (d : Option Addr) (pn : List (Addr × Obj)), Zc cls d oe → (∃ vs, oe.data = .fields vs) → PSs (X.suite a ((a, oe) :: pn)) (st0 :: sts) (tSu X su a cls d) :=
  fun a oe cls d pn hz hfl => pss_imp (hsu a oe pn) fun D σ H ⟨L, C, dd, x, Gh, F, e, h1, h2, h3, h4, r, af⟩ => ⟨⟨L, fun _ a' C' dd' x' z => by
    rw [h1] at z
    cases z
    subst h2
    subst h3
    exact ⟨h4, oe, List.mem_cons_self, hz, hfl⟩⟩, Gh, F, e, r, af⟩
theorem us_two {α : Type} {us : List α} {a b : α} (hl : us.length = 2) (h0 : us[0]? = some a) (h1 : us[1]? = some b) : us = [a, b] := by
  match us, hl with
  | [x, y], _ =>
    simp at h0 h1
    rw [h0, h1]
theorem pz_tra2 {x1 x2 : String} (hs : X.stack = X.env :: X.outer) (hf : X.env.frame = some X.env.locals) (nd : X.N.Nodup) (hi : X.N[i]? = some n) (loc : X.env.kindOf n = some .local) (hn : CNs X [x1, x2] [.Name (Ev.T x1) p1, .Name (Ev.T x2) p2]) (tk : Takes X W)
    (sub : ∀ c x b, G.sub c x = some b → SubOk X.K X.mg c x b) (kn : ∀ x ∈ G.kn, ∃ C, X.mg (Ev.T x) = some (.ref C))
    (hb : ∀ W pn xe, Takes (X.tr pn xe) W → PassesOwn (model X.prog X.w) X.A X.env xe → PVS (X.tr pn xe) W body b) (hsu : ∀ a oe pn, PVS (X.suite a ((a, oe) :: pn)) W0 (st0 :: sts) su) :
    PV1 X W (.Try body [.ExceptHandler (some (.Tuple [.Name (Ev.T x1) p1, .Name (Ev.T x2) p2] k p3)) (some n) (st0 :: sts) p4] [] [] pos) (traS G i [x1, x2] b su) := by
  refine ⟨fun pins s σ H D I q => ?_⟩
  have q0 := q
  obtain ⟨L, Gh, F, e, r, a⟩ := q0
  unfold traS at a
  split at a
  case isFalse => exact a.elim
  rename_i hno
  have hall := List.all_eq_true.mp hno.2
  obtain ⟨C1, m1⟩ := kn x1 (by simpa using hall x1 List.mem_cons_self)
  obtain ⟨C2, m2⟩ := kn x2 (by simpa using hall x2 (List.mem_cons_of_mem _ List.mem_cons_self))
  have two : ∀ {c : Str} {C : Addr} {bb : Bool}, X.mg c = some (.ref C) → anyX G c [x1, x2] = some bb → PySem.W.exmAny X.K (.ref C) [.ref C1, .ref C2] = some bb := fun {c C bb} m h => by
    obtain ⟨vs, us, _, _, _, _, g5, _, g7, g8⟩ := any_names sub m hn h
    obtain ⟨u1, w1, w2⟩ := g8 0 x1 rfl
    obtain ⟨u2, w3, w4⟩ := g8 1 x2 rfl
    rw [m1] at w2
    rw [m2] at w4
    have y1 : u1 = .ref C1 := by
      rcases w2 with w2 | w2
      · exact (Option.some.inj w2).symm
      · cases w2
    have y2 : u2 = .ref C2 := by
      rcases w4 with w4 | w4
      · exact (Option.some.inj w4).symm
      · cases w4
    rw [us_two g7 w1 w3, y1, y2] at g5
    exact g5
  cases hn with
  | cons g1 d1 t =>
    cases t with
    | cons g2 d2 t =>
      refine (ps_try_as2 (tb := tB X b) (ts := tSu X su) hs hf nd hi loc ⟨g1, d1, .inl m1⟩ ⟨g2, d2, .inl m2⟩ tk (tra_tB hb) (tra_tS hsu)).run pins s σ H D I (tra_body q (fun c C d σ H m h w => ?_) fun c C d σ H m h w => ?_)
      · exact ⟨false, two m h, w⟩
      · exact ⟨true, two m h, w⟩
theorem pz_tra1 {x1 : String} (hs : X.stack = X.env :: X.outer) (hf : X.env.frame = some X.env.locals) (nd : X.N.Nodup) (hi : X.N[i]? = some n) (loc : X.env.kindOf n = some .local) (hn : CNs X [x1] [.Name (Ev.T x1) p1]) (tk : Takes X W)
    (sub : ∀ c x b, G.sub c x = some b → SubOk X.K X.mg c x b) (kn : ∀ x ∈ G.kn, ∃ C, X.mg (Ev.T x) = some (.ref C))
    (hb : ∀ W pn xe, Takes (X.tr pn xe) W → PassesOwn (model X.prog X.w) X.A X.env xe → PVS (X.tr pn xe) W body b) (hsu : ∀ a oe pn, PVS (X.suite a ((a, oe) :: pn)) W0 (st0 :: sts) su) :
    PV1 X W (.Try body [.ExceptHandler (some (.Name (Ev.T x1) p1)) (some n) (st0 :: sts) p4] [] [] pos) (traS G i [x1] b su) := by
  refine ⟨fun pins s σ H D I q => ?_⟩
  have q0 := q
  obtain ⟨L, Gh, F, e, r, a⟩ := q0
  unfold traS at a
  split at a
  case isFalse => exact a.elim
  rename_i hno
  have hall := List.all_eq_true.mp hno.2
  obtain ⟨C1, m1⟩ := kn x1 (by simpa using hall x1 List.mem_cons_self)
  have one : ∀ {c : Str} {C : Addr} {bb : Bool}, X.mg c = some (.ref C) → anyX G c [x1] = some bb → PySem.W.exmOne X.K (.ref C) (.ref C1) = some bb := fun {c C bb} m h => by
    obtain ⟨b1, b2, h1, h2, rfl⟩ := any_cons h
    cases h2
    obtain ⟨_, v, u, q1, _, _, _, q5⟩ := sub _ _ _ h1 C m
    rw [m1] at q1
    have y1 : u = .ref C1 := by
      rcases q1 with q1 | q1
      · exact (Option.some.inj q1).symm
      · cases q1.1
    rw [y1] at q5
    rw [q5, Bool.or_false]
  cases hn with
  | cons g1 d1 t =>
    refine (L2.ps_try_as (tb := tB X b) (ts := tSu X su) hs hf nd hi loc ⟨g1, d1, .inl m1⟩ tk (tra_tB hb) (tra_tS hsu)).run pins s σ H D I (tra_body q (fun c C d σ H m h w => ?_) fun c C d σ H m h w => ?_)
    · exact ⟨false, one m h, (fun z => by cases z), fun _ => w⟩
    · exact ⟨true, one m h, fun _ => w, (fun z => by cases z)⟩
/-- raise -/
theorem pz_raiG {BN : List String} {GL : List (String × D)} {KB : List KbE} {x : String} {e : Expr} {es : List Expr} {cs : List Vc} {p pos pos' : Pos} (ok : Ok X W BN GL KB G) (hc : X.calm = true) (hg : Gl X (Ev.T x)) (h : PVs X W (e :: es) cs) (hdb : (Ev.T x == ("__debug__" : Str)) = false)
    (he : starEach (e :: es) X.env = (false, eval e X.env) :: starEach es X.env) (hpl : (backTo pos (starEach es X.env)).any (·.1) = false) :
    PV1 X W (.Raise (some (.Call (.Name (Ev.T x) p) (e :: es) [] pos)) none pos') (raiS x (G.xc x) cs) := by
  by_cases hx : G.xc x = []
  · rw [hx]
    exact ⟨fun pins s σ H D I q => by
      obtain ⟨_, _, _, _, _, a⟩ := q
      exact a.elim⟩
  · obtain ⟨hr, T0⟩ := ok.xc hc x hx
    exact pz_rai T0 hr ok.tk hc hg h hdb he hpl
/-! a clause without a name -/
def tSo (X : Cx) (su : Sc) : TS := fun D σ H => ∃ (L : Fr) (Gh F : Hp) (e : Env), L.xa = none ∧ Rel X.K L Gh F H σ e ∧ AfterS X W0 L Gh F D (su e)
theorem pz_tro {x1 : String} (hs : X.stack = X.env :: X.outer) (hf : X.env.frame = some X.env.locals) (hn : CNs X [x1] [.Name (Ev.T x1) p1]) (tk : Takes X W)
    (sub : ∀ c x b, G.sub c x = some b → SubOk X.K X.mg c x b) (kn : ∀ x ∈ G.kn, ∃ C, X.mg (Ev.T x) = some (.ref C))
    (hb : ∀ W pn xe, Takes (X.tr pn xe) W → PassesOwn (model X.prog X.w) X.A X.env xe → PVS (X.tr pn xe) W body b) (hsu : ∀ a oe pn, PVS (X.suite a ((a, oe) :: pn)) W0 (st0 :: sts) su) :
    PV1 X W (.Try body [.ExceptHandler (some (.Name (Ev.T x1) p1)) none (st0 :: sts) p4] [] [] pos) (troS G [x1] b su) := by
  refine ⟨fun pins s σ H D I q => ?_⟩
  obtain ⟨L, Gh, F, e, r, a⟩ := q
  unfold troS at a
  split at a
  case isFalse => exact a.elim
  rename_i hno
  obtain ⟨C1, m1⟩ := kn x1 (by simpa using List.all_eq_true.mp hno.2 x1 List.mem_cons_self)
  have one : ∀ {c : Str} {C : Addr} {bb : Bool}, X.mg c = some (.ref C) → anyX G c [x1] = some bb → PySem.W.exmOne X.K (.ref C) (.ref C1) = some bb := fun {c C bb} m h => by
    obtain ⟨b1, b2, h1, h2, rfl⟩ := any_cons h
    cases h2
    obtain ⟨_, v, u, q1, _, _, _, q5⟩ := sub _ _ _ h1 C m
    rw [m1] at q1
    have y1 : u = .ref C1 := by
      rcases q1 with q1 | q1
      · exact (Option.some.inj q1).symm
      · cases q1.1
    rw [y1] at q5
    rw [q5, Bool.or_false]
  have still : ∀ {F' H' : Hp} {σ' : L2.St} {e' : Env}, Rel X.K ⟨L.1.l, L.1.b, none⟩ Gh F' H' σ' e' → Rel X.K L Gh F' H' σ' e' := fun {F' H' σ' e'} r1 => rel_noX (L := ⟨L.1.l, L.1.b, none⟩) (xa := L.1.xa) r1 (rel_none rfl r1)
  cases hn with
  | cons g1 d1 t =>
    refine (L2.ps_try_only (tb := tB X b) (ts := fun _ _ _ => tSo X su) hs hf ⟨g1, d1, .inl m1⟩ tk (tra_tB hb) fun a oe cls d pn hz hfl => pss_imp (hsu a oe pn) fun D σ H ⟨L, Gh, F, e, hx, r, a⟩ => ⟨⟨L, fun _ a C dd x z => by rw [hx] at z; cases z⟩, Gh, F, e, r, a⟩).run pins s σ H D I ⟨⟨L.1.l, L.1.b, none⟩, Gh, F, e, rfl, rel_noX r hno.1, ?_⟩
    cases hbe : b e with
    | bad => rw [hbe] at a; exact a.elim
    | ok f e1 =>
      rw [hbe] at a
      have a : AfterS X W L Gh F D (.ok f e1) := a
      cases f with
      | nx => exact fun σ' F' H' r1 st => a σ' F' H' (still r1) st
      | br => exact fun σ' F' H' r1 st => a σ' F' H' (still r1) st
      | ct => exact fun σ' F' H' r1 st => a σ' F' H' (still r1) st
      | rt q => exact fun v σ' F' H' r1 st p => a v σ' F' H' (still r1) st p
    | exc x e1 =>
      rw [hbe] at a
      intro cls d0 σ' F' H' r1 st1 xo
      obtain ⟨C, dd, fs, mc, rfl, rfl, hd, hfs⟩ := xo
      dsimp only at a
      split at a
      · exact a.elim
      · rename_i hany
        exact ⟨false, one mc hany, (fun z => by cases z), fun _ => a (.ref C) (some dd) σ' F' H' (still r1) st1 ⟨C, dd, fs, mc, rfl, rfl, hd, hfs⟩⟩
      · rename_i hany
        refine ⟨true, one mc hany, fun _ ad had => ⟨⟨L.1.l, L.1.b, none⟩, Gh, F', e1, rfl, r1, ?_⟩, (fun z => by cases z)⟩
        split at a
        case h_2 => exact a.elim
        rename_i f e2 hsu2
        rw [hsu2]
        cases f with
        | nx => exact fun σ2 F2 H2 r2 st2 => a _ F2 H2 (still r2) (st1.trans st2)
        | br => exact fun σ2 F2 H2 r2 st2 => a _ F2 H2 (still r2) (st1.trans st2)
        | ct => exact fun σ2 F2 H2 r2 st2 => a _ F2 H2 (still r2) (st1.trans st2)
        | rt q => exact fun v σ2 F2 H2 r2 st2 p => a v _ F2 H2 (still r2) (st1.trans st2) p
/-! x[k], x[l] = v, w -/
theorem sto_state {L : FrX X} {Gh F H : Hp} {σ : L2.St} {e : Env} {ck : Vc} {d : D} {v : V} {E : Ends} {f : Env → Res Fl} {Q : L2.St → Hp → Prop} (r : Rel X.K L Gh F H σ e) (hv : Dp X.K F v d) (a : AfterS X W L Gh F E (stoC i ck d f e))
    (k : ∀ F' H' e', Rel X.K L Gh F' H' σ e' → Step Gh F F' → AfterS X W L Gh F' E (f e') → Q σ H') : gSub (Tr X W (varC i) (ROk X.K)) (Tr X W (vE ck) (DOk X.K)) rSetL v σ H Q := by
  unfold stoC at a
  obtain ⟨p0, hp0, a2⟩ := a.ofO
  refine var_slot r hp0 fun ad F2 H2 r2 st2 hs2 => ?_
  refine ⟨L, Gh, F2, e, r2, (AfterS.bind (P1 := DOk X.K) (a2.step st2)).mono fun y H3 z => ?_⟩
  obtain ⟨F3, e3, n, r3, st3, p3, a3⟩ := z
  obtain ⟨p, hp, a4⟩ := a3.ofO
  obtain ⟨c', hc', a5⟩ := a4.ofO
  obtain ⟨xs, m, j, hxs, rfl, hj, rfl⟩ := stoD_lst hc'
  have he := muO_some hp
  obtain ⟨b, e4, ⟨q1, q2, o, q3, q4⟩, _⟩ := r3.sl i _ he
  rw [hs2] at e4
  cases e4
  rw [hxs] at q4
  cases o <;> first | exact (show False from q4).elim | skip
  rename_i vs
  have q4 : DpAll X.K F3 vs xs := q4
  have p3 : Dp X.K F3 y (.int m) := p3
  cases p3
  exact ⟨ad, vs, m, j, rfl, rfl, q3, by rw [dps_len q4]; exact hj, k F3 _ _ (r3.chg (c' := .lst (xs.set j d)) he hs2 (dps_set (dp_mono (st2.trans st3).s hv) j q4)) (st2.trans st3) a5⟩
theorem pz_swp {xa xb ea eb ev : Expr} {ca cb cv : Vc} {t1 t2 tp : Pos} {kt : Nat} (hcalm : X.calm = true) (ho1 : PV X W xa (varC i)) (ho2 : PV X W xb (varC i)) (hk1 : PV X W ea ca) (hk2 : PV X W eb cb) (hv : PV X W ev cv)
    (ha1 : ∀ v, assign (.Subscript xa ea t1) X.env v = (do
      let ov ← holding [v] (eval xa X.env)
      let iv ← holding [v, ov] (eval ea X.env)
      standAt t1
      holding [v, ov, iv] (setItem ov iv v)
      release [v, ov, iv] []))
    (ha2 : ∀ v, assign (.Subscript xb eb t2) X.env v = (do
      let ov ← holding [v] (eval xb X.env)
      let iv ← holding [v, ov] (eval eb X.env)
      standAt t2
      holding [v, ov, iv] (setItem ov iv v)
      release [v, ov, iv] []))
    (hs : swapsWithSole [.Tuple [.Subscript xa ea t1, .Subscript xb eb t2] kt tp] ev pos.line X.env = pure false) (hw : swappedStores [.Tuple [.Subscript xa ea t1, .Subscript xb eb t2] kt tp] ev X.env = pure none) :
    PV1 X W (.Assign [.Tuple [.Subscript xa ea t1, .Subscript xb eb t2] kt tp] ev pos) (swpS i ca cb cv) := by
  refine ps_imp (ps_asg (pv_e hv) (pg_ei hcalm (pgs_cons (pg_sub ho1 (pv_e hk1) set_list ha1) (pgs_cons (pg_sub ho2 (pv_e hk2) set_list ha2) pgs_nil rfl) rfl) rfl rfl) hs hw rfl) fun D σ H q => ?_
  obtain ⟨L, Gh, F, e, r, a⟩ := q
  refine ⟨L, Gh, F, e, r, (AfterS.bind (P1 := DOk X.K) a).mono fun v H1 z => ?_⟩
  obtain ⟨F1, e1, d, r1, st1, p1, a1⟩ := z
  obtain ⟨pr, hpr, a2⟩ := a1.ofO
  have p1 : Dp X.K F1 v d := p1
  unfold twoD at hpr
  split at hpr
  case h_2 => cases hpr
  rename_i d1 d2
  cases hpr
  cases p1 with
  | @tup ad xs _ h1 h2 =>
    cases h2 with
    | cons k1 t =>
      cases t with
      | cons k2 t =>
        cases t
        refine .inl ⟨ad, _, rfl, SqT.mono r1.fh h1, rfl, _, _, rfl, sto_state r1 k1 a2 fun F2 H2 e2 r2 st2 a3 => ⟨_, _, rfl, sto_state r2 (dp_mono st2.s k2) a3 fun F3 H3 e3 r3 st3 a4 => ⟨rfl, ?_⟩⟩⟩
        exact a4 σ F3 H3 r3 (Step.refl Gh F3)
end
end Ev
set_option Elab.async false
set_option linter.all false
set_option maxHeartbeats 1000000
set_option maxRecDepth 10000
/-! Ev12: the text held against the syntax. -/
namespace Ev
open PySem PySem.Spec PyProof.Rows L2
/-! ### equal data -/
mutual
def dEq : D → D → Bool
  | .none, .none => true
  | .bool a, .bool b => a == b
  | .int a, .int b => a == b
  | .str a, .str b => a == b
  | .list a, .list b => dsEq a b
  | .tuple a, .tuple b => dsEq a b
  | _, _ => false
def dsEq : List D → List D → Bool
  | [], [] => true
  | a :: as, b :: bs => dEq a b && dsEq as bs
  | _, _ => false
end
mutual
theorem dEq_ok : ∀ (a b : D), dEq a b = true → a = b
  | .none, b, h => by cases b <;> first | rfl | (simp [dEq] at h)
  | .bool x, b, h => by cases b <;> simp [dEq] at h; rw [h]
  | .int x, b, h => by cases b <;> simp [dEq] at h; rw [h]
  | .str x, b, h => by cases b <;> simp [dEq] at h; rw [h]
  | .list x, b, h => by
    cases b <;> simp [dEq] at h
    rw [dsEq_ok _ _ h]
  | .tuple x, b, h => by
    cases b <;> simp [dEq] at h
    rw [dsEq_ok _ _ h]
  | .dict x, b, h => by cases b <;> simp [dEq] at h
theorem dsEq_ok : ∀ (a b : List D), dsEq a b = true → a = b
  | [], b, h => by cases b <;> first | rfl | (simp [dsEq] at h)
  | x :: xs, b, h => by
    cases b with
    | nil => simp [dsEq] at h
    | cons y ys =>
      simp only [dsEq, Bool.and_eq_true] at h
      rw [dEq_ok _ _ h.1, dsEq_ok _ _ h.2]
end
/-! ### what is known of a def's scope -/
structure Sx where
  N : List Str
  sc : Scope
  cf : Option Scope
  BN : List String
  GL : List (String × D)
  KB : List KbE
  /-- an error is in hand -/
  hot : Bool
def Sx.fn (S : Sx) (x : Str) : Bool := match S.cf with
  | none => true
  | some s => s.names.lookup x == some .cell
def Sx.blk (S : Sx) (scope : Scope) : Sx := { S with sc := relS scope S.sc, cf := some scope }
def visB (sc : Scope) (x : Str) : Bool := match sc.names.lookup x with
  | some .local => true
  | some .cell => true
  | some .free => true
  | _ => false
def locB (S : Sx) (x : Str) : Bool := match S.sc.names.lookup x with
  | some .local => true
  | some .cell => S.fn x
  | _ => false
def glB (sc : Scope) (x : Str) : Bool := sc.names.lookup x == some .globalImplicit
def dbg (x : Str) : Bool := x == ("__debug__" : Str) || x == ("__classdict__" : Str) || x == ("__name__" : Str)
theorem visB_ok {sc : Scope} {x : Str} (h : visB sc x = true) : Vis sc x := by
  unfold visB at h
  split at h
  · rename_i q; exact .inl q
  · rename_i q; exact .inr (.inl q)
  · rename_i q; exact .inr (.inr q)
  · cases h
theorem locB_ok {S : Sx} {x : Str} (h : locB S x = true) : Loc S.sc x ∧ (S.fn x = true ∨ S.sc.names.lookup x = some .local) := by
  unfold locB at h
  split at h
  · rename_i q; exact ⟨.inl q, .inr q⟩
  · rename_i q; exact ⟨.inr q, .inl h⟩
  · cases h
/-! ### forms -/
def notStar : Expr → Bool
  | .Starred _ _ => false
  | _ => true
theorem star_ok {e : Expr} (h : notStar e = true) (es : List Expr) (env : PySem.Env) : starEach (e :: es) env = (false, eval e env) :: starEach es env := by
  cases e <;> first | rfl | (simp [notStar] at h)
theorem assignEach_ok {e : Expr} (h : notStar e = true) (es : List Expr) (env : PySem.Env) : assignEach (e :: es) env = (false, assign e env) :: assignEach es env := by
  cases e <;> first | rfl | (simp [notStar] at h)
def plainT : Expr → Bool
  | .UnaryOp .Not _ _ => false
  | .BoolOp _ _ _ => false
  | .IfExp _ _ _ _ => false
  | .Compare _ _ _ _ => false
  | _ => true
theorem plainT_ok {e : Expr} (h : plainT e = true) (env : PySem.Env) (whole : Sem Value) : isTrue e env whole = (do let v ← whole; standAt e.pos; holding [v] (truthy v)) := by
  cases e <;> first | rfl | (simp [plainT] at h; done) | skip
  rename_i op _ _
  cases op <;> first | rfl | (simp [plainT] at h)
def plainIx : Expr → Bool
  | .Slice _ _ _ _ => false
  | _ => true
theorem plainIx_ok {e : Expr} (h : plainIx e = true) : PlainIx e := fun o i => by
  cases e <;> first | rfl | (simp [plainIx] at h)
def notSet : Expr → Bool
  | .Set _ _ _ => false
  | _ => true
theorem notSet_ok {e : Expr} (h : notSet e = true) (env : PySem.Env) (x : Value) : foldedSetIterable e env x = pure x := by
  cases e <;> first | rfl | (simp [notSet] at h)
/-! ### the built-ins' names -/
def biName : Bi → String
  | .len => "len"
  | .tuple => "tuple"
  | .list => "list"
  | .sum => "sum"
  | .any => "any"
  | .all => "all"
  | .abs => "abs"
  | .min2 => "min"
  | .max2 => "max"
  | .repr => "repr"
  | .strInt => "str"
  | .intB => "int"
  | .sorted => "sorted"
  | _ => ""
def biOk : Bi → Bool
  | .minL => false
  | .maxL => false
  | .lenset => false
  | .sortset => false
  | .sortxor => false
  | _ => true
theorem biBoot (f : Bi) (h : biOk f = true) : (∃ id, nameOf f = .builtin id ∧ bootBuiltins (T (biName f)) = some (.builtin id)) ∨ ∃ id, nameOf f = .type id ∧ bootBuiltins (T (biName f)) = some (.type id) := by
  cases f <;> first
    | (simp [biOk] at h; done)
    | exact .inl ⟨_, rfl, by decide +kernel⟩
    | exact .inr ⟨_, rfl, by decide +kernel⟩
theorem biNe (f : Bi) (h : biOk f = true) : nameOf f ≠ .none ∧ f ≠ .minL ∧ f ≠ .maxL := by
  cases f <;> first
    | (simp [biOk] at h; done)
    | exact ⟨by simp [nameOf], by simp, by simp⟩
def tyOk (t : String) : Bool := t == "int" || t == "bool" || t == "str" || t == "tuple" || t == "list" || t == "dict"
theorem tyBoot {t : String} (h : tyOk t = true) : bootBuiltins (T t) = some (.type t) := by
  simp only [tyOk, Bool.or_eq_true, beq_iff_eq] at h
  rcases h with ((((h | h) | h) | h) | h) | h <;> subst h <;> decide +kernel
/-! ### expressions -/
structure Ck where
  v : Expr → Bool
  t : Expr → Bool
  w : Expr → Expr → Bool
def isTupE : Expr → Bool
  | .Tuple _ _ _ => true
  | _ => false
def mkK (c : Expr → Bool) : Ck := ⟨c, fun e => plainT e && c e, fun _ e => c e⟩
def mkKT (c t : Expr → Bool) : Ck := ⟨c, t, fun _ e => c e⟩
def mkKW (w : Expr → Expr → Bool) : Ck := ⟨fun _ => false, fun _ => false, w⟩
def eachK : List (Expr → Bool) → List Expr → Bool
  | [], [] => true
  | k :: ks, e :: es => k e && notStar e && eachK ks es
  | _, _ => false
def nmK (S : Sx) (i : Nat) (x : Str) : Bool := S.N[i]? == some x
def varK (S : Sx) (i : Nat) : Expr → Bool
  | .Name x _ => nmK S i x && visB S.sc x && !dbg x
  | _ => false
def conK (d : D) : Expr → Bool
  | .Constant c _ _ => match c, d with
    | .none, .none => true
    | .bool a, .bool b => a == b
    | .int a, .int b => a == b
    | .str a, .str b => a == b
    | _, _ => false
  | _ => false
def gloK (S : Sx) (x : String) (d : D) : Expr → Bool
  | .Name y _ => y == T x && glB S.sc y && !dbg y && S.GL.any fun p => p.1 == x && dEq p.2 d
  | _ => false
def tupK (ks : List (Expr → Bool)) : Expr → Bool
  | .Tuple es _ _ => eachK ks es && decide (es.length ≤ sizeLine)
  | _ => false
def lstK (ks : List (Expr → Bool)) : Expr → Bool
  | .List es _ => eachK ks es && decide (es.length ≤ sizeLine)
  | _ => false
def binK (op : Operator) (a b : Expr → Bool) : Expr → Bool
  | .BinOp ea o eb _ => decide (o = op) && a ea && b eb
  | _ => false
def negK (a : Expr → Bool) : Expr → Bool
  | .UnaryOp .USub ea _ => a ea
  | _ => false
def cmpK (op : CmpOp) (a b : Expr → Bool) : Expr → Bool
  | .Compare ea [o] [eb] _ => decide (o = op) && a ea && b eb && !behindInMarks op eb
  | _ => false
def chnK (op op' : CmpOp) (a b c : Expr → Bool) : Expr → Bool
  | .Compare ea [o, o'] [eb, ec] _ => decide (o = op) && decide (o' = op') && a ea && b eb && c ec && !lastMarks [op, op'] [eb, ec]
  | _ => false
def tailE (op : BoolOp) (pos : Pos) : List Expr → Expr
  | [e] => e
  | es => .BoolOp op es pos
def bopK (op : BoolOp) (a b : Expr → Bool) : Expr → Bool
  | .BoolOp o (ea :: eb :: rest) p => decide (o = op) && a ea && b (tailE op p (eb :: rest))
  | _ => false
def notK (a : Expr → Bool) : Expr → Bool
  | .UnaryOp .Not ea _ => a ea
  | _ => false
def iteK (c a b : Expr → Bool) : Expr → Bool
  | .IfExp ec ea eb _ => c ec && a ea && b eb
  | _ => false
def idxK (a i : Expr → Bool) : Expr → Bool
  | .Subscript ea eb _ => a ea && i eb && plainIx eb
  | _ => false
def optK : Option (Expr → Bool) → Option Expr → Bool
  | none, none => true
  | some k, some e => k e
  | _, _ => false
def sliK (a : Expr → Bool) (lo hi : Option (Expr → Bool)) : Expr → Bool
  | .Subscript ea (.Slice l h none _) _ => a ea && optK lo l && optK hi h
  | _ => false
def revK (a : Expr → Bool) : Expr → Bool
  | .Subscript ea (.Slice none none (some (.UnaryOp .USub (.Constant (.int 1) _ _) _)) _) _ => a ea
  | _ => false
def blt (S : Sx) (x : Str) (n : String) : Bool := x == T n && glB S.sc x && !dbg x && S.BN.contains n
def sxK (S : Sx) (a b : Expr → Bool) : Expr → Bool
  | .Call (.Name x1 _) [.Call (.Name x2 _) [.BinOp (.Call (.Name x3 _) [ea] [] _) .BitXor (.Call (.Name x4 _) [eb] [] _) _] [] _] [] _ =>
    blt S x1 "tuple" && blt S x2 "sorted" && blt S x3 "set" && blt S x4 "set" && a ea && b eb && notStar ea && notStar eb
  | _ => false
def sslK (S : Sx) (a : Expr → Bool) : Expr → Bool
  | .Call (.Name x2 _) [.Call (.Name x3 _) [ea] [] _] [] _ => blt S x2 "sorted" && blt S x3 "set" && a ea && notStar ea
  | _ => false
def isiK (S : Sx) (a : Expr → Bool) (ty : String) : Expr → Bool
  | .Call (.Name x _) [ea, .Name y _] [] _ => blt S x "isinstance" && a ea && notStar ea && blt S y ty && tyOk ty
  | _ => false
def bifK (S : Sx) (f : Bi) (ks : List (Expr → Bool)) : Expr → Bool
  | .Call (.Name x _) es [] _ => blt S x (biName f) && biOk f && eachK ks es && !es.isEmpty
  | _ => false
def calK (S : Sx) (f : String) (ks : List (Expr → Bool)) : Expr → Bool
  | .Call (.Name x _) es [] _ => x == T f && glB S.sc x && !dbg x && eachK ks es
  | _ => false
/-- a target: names -/
def namesK (S : Sx) : List Nat → List Expr → Bool
  | [], [] => true
  | i :: is, .Name x _ :: es => nmK S i x && locB S x && namesK S is es
  | _, _ => false
def tgK (S : Sx) (is : List Nat) (pair : Bool) : Expr → Bool
  | .Name x _ => !pair && (match is with
    | [i] => nmK S i x && locB S x
    | _ => false)
  | .Tuple es _ _ => pair && namesK S is es
  | _ => false
def uniqK (names : List (Str × NameKind)) : Bool := names.all fun y => names.lookup y.1 == some y.2
def blkOk (S : Sx) (scope : Scope) (own : List (String × Nat)) : Bool :=
  decide (scope.kind = .function) && uniqK scope.names && (own.all fun p => S.N[p.2]? == some (T p.1)) &&
  (scope.names.all fun y => y.2 != .free || S.sc.names.lookup y.1 == some .cell || S.sc.names.lookup y.1 == some .free) &&
  (scope.names.all fun y => !(y.2 == .local || y.2 == .cell) || (own.map fun p => T p.1).contains y.1 || !S.N.contains y.1)
def tstK : Option (Expr → Bool) → List Expr → Bool
  | none, [] => true
  | some k, [e] => k e
  | _, _ => false
def lcK (S : Sx) (own : List (String × Nat)) (tg : List Nat) (pair : Bool) (w : Expr → Expr → Bool) (c : Scope → Option (Expr → Bool)) (x : Scope → Expr → Bool) : Expr → Bool
  | .ListComp elt [⟨tgE, iter, ifs, k⟩] scope _ => decide (k = 0) && w tgE iter && notSet iter && blkOk S scope own && (tg.all fun i => (own.map (·.2)).contains i) &&
    tgK (S.blk scope) tg pair tgE && tstK (c scope) ifs && x scope elt
  | _ => false
def dgK (S : Sx) (i : Nat) (k : String) : Expr → Bool
  | .Subscript xo (.Constant (.str s) _ _) _ => varK S i xo && s == T k
  | _ => false
def keysK : List String → List (Option Expr) → Bool
  | [], [] => true
  | k :: ks, some (.Constant (.str s) _ _) :: es => s == T k && keysK ks es
  | _, _ => false
def dctK (ks : List String) (cs : List (Expr → Bool)) : Expr → Bool
  | .Dict kes es _ => keysK ks kes && eachK cs es && decide (ks.length = es.length) && decide ((ks.map T).Nodup) && !ks.isEmpty && decide (ks.length ≤ 15)
  | _ => false
def kwsK : List String → List (Expr → Bool) → List Keyword → Bool
  | [], [], [] => true
  | k :: ks, c :: cs, ⟨nm, e, _⟩ :: kws => nm == some (T k) && c e && kwsK ks cs kws
  | _, _, _ => false
def cakK (S : Sx) (f : String) (ks : List String) (perm : List Nat) (cs ds : List (Expr → Bool)) : Expr → Bool
  | .Call (.Name x _) es kws _ => x == T f && glB S.sc x && !dbg x && eachK cs es && kwsK ks ds kws && decide ((f, es.length, ks, perm) ∈ S.KB)
  | _ => false
def rg1K (S : Sx) (a : Expr → Bool) : Expr → Expr → Bool
  | _, .Call (.Name x _) [ea] [] _ => blt S x "range" && a ea && notStar ea
  | _, _ => false
def rg2K (S : Sx) (a b : Expr → Bool) : Expr → Expr → Bool
  | _, .Call (.Name x _) [ea, eb] [] _ => blt S x "range" && a ea && b eb && notStar ea && notStar eb
  | _, _ => false
def enK (S : Sx) (a : Expr → Bool) : Expr → Expr → Bool
  | .Tuple _ _ _, .Call (.Name x _) [ea] [] _ => blt S x "enumerate" && a ea && notStar ea
  | _, _ => false
def zpK (S : Sx) (a b : Expr → Bool) : Expr → Expr → Bool
  | .Tuple _ _ _, .Call (.Name x _) [ea, eb] [] _ => blt S x "zip" && a ea && b eb && notStar ea && notStar eb
  | _, _ => false
def rt1K (S : Sx) (l : Bool) (a : Expr → Bool) : Expr → Bool
  | .Call (.Name y _) [.Call (.Name x _) [ea] [] _] [] _ => blt S y (if l = true then "list" else "tuple") && blt S x "range" && a ea && notStar ea
  | _ => false
def rt2K (S : Sx) (l : Bool) (a b : Expr → Bool) : Expr → Bool
  | .Call (.Name y _) [.Call (.Name x _) [ea, eb] [] _] [] _ => blt S y (if l = true then "list" else "tuple") && blt S x "range" && a ea && b eb && notStar ea && notStar eb
  | _ => false
def clsK (S : Sx) : List String → List Expr → Bool
  | [], [] => true
  | x :: xs, .Name y _ :: es => y == T x && glB S.sc y && !dbg y && clsK S xs es
  | _, _ => false
def xisK (S : Sx) (i : Nat) (cs : List String) (tup : Bool) : Expr → Bool
  | .Call (.Name x _) [.Name n _, .Tuple es _ _] [] _ => tup && S.hot && blt S x "isinstance" && nmK S i n && visB S.sc n && !dbg n && clsK S cs es && decide (es.length ≤ sizeLine) && !cs.isEmpty
  | .Call (.Name x _) [.Name n _, .Name y p] [] _ => !tup && S.hot && blt S x "isinstance" && nmK S i n && visB S.sc n && !dbg n && clsK S cs [.Name y p] && !cs.isEmpty
  | _ => false
def xatK (S : Sx) (i : Nat) (f : String) : Expr → Bool
  | .Attribute (.Name n _) y _ => S.hot && nmK S i n && visB S.sc n && !dbg n && y == T f
  | _ => false
/-- where no error is in hand -/
def cold (S : Sx) (k : Expr → Bool) : Expr → Bool := fun e => !S.hot && k e
mutual
def ck : ME → Sx → Ck
  | .var i, S => mkK (varK S i)
  | .con d, S => mkK (conK d)
  | .glo x d, S => mkK (gloK S x d)
  | .tup es, S => mkK (tupK (cks es S))
  | .lst es, S => mkK (lstK (cks es S))
  | .bin op a b, S => mkK (binK op (ck a S).v (ck b S).v)
  | .neg a, S => mkK (negK (ck a S).v)
  | .cmp op a b, S => mkKT (cmpK op (ck a S).v (ck b S).v) (cmpK op (ck a S).v (ck b S).v)
  | .chn op op' a b c, S => mkKT (chnK op op' (ck a S).v (ck b S).v (ck c S).v) (chnK op op' (ck a S).v (ck b S).v (ck c S).v)
  | .and a b, S => mkKT (bopK .And (ck a S).v (ck b S).v) (bopK .And (ck a S).t (ck b S).t)
  | .or a b, S => mkKT (bopK .Or (ck a S).v (ck b S).v) (bopK .Or (ck a S).t (ck b S).t)
  | .not a, S => mkKT (notK (ck a S).v) (notK (ck a S).t)
  | .ite c a b, S => mkKT (iteK (ck c S).t (ck a S).v (ck b S).v) fun _ => false
  | .idx a i, S => mkK (idxK (ck a S).v (ck i S).v)
  | .sli a lo hi, S => mkK (sliK (ck a S).v (ckO lo S) (ckO hi S))
  | .rev a, S => mkK (revK (ck a S).v)
  | .sx a b, S => mkK (cold S (sxK S (ck a S).v (ck b S).v))
  | .ssl a, S => mkK (cold S (sslK S (ck a S).v))
  | .isi a ty, S => mkK (isiK S (ck a S).v ty)
  | .bif f es, S => mkK (cold S (bifK S f (cks es S)))
  | .cal f es, S => mkK (cold S (calK S f (cks es S)))
  | .mth _ _ _, S => mkK fun _ => false
  | .lc own tg pair it c x, S => mkK (cold S (lcK S own tg pair (ck it S).w (fun sc => ckT c (S.blk sc)) (fun sc => (ck x (S.blk sc)).v)))
  | .pop _, S => mkK fun _ => false
  | .dg i k, S => mkK (dgK S i k)
  | .dct ks es, S => mkK (dctK ks (cks es S))
  | .cak f ks perm es kes, S => mkK (cold S (cakK S f ks perm (cks es S) (cks kes S)))
  | .rg1 a, S => mkKW (rg1K S (ck a S).v)
  | .rg2 a b, S => mkKW (rg2K S (ck a S).v (ck b S).v)
  | .en a, S => mkKW (enK S (ck a S).v)
  | .zp a b, S => mkKW (zpK S (ck a S).v (ck b S).v)
  | .fz a, S => mkK (ck a S).v
  | .xis i cs tup, S => mkK (xisK S i cs tup)
  | .xat i f, S => mkK (xatK S i f)
  | .rt1 l a, S => mkK (cold S (rt1K S l (ck a S).v))
  | .rt2 l a b, S => mkK (cold S (rt2K S l (ck a S).v (ck b S).v))
def cks : List ME → Sx → List (Expr → Bool)
  | [], _ => []
  | m :: ms, S => (ck m S).v :: cks ms S
def ckO : Option ME → Sx → Option (Expr → Bool)
  | none, _ => none
  | some m, S => some (ck m S).v
def ckT : Option ME → Sx → Option (Expr → Bool)
  | none, _ => none
  | some m, S => some (ck m S).t
end
/-- the def's context is as the check thinks -/
structure Cok (X : Cx) (W : WX) (S : Sx) (G : Gm) : Prop where
  hN : X.N = S.N
  hs : X.env.scope = S.sc
  hf : ∀ x, S.fn x = true → X.fn x = true
  kd : X.env.scope.kind = .function
  ok : Ok X W S.BN S.GL S.KB G
  cm : S.hot = false → X.calm = true
  hm : S.hot = true → X.calm = false
  st : S.cf = none → X.stack = X.env :: X.outer ∧ X.env.frame = some X.env.locals
def Sound (X : Cx) (W : WX) (k : Ck) (d : Dn) : Prop :=
  (∀ e, k.v e = true → PV X W e d.v) ∧ (∀ e, k.t e = true → PB X W e d.t ∧ ∀ op es pos, e = .BoolOp op es pos → PBW X W e d.t) ∧ ∀ tg e, k.w tg e = true → PIs X W tg e d.w
section
variable {X : Cx} {W : WX} {S : Sx} {G : Gm}
theorem pts_imp {Y : Cx} {es : List Expr} {t t' : TT} (h : PTs Y es t) (k : ∀ σ H Q, t' σ H Q → t σ H Q) : PTs Y es t' := ⟨fun pins s σ H Q I q => h.run pins s σ H Q I (k σ H Q q)⟩
theorem pts_blk (hc : X.calm = true) {s : Shared} {H : Hp} {scope : Scope} {cenv : PySem.Env} {fp : List Addr} {es : List Expr} {c : Option (Env → Res Bool)} (h : PTs (X.blk s H scope cenv fp) es (tOfC (X.blk s H scope cenv fp) c)) : PTs (X.blk s H scope cenv fp) es (tOfC X c) := by
  cases c with
  | none => exact h
  | some t => exact pts_imp h fun _ _ _ q => tr_blk hc q
theorem cold_ok (C : Cok X W S G) {k : Expr → Bool} {e : Expr} (h : cold S k e = true) : X.calm = true ∧ k e = true := by
  unfold cold at h
  rw [Bool.and_eq_true, Bool.not_eq_true'] at h
  exact ⟨C.cm h.1, h.2⟩
theorem snd_V {c : Vc} {k : Expr → Bool} (h : ∀ e, k e = true → PV X W e c) : Sound X W (mkK k) (mkV c) := by
  refine ⟨h, fun e he => ?_, fun tg e he => pi_val (h e he)⟩
  have he : (plainT e && k e) = true := he
  rw [Bool.and_eq_true] at he
  refine ⟨pb_tru (h e he.2) fun whole => plainT_ok he.1 _ _, fun op es pos z => ?_⟩
  subst z
  exact absurd he.1 (by simp [plainT])
theorem snd_T {c : Vc} {t : Env → Res Bool} {k k' : Expr → Bool} (h : ∀ e, k e = true → PV X W e c) (h' : ∀ e, k' e = true → PB X W e t ∧ ∀ op es pos, e = .BoolOp op es pos → PBW X W e t) : Sound X W (mkKT k k') (mkT c t) :=
  ⟨h, h', fun tg e he => pi_val (h e he)⟩
theorem snd_W {w : Env → Res Src} {k : Expr → Expr → Bool} (h : ∀ tg e, k tg e = true → PIs X W tg e w) : Sound X W (mkKW k) (mkW w) :=
  ⟨fun e he => (show False from Bool.false_ne_true he).elim, fun e he => (show False from Bool.false_ne_true he).elim, h⟩
/-- several -/
inductive Each (X : Cx) (W : WX) : List (Expr → Bool) → List Vc → Prop where
  | nil : Each X W [] []
  | cons {k : Expr → Bool} {ks : List (Expr → Bool)} {c : Vc} {cs : List Vc} : (∀ e, k e = true → PV X W e c) → Each X W ks cs → Each X W (k :: ks) (c :: cs)
theorem Each.pvs : ∀ {ks : List (Expr → Bool)} {cs : List Vc}, Each X W ks cs → ∀ {es : List Expr}, eachK ks es = true → PVs X W es cs
  | _, _, .nil, [], _ => .nil
  | _, _, .nil, _ :: _, h => by cases h
  | _, _, .cons _ _, [], h => by cases h
  | _, _, .cons h t, e :: es, hk => by
    simp only [eachK, Bool.and_eq_true] at hk
    exact .cons (h e hk.1.1) (star_ok hk.1.2 _ _) (t.pvs hk.2)
theorem dbg_ok {x : Str} (h : (!dbg x) = true) : (x == ("__debug__" : Str)) = false ∧ (x == ("__classdict__" : Str)) = false ∧ x ≠ ("__name__" : Str) := by
  simp only [dbg, Bool.not_eq_true', Bool.or_eq_false_iff] at h
  exact ⟨h.1.1, h.1.2, by simpa using h.2⟩
theorem nmK_ok (C : Cok X W S G) {i : Nat} {x : Str} (h : nmK S i x = true) : X.N[i]? = some x := by
  rw [C.hN]
  simpa [nmK] using h
theorem gl_ok (C : Cok X W S G) {x : Str} (h : glB S.sc x = true) : Gl X x := by
  show X.env.scope.names.lookup x = _
  rw [C.hs]
  simpa [glB] using h
theorem blt_ok (C : Cok X W S G) {x : Str} {n : String} (h : blt S x n = true) : x = T n ∧ Gl X (T n) ∧ X.mg (T n) = none ∧ ((T n) == ("__debug__" : Str)) = false ∧ T n ≠ ("__name__" : Str) := by
  simp only [blt, Bool.and_eq_true] at h
  obtain ⟨⟨⟨h1, h2⟩, h3⟩, h4⟩ := h
  have h1 : x = T n := by simpa using h1
  subst h1
  obtain ⟨d1, _, d3⟩ := dbg_ok h3
  exact ⟨rfl, gl_ok C h2, C.ok.bn n (by simpa using h4), d1, d3⟩
theorem tail_pv {op : BoolOp} {p : Pos} {eb : Expr} {rest : List Expr} {c : Vc} (h : PV X W (tailE op p (eb :: rest)) c) : PV X W (.BoolOp op (eb :: rest) p) c := by
  cases rest with
  | nil => exact pv_one h
  | cons _ _ => exact h
theorem tail_pb {op : BoolOp} {p : Pos} {eb : Expr} {rest : List Expr} {t : Env → Res Bool} (h : PB X W (tailE op p (eb :: rest)) t ∧ ∀ o es q, tailE op p (eb :: rest) = .BoolOp o es q → PBW X W (tailE op p (eb :: rest)) t) : PBW X W (.BoolOp op (eb :: rest) p) t := by
  cases rest with
  | nil =>
    cases op with
    | And => exact pw_a1 h.1
    | Or => exact pw_o1 h.1
  | cons a r => exact h.2 op _ p rfl
theorem names_ok (C : Cok X W S G) : ∀ {is : List Nat} {es : List Expr}, namesK S is es = true → PGs X es (gIs is) ∧ (assignEach es X.env).length = is.length ∧ (assignEach es X.env).findIdx? (·.1) = none
  | [], [], _ => ⟨pgs_nil, rfl, rfl⟩
  | i :: is, e :: es, h => by
    cases e <;> first | (simp [namesK] at h; done) | skip
    rename_i x p
    simp only [namesK, Bool.and_eq_true] at h
    obtain ⟨⟨h1, h2⟩, h3⟩ := h
    obtain ⟨q1, q2, q3⟩ := names_ok C h3
    obtain ⟨l1, l2⟩ := locB_ok h2
    have hN : X.N.Nodup := C.ok.nd
    refine ⟨pgs_cons (pg_name hN (nmK_ok C h1) (by rw [C.hs]; exact l1) ?_) q1 (by rw [assignEach_ok rfl]; rfl), ?_, ?_⟩
    · rcases l2 with l2 | l2
      · exact .inl (C.hf x l2)
      · exact .inr (by rw [C.hs]; exact l2)
    · rw [assignEach_ok rfl, List.length_cons, q2]
      rfl
    · rw [assignEach_ok rfl, List.findIdx?_cons]
      simp [q3]
  | [], _ :: _, h => by cases h
  | _ :: _, [], h => by simp [namesK] at h
theorem tg_ok (C : Cok X W S G) (hcalm : X.calm = true) {is : List Nat} {pair : Bool} {e : Expr} (h : tgK S is pair e = true) : PG X e (gOf X.K is pair) := by
  cases e <;> first | (simp [tgK] at h; done) | skip
  · rename_i x p
    simp only [tgK, Bool.and_eq_true, Bool.not_eq_true'] at h
    obtain ⟨h1, h2⟩ := h
    subst h1
    split at h2
    · rename_i i
      rw [Bool.and_eq_true] at h2
      obtain ⟨l1, l2⟩ := locB_ok h2.2
      refine pg_name C.ok.nd (nmK_ok C h2.1) (by rw [C.hs]; exact l1) ?_
      rcases l2 with l2 | l2
      · exact .inl (C.hf x l2)
      · exact .inr (by rw [C.hs]; exact l2)
    · cases h2
  · rename_i es k p
    simp only [tgK, Bool.and_eq_true] at h
    obtain ⟨h1, h2⟩ := h
    subst h1
    obtain ⟨q1, q2, q3⟩ := names_ok C h2
    exact pg_ei hcalm q1 q2 q3
theorem blk_ok (C : Cok X W S G) {scope : Scope} {own : List (String × Nat)} (h : blkOk S scope own = true) : BlkOk X.N X.env.scope scope (own.map fun p => (T p.1, p.2)) := by
  simp only [blkOk, Bool.and_eq_true, decide_eq_true_eq] at h
  obtain ⟨⟨⟨⟨h1, h2⟩, h3⟩, h4⟩, h5⟩ := h
  rw [C.hs, C.hN]
  refine ⟨h1, fun y hy => ?_, fun p hp => ?_, fun y hy e => ?_, fun y hy e => ?_⟩
  · simpa using (List.all_eq_true.mp h2) y hy
  · obtain ⟨q, hq, rfl⟩ := List.mem_map.mp hp
    simpa using (List.all_eq_true.mp h3) q hq
  · have := (List.all_eq_true.mp h4) y hy
    rw [e] at this
    simpa using this
  · have := (List.all_eq_true.mp h5) y hy
    have hl : (y.2 == NameKind.local || y.2 == NameKind.cell) = true := by rcases e with e | e <;> rw [e] <;> rfl
    rw [hl] at this
    simp only [Bool.not_true, Bool.false_or, Bool.or_eq_true, Bool.not_eq_true'] at this
    rcases this with q | q
    · left
      rw [List.map_map]
      show y.1 ∈ own.map fun p => T p.1
      simpa using q
    · right
      intro hm
      have : S.N.contains y.1 = true := by simpa using hm
      rw [this] at q
      cases q
theorem Ok.blk {BN : List String} {GL : List (String × D)} {KB : List KbE} (ok : Ok X W BN GL KB G) (s : Shared) (H : Hp) (scope : Scope) (cenv : PySem.Env) (fp : List Addr) : Ok (X.blk s H scope cenv fp) W0 BN GL KB G :=
  ⟨ok.nd, ok.un, ok.gd, ok.bn, ok.gl, takes0, ok.xc, ok.sub, ok.fld, ok.fns, ok.fks, ok.kn⟩
theorem Cok.blk (C : Cok X W S G) {scope : Scope} (hk : scope.kind = .function) (s : Shared) (H : Hp) (Ca : Addr) (cl : List (Str × Addr)) (fp : List Addr) : Cok (X.blk s H scope (compEnvC scope cl Ca X.env) fp) W0 (S.blk scope) G := by
  have e : (compEnvC scope cl Ca X.env).scope = relS scope S.sc := by rw [← C.hs]; rfl
  refine ⟨C.hN, e, fun x h => h, ?_, C.ok.blk s H scope _ fp, C.cm, C.hm, fun z => nomatch z⟩
  show (compEnvC scope cl Ca X.env).scope.kind = _
  rw [e]
  exact hk
theorem vark_ok (C : Cok X W S G) {i : Nat} {e : Expr} (h : varK S i e = true) : PV X W e (varC i) := by
  cases e <;> first | (simp [varK] at h; done) | skip
  rename_i x p
  simp only [varK, Bool.and_eq_true] at h
  obtain ⟨⟨h1, h2⟩, h3⟩ := h
  obtain ⟨d1, d2, _⟩ := dbg_ok h3
  exact pv_var (nmK_ok C h1) (by rw [C.hs]; exact visB_ok h2) d1 d2
theorem kps_ok : ∀ {ks : List String} {kes : List (Option Expr)} {es : List Expr} {cs : List Vc}, keysK ks kes = true → ks.length = es.length → PVs X W es cs → KPs X W ks kes es cs
  | [], [], [], _, _, _, .nil => .nil
  | k :: ks, ke :: kes, e :: es, _, h, hl, .cons hv _ t => by
    unfold keysK at h
    split at h
    · rename_i h1 h2
      cases h1
    · rename_i k' ks' s j p es' h1 h2
      cases h1
      cases h2
      rw [Bool.and_eq_true] at h
      have e1 := eq_of_beq h.1
      subst e1
      exact .cons hv (kps_ok h.2 (by simpa using hl) t)
    · cases h
  | [], ke :: kes, _, _, h, _, _ => by cases h
  | k :: ks, [], _, _, h, _, _ => by simp [keysK] at h
  | [], [], e :: es, _, _, hl, _ => by simp at hl
  | k :: ks, _ :: _, [], _, _, hl, _ => by simp at hl
theorem Each.kvs : ∀ {ks : List (Expr → Bool)} {cs : List Vc}, Each X W ks cs → ∀ {ns : List String} {kws : List Keyword}, kwsK ns ks kws = true → KVs X W ns kws cs
  | _, _, .nil, [], [], _ => .nil
  | _, _, .nil, _ :: _, _, h => by simp [kwsK] at h
  | _, _, .nil, [], _ :: _, h => by simp [kwsK] at h
  | _, _, .cons _ _, [], _, h => by simp [kwsK] at h
  | _, _, .cons _ _, _ :: _, [], h => by simp [kwsK] at h
  | _, _, .cons h t, n :: ns, ⟨nm, e, p⟩ :: kws, hk => by
    simp only [kwsK, Bool.and_eq_true] at hk
    obtain ⟨⟨h1, h2⟩, h3⟩ := hk
    have e1 := eq_of_beq h1
    subst e1
    exact .cons (h e h2) (t.kvs h3)
theorem clsK_ok (C : Cok X W S G) : ∀ {cs : List String} {es : List Expr}, clsK S cs es = true → CNs X cs es
  | [], [], _ => .nil
  | x :: xs, .Name y p :: es, h => by
    simp only [clsK, Bool.and_eq_true] at h
    obtain ⟨⟨⟨h1, h2⟩, h3⟩, h4⟩ := h
    have e1 := eq_of_beq h1
    subst e1
    exact .cons (gl_ok C h2) (dbg_ok h3).1 (clsK_ok C h4)
  | [], _ :: _, h => by simp [clsK] at h
  | _ :: _, [], h => by simp [clsK] at h
  | x :: xs, e :: es, h => by
    cases e <;> first
      | (simp [clsK] at h; done)
      | (simp only [clsK, Bool.and_eq_true] at h
         obtain ⟨⟨⟨h1, h2⟩, h3⟩, h4⟩ := h
         have e1 := eq_of_beq h1
         subst e1
         exact .cons (gl_ok C h2) (dbg_ok h3).1 (clsK_ok C h4))
mutual
theorem snd : ∀ (m : ME) (X : Cx) (W : WX) (S : Sx), Cok X W S G → Sound X W (ck m S) (den G m)
  | .var i, X, W, S, C => snd_V fun e h => vark_ok C h
  | .con d, X, W, S, C => snd_V fun e h => by
    cases e <;> first | (simp [conK] at h; done) | skip
    rename_i c k p
    simp only [conK] at h
    split at h
    · exact pv_con pe_non fun F => .non
    · rename_i a b
      have : a = b := by simpa using h
      subst this
      exact pv_con pe_bl fun F => .bl _
    · rename_i a b
      have : a = b := by simpa using h
      subst this
      exact pv_con pe_int fun F => .int _
    · rename_i a b
      have : a = b := by simpa using h
      subst this
      exact pv_con pe_str fun F => .str _
    · cases h
  | .glo x d, X, W, S, C => snd_V fun e h => by
    cases e <;> first | (simp [gloK] at h; done) | skip
    rename_i y p
    simp only [gloK, Bool.and_eq_true] at h
    obtain ⟨⟨⟨h1, h2⟩, h3⟩, h4⟩ := h
    obtain ⟨d1, d2, _⟩ := dbg_ok h3
    obtain ⟨q, hq, hd⟩ := List.any_eq_true.mp h4
    rw [Bool.and_eq_true] at hd
    have e1 : q.1 = x := by simpa using hd.1
    have e2 : q.2 = d := dEq_ok _ _ hd.2
    have e3 : y = T x := by simpa using h1
    obtain ⟨u, v, m1, m2, m3⟩ := C.ok.gl q hq
    rw [e1] at m1
    rw [e2] at m3
    subst e3
    exact pv_con (pe_glob (gl_ok C h2) m1 m2 d1) fun F => dp_none_mono m3 F
  | .tup es, X, W, S, C => snd_V fun e h => by
    cases e <;> first | (simp [tupK] at h; done) | skip
    simp only [tupK, Bool.and_eq_true, decide_eq_true_eq] at h
    exact pv_tup ((snds es X W S C).pvs h.1) h.2
  | .lst es, X, W, S, C => snd_V fun e h => by
    cases e <;> first | (simp [lstK] at h; done) | skip
    simp only [lstK, Bool.and_eq_true, decide_eq_true_eq] at h
    exact pv_lst ((snds es X W S C).pvs h.1) h.2
  | .bin op a b, X, W, S, C => snd_V fun e h => by
    cases e <;> first | (simp [binK] at h; done) | skip
    simp only [binK, Bool.and_eq_true, decide_eq_true_eq] at h
    obtain ⟨⟨h1, h2⟩, h3⟩ := h
    subst h1
    exact pv_bin ((snd a X W S C).1 _ h2) ((snd b X W S C).1 _ h3)
  | .neg a, X, W, S, C => snd_V fun e h => by
    cases e <;> first | (simp [negK] at h; done) | skip
    rename_i op ea p
    cases op <;> first | (simp [negK] at h; done) | skip
    exact pv_neg ((snd a X W S C).1 _ h)
  | .cmp op a b, X, W, S, C => by
    have key : ∀ e, cmpK op (ck a S).v (ck b S).v e = true → ∃ ea eb p, e = .Compare ea [op] [eb] p ∧ (ck a S).v ea = true ∧ (ck b S).v eb = true ∧ behindInMarks op eb = false := by
      intro e h
      unfold cmpK at h
      split at h
      · simp only [Bool.and_eq_true, decide_eq_true_eq, Bool.not_eq_true'] at h
        obtain ⟨⟨⟨h1, h2⟩, h3⟩, h4⟩ := h
        subst h1
        exact ⟨_, _, _, rfl, h2, h3, h4⟩
      · cases h
    refine snd_T (fun e h => ?_) fun e h => ?_
    · obtain ⟨ea, eb, p, rfl, h1, h2, h3⟩ := key e h
      exact pv_cmp C.ok.un ((snd a X W S C).1 _ h1) ((snd b X W S C).1 _ h2) h3
    · obtain ⟨ea, eb, p, rfl, h1, h2, h3⟩ := key e h
      exact ⟨pb_cmp C.ok.un ((snd a X W S C).1 _ h1) ((snd b X W S C).1 _ h2) h3, fun _ _ _ z => nomatch z⟩
  | .chn op op' a b c, X, W, S, C => by
    have key : ∀ e, chnK op op' (ck a S).v (ck b S).v (ck c S).v e = true → ∃ ea eb ec p, e = .Compare ea [op, op'] [eb, ec] p ∧ (ck a S).v ea = true ∧ (ck b S).v eb = true ∧ (ck c S).v ec = true ∧ lastMarks [op, op'] [eb, ec] = false := by
      intro e h
      unfold chnK at h
      split at h
      · simp only [Bool.and_eq_true, decide_eq_true_eq, Bool.not_eq_true'] at h
        obtain ⟨⟨⟨⟨⟨h1, h0⟩, h2⟩, h3⟩, h4⟩, h5⟩ := h
        subst h1 h0
        exact ⟨_, _, _, _, rfl, h2, h3, h4, h5⟩
      · cases h
    refine snd_T (fun e h => ?_) fun e h => ?_
    · obtain ⟨ea, eb, ec, p, rfl, h1, h2, h3, h4⟩ := key e h
      exact pv_chn C.ok.un ((snd a X W S C).1 _ h1) ((snd b X W S C).1 _ h2) ((snd c X W S C).1 _ h3) h4
    · obtain ⟨ea, eb, ec, p, rfl, h1, h2, h3, h4⟩ := key e h
      exact ⟨pb_chn C.ok.un ((snd a X W S C).1 _ h1) ((snd b X W S C).1 _ h2) ((snd c X W S C).1 _ h3) h4, fun _ _ _ z => nomatch z⟩
  | .and a b, X, W, S, C => by
    refine snd_T (fun e h => ?_) fun e h => ?_
    · unfold bopK at h
      split at h
      · simp only [Bool.and_eq_true, decide_eq_true_eq] at h
        obtain ⟨⟨h1, h2⟩, h3⟩ := h
        subst h1
        exact pv_and ((snd a X W S C).1 _ h2) (tail_pv ((snd b X W S C).1 _ h3))
      · cases h
    · unfold bopK at h
      split at h
      · simp only [Bool.and_eq_true, decide_eq_true_eq] at h
        obtain ⟨⟨h1, h2⟩, h3⟩ := h
        subst h1
        have q := pbw_and ((snd a X W S C).2.1 _ h2).1 (tail_pb ((snd b X W S C).2.1 _ h3))
        exact ⟨q.pt, fun _ _ _ z => by cases z; exact q⟩
      · cases h
  | .or a b, X, W, S, C => by
    refine snd_T (fun e h => ?_) fun e h => ?_
    · unfold bopK at h
      split at h
      · simp only [Bool.and_eq_true, decide_eq_true_eq] at h
        obtain ⟨⟨h1, h2⟩, h3⟩ := h
        subst h1
        exact pv_or ((snd a X W S C).1 _ h2) (tail_pv ((snd b X W S C).1 _ h3))
      · cases h
    · unfold bopK at h
      split at h
      · simp only [Bool.and_eq_true, decide_eq_true_eq] at h
        obtain ⟨⟨h1, h2⟩, h3⟩ := h
        subst h1
        have q := pbw_or ((snd a X W S C).2.1 _ h2).1 (tail_pb ((snd b X W S C).2.1 _ h3))
        exact ⟨q.pt, fun _ _ _ z => by cases z; exact q⟩
      · cases h
  | .not a, X, W, S, C => by
    refine snd_T (fun e h => ?_) fun e h => ?_
    · unfold notK at h
      split at h
      · exact pv_not ((snd a X W S C).1 _ h)
      · cases h
    · unfold notK at h
      split at h
      · exact ⟨pb_not ((snd a X W S C).2.1 _ h).1, fun _ _ _ z => nomatch z⟩
      · cases h
  | .ite c a b, X, W, S, C => snd_T (fun e h => by
      unfold iteK at h
      split at h
      · simp only [Bool.and_eq_true] at h
        exact pv_ite ((snd c X W S C).2.1 _ h.1.1).1 ((snd a X W S C).1 _ h.1.2) ((snd b X W S C).1 _ h.2)
      · cases h) fun e h => (show False from Bool.false_ne_true h).elim
  | .idx a i, X, W, S, C => snd_V fun e h => by
    unfold idxK at h
    split at h
    · simp only [Bool.and_eq_true] at h
      exact pv_idx ((snd a X W S C).1 _ h.1.1) ((snd i X W S C).1 _ h.1.2) (plainIx_ok h.2)
    · cases h
  | .sli a lo hi, X, W, S, C => snd_V fun e h => by
    unfold sliK at h
    split at h
    · simp only [Bool.and_eq_true] at h
      exact pv_sli ((snd a X W S C).1 _ h.1.1) (sndO lo X W S C _ h.1.2) (sndO hi X W S C _ h.2)
    · cases h
  | .rev a, X, W, S, C => snd_V fun e h => by
    unfold revK at h
    split at h
    · exact pv_rev ((snd a X W S C).1 _ h)
    · cases h
  | .sx a b, X, W, S, C => snd_V fun e h => by
    obtain ⟨hcalm, h⟩ := cold_ok C h
    unfold sxK at h
    split at h
    · simp only [Bool.and_eq_true] at h
      obtain ⟨⟨⟨⟨⟨⟨⟨h1, h2⟩, h3⟩, h4⟩, h5⟩, h6⟩, h7⟩, h8⟩ := h
      obtain ⟨rfl, g1, m1, _, _⟩ := blt_ok C h1
      obtain ⟨rfl, g2, m2, _, _⟩ := blt_ok C h2
      obtain ⟨rfl, g3, m3, _, _⟩ := blt_ok C h3
      obtain ⟨rfl, _, _, _, _⟩ := blt_ok C h4
      exact pv_sx hcalm g1 m1 g2 m2 g3 m3 ((snd a X W S C).1 _ h5) ((snd b X W S C).1 _ h6) (star_ok h7 _ _) (star_ok h8 _ _)
    · cases h
  | .ssl a, X, W, S, C => snd_V fun e h => by
    obtain ⟨hcalm, h⟩ := cold_ok C h
    unfold sslK at h
    split at h
    · simp only [Bool.and_eq_true] at h
      obtain ⟨⟨⟨h2, h3⟩, h5⟩, h7⟩ := h
      obtain ⟨rfl, g2, m2, _, _⟩ := blt_ok C h2
      obtain ⟨rfl, g3, m3, _, _⟩ := blt_ok C h3
      exact pv_ssl hcalm g2 m2 g3 m3 ((snd a X W S C).1 _ h5) (star_ok h7 _ _)
    · cases h
  | .isi a ty, X, W, S, C => snd_V fun e h => by
    unfold isiK at h
    split at h
    · simp only [Bool.and_eq_true] at h
      obtain ⟨⟨⟨⟨h1, h2⟩, h3⟩, h4⟩, h5⟩ := h
      obtain ⟨rfl, g1, m1, _, _⟩ := blt_ok C h1
      obtain ⟨rfl, g2, m2, d1, d2⟩ := blt_ok C h4
      exact pv_isi g1 m1 g2 m2 (tyBoot h5) d2 d1 ((snd a X W S C).1 _ h2) (star_ok h3 _ _)
    · cases h
  | .bif f es, X, W, S, C => snd_V fun e h => by
    obtain ⟨hcalm, h⟩ := cold_ok C h
    unfold bifK at h
    split at h
    · simp only [Bool.and_eq_true] at h
      obtain ⟨⟨⟨h1, h2⟩, h3⟩, h4⟩ := h
      obtain ⟨rfl, g1, m1, d1, d2⟩ := blt_ok C h1
      have hb := bi_all_ok hcalm C.ok.gd C.ok.un f (biNe f h2).1 (biNe f h2).2.1 (biNe f h2).2.2
      have hp := (snds es X W S C).pvs h3
      have hne : ∀ {es : List Expr}, (!es.isEmpty) = true → es ≠ [] := fun {es} q z => by rw [z] at q; exact absurd q (by simp)
      rcases biBoot f h2 with ⟨id, q1, q2⟩ | ⟨id, q1, q2⟩
      · exact pv_biB q1 hb g1 m1 q2 hp (hne h4) d2 d1
      · exact pv_biT q1 hb g1 m1 q2 hp (hne h4) d2 d1
    · cases h
  | .cal f es, X, W, S, C => snd_V fun e h => by
    obtain ⟨hcalm, h⟩ := cold_ok C h
    unfold calK at h
    split at h
    · simp only [Bool.and_eq_true] at h
      obtain ⟨⟨⟨h1, h2⟩, h3⟩, h4⟩ := h
      have e1 := eq_of_beq h1
      subst e1
      exact pv_cal hcalm C.ok (gl_ok C h2) (dbg_ok h3).1 ((snds es X W S C).pvs h4)
    · cases h
  | .mth _ _ _, X, W, S, C => snd_V fun e h => (show False from Bool.false_ne_true h).elim
  | .lc own tg pair it c x, X, W, S, C => snd_V fun e h => by
    obtain ⟨hcalm, h⟩ := cold_ok C h
    unfold lcK at h
    split at h
    · simp only [Bool.and_eq_true, decide_eq_true_eq] at h
      obtain ⟨⟨⟨⟨⟨⟨⟨h0, h1⟩, h2⟩, h3⟩, h4⟩, h5⟩, h6⟩, h7⟩ := h
      rename_i pos
      subst h0
      have bo := blk_ok C h3
      have hmap : (own.map fun p => (T p.1, p.2)).map (·.2) = own.map (·.2) := by rw [List.map_map]; rfl
      have := pv_lc (pos := pos) (own := own.map fun p => (T p.1, p.2)) hcalm C.ok.nd ((snd it X W S C).2.2 _ _ h1) bo (is := tg) (by rw [hmap]; simpa using h4)
        ⟨fun s H Ca cl fp => tg_ok (C.blk bo.kind s H Ca cl fp) hcalm h5, fun s H Ca cl fp => pts_blk hcalm (sndT c _ _ (C.blk bo.kind s H Ca cl fp) h6), fun s H Ca cl fp => (snd x _ _ _ (C.blk bo.kind s H Ca cl fp)).1 _ h7⟩ (notSet_ok h2 _)
      rw [hmap] at this
      exact this
    · cases h
  | .pop _, X, W, S, C => snd_V fun e h => (show False from Bool.false_ne_true h).elim
  | .dg i k, X, W, S, C => snd_V fun e h => by
    unfold dgK at h
    split at h
    · simp only [Bool.and_eq_true] at h
      have e1 := eq_of_beq h.2
      subst e1
      exact pv_dg C.ok.un (vark_ok C h.1)
    · cases h
  | .dct ks es, X, W, S, C => snd_V fun e h => by
    unfold dctK at h
    split at h
    · simp only [Bool.and_eq_true, decide_eq_true_eq, Bool.not_eq_true'] at h
      obtain ⟨⟨⟨⟨⟨h1, h2⟩, h3⟩, h4⟩, h5⟩, h6⟩ := h
      exact pv_dct (kps_ok h1 h3 ((snds es X W S C).pvs h2)) h4 (fun z => by rw [z] at h5; cases h5) h6
    · cases h
  | .cak f ks perm es kes, X, W, S, C => snd_V fun e h => by
    obtain ⟨hcalm, h⟩ := cold_ok C h
    unfold cakK at h
    split at h
    · simp only [Bool.and_eq_true, decide_eq_true_eq] at h
      obtain ⟨⟨⟨⟨⟨h1, h2⟩, h3⟩, h4⟩, h5⟩, h6⟩ := h
      have e1 := eq_of_beq h1
      subst e1
      exact pv_cak hcalm C.ok (gl_ok C h2) (dbg_ok h3).1 ((snds es X W S C).pvs h4) ((snds kes X W S C).kvs h5) h6
    · cases h
  | .rg1 a, X, W, S, C => snd_W fun tg e h => by
    unfold rg1K at h
    split at h
    · simp only [Bool.and_eq_true] at h
      obtain ⟨rfl, g1, m1, _, _⟩ := blt_ok C h.1.1
      exact pi_r1 g1 m1 ((snd a X W S C).1 _ h.1.2) (star_ok h.2 _ _)
    · cases h
  | .rg2 a b, X, W, S, C => snd_W fun tg e h => by
    unfold rg2K at h
    split at h
    · simp only [Bool.and_eq_true] at h
      obtain ⟨⟨⟨⟨h1, h2⟩, h3⟩, h4⟩, h5⟩ := h
      obtain ⟨rfl, g1, m1, _, _⟩ := blt_ok C h1
      exact pi_r2 g1 m1 ((snd a X W S C).1 _ h2) ((snd b X W S C).1 _ h3) (star_ok h4 _ _) (star_ok h5 _ _)
    · cases h
  | .en a, X, W, S, C => snd_W fun tg e h => by
    unfold enK at h
    split at h
    · simp only [Bool.and_eq_true] at h
      obtain ⟨rfl, g1, m1, _, _⟩ := blt_ok C h.1.1
      exact pi_en g1 m1 ((snd a X W S C).1 _ h.1.2) (star_ok h.2 _ _)
    · cases h
  | .zp a b, X, W, S, C => snd_W fun tg e h => by
    unfold zpK at h
    split at h
    · simp only [Bool.and_eq_true] at h
      obtain ⟨⟨⟨⟨h1, h2⟩, h3⟩, h4⟩, h5⟩ := h
      obtain ⟨rfl, g1, m1, _, _⟩ := blt_ok C h1
      exact pi_zp g1 m1 ((snd a X W S C).1 _ h2) ((snd b X W S C).1 _ h3) (star_ok h4 _ _) (star_ok h5 _ _)
    · cases h
  | .xis i cs tup, X, W, S, C => snd_V fun e h => by
    unfold xisK at h
    split at h
    · simp only [Bool.and_eq_true, decide_eq_true_eq] at h
      obtain ⟨⟨⟨⟨⟨⟨⟨⟨_, h2⟩, h3⟩, h4⟩, h5⟩, h6⟩, h7⟩, h8⟩, h9⟩ := h
      obtain ⟨rfl, g1, m1, _, _⟩ := blt_ok C h3
      obtain ⟨d1, d2, _⟩ := dbg_ok h6
      exact pv_xisT (C.hm h2) C.ok.sub (nmK_ok C h4) (by rw [C.hs]; exact visB_ok h5) d1 d2 g1 m1 (clsK_ok C h7) (fun z => by subst z; exact absurd h9 (by simp)) h8
    · simp only [Bool.and_eq_true] at h
      obtain ⟨⟨⟨⟨⟨⟨⟨_, h2⟩, h3⟩, h4⟩, h5⟩, h6⟩, h7⟩, h9⟩ := h
      obtain ⟨rfl, g1, m1, _, _⟩ := blt_ok C h3
      obtain ⟨d1, d2, _⟩ := dbg_ok h6
      exact pv_xis1 (C.hm h2) C.ok.sub (nmK_ok C h4) (by rw [C.hs]; exact visB_ok h5) d1 d2 g1 m1 (clsK_ok C h7)
    · cases h
  | .xat i f, X, W, S, C => snd_V fun e h => by
    unfold xatK at h
    split at h
    · simp only [Bool.and_eq_true] at h
      obtain ⟨⟨⟨⟨h2, h4⟩, h5⟩, h6⟩, h7⟩ := h
      obtain ⟨d1, d2, _⟩ := dbg_ok h6
      have e1 := eq_of_beq h7
      subst e1
      exact pv_xat (C.hm h2) C.ok.fld (nmK_ok C h4) (by rw [C.hs]; exact visB_ok h5) d1 d2
    · cases h
  | .rt1 l a, X, W, S, C => snd_V fun e h => by
    obtain ⟨hcalm, h⟩ := cold_ok C h
    unfold rt1K at h
    split at h
    · simp only [Bool.and_eq_true] at h
      obtain ⟨⟨⟨h1, h2⟩, h3⟩, h4⟩ := h
      obtain ⟨rfl, g1, m1, _, _⟩ := blt_ok C h1
      obtain ⟨rfl, g2, m2, _, _⟩ := blt_ok C h2
      exact pv_rt1 hcalm g1 m1 g2 m2 ((snd a X W S C).1 _ h3) (star_ok h4 _ _)
    · cases h
  | .rt2 l a b, X, W, S, C => snd_V fun e h => by
    obtain ⟨hcalm, h⟩ := cold_ok C h
    unfold rt2K at h
    split at h
    · simp only [Bool.and_eq_true] at h
      obtain ⟨⟨⟨⟨⟨h1, h2⟩, h3⟩, h4⟩, h5⟩, h6⟩ := h
      obtain ⟨rfl, g1, m1, _, _⟩ := blt_ok C h1
      obtain ⟨rfl, g2, m2, _, _⟩ := blt_ok C h2
      exact pv_rt2 hcalm g1 m1 g2 m2 ((snd a X W S C).1 _ h3) ((snd b X W S C).1 _ h4) (star_ok h5 _ _) (star_ok h6 _ _)
    · cases h
  | .fz a, X, W, S, C => snd_V fun e h => pe_imp (pv_e ((snd a X W S C).1 _ h)) fun σ H Q q => by
      obtain ⟨L, G, F, e, r, z⟩ := q
      refine ⟨L, G, F, e, r, (After.bind (P1 := DOk X.K) z).mono fun v H1 z => ?_⟩
      obtain ⟨F1, e1, d, r1, st1, p1, a1⟩ := z
      exact a1 v F1 H1 r1 (Step.refl G F1) p1
theorem snds : ∀ (ms : List ME) (X : Cx) (W : WX) (S : Sx), Cok X W S G → Each X W (cks ms S) (dens G ms)
  | [], X, W, S, C => .nil
  | m :: ms, X, W, S, C => .cons (snd m X W S C).1 (snds ms X W S C)
theorem sndO : ∀ (m : Option ME) (X : Cx) (W : WX) (S : Sx), Cok X W S G → ∀ e, optK (ckO m S) e = true → POs X W e (denO G m)
  | none, X, W, S, C, e, h => by
    cases e with
    | none => exact .none
    | some e => cases h
  | some m, X, W, S, C, e, h => by
    cases e with
    | none => cases h
    | some e => exact .some ((snd m X W S C).1 e h)
theorem sndT : ∀ (m : Option ME) (X : Cx) (S : Sx), Cok X W0 S G → ∀ {es}, tstK (ckT m S) es = true → PTs X es (tOfC X (denT G m))
  | none, X, S, C, es, h => by
    cases es with
    | nil => exact pts_nil
    | cons e es => cases h
  | some m, X, S, C, es, h => by
    match es, h with
    | [e], h => exact pts_one ((snd m X W0 S C).2.1 e h).1
end
end
end Ev
set_option Elab.async false
set_option linter.all false
set_option maxHeartbeats 1000000
set_option maxRecDepth 10000
/-! Ev13: statements held against the syntax. -/
namespace Ev
open PySem PySem.Spec PyProof.Rows L2
theorem blockKind_fn {env : PySem.Env} (h : env.scope.kind = .function) : env.blockKind = .function := by
  unfold Env.blockKind
  rw [h]
  rfl
def compSc : Expr → Option Scope
  | .ListComp _ _ s _ => some s
  | .SetComp _ _ s _ => some s
  | .DictComp _ _ _ s _ => some s
  | _ => none
theorem sw_none {v : Expr} (h : compSc v = none) (t : Option Expr) (line : Nat) (env : PySem.Env) : swapsWith v t line env = pure false := by
  cases v <;> first | rfl | (simp [compSc] at h)
theorem sw_name {v : Expr} {s : Scope} (h : compSc v = some s) (x : Str) (p : Pos) (line : Nat) (env : PySem.Env) (hk : env.scope.kind = .function) :
    swapsWith v (some (.Name x p)) line env = pure (env.scope.names.lookup x == some .local && p.line == v.pos.line && !(s.names.any fun (n, k) => n == x && (k == .local || k == .cell))) := by
  cases v <;> simp only [compSc, reduceCtorEq, Option.some.injEq] at h <;> subst h <;> simp only [swapsWith, blockKind_fn hk, beq_self_eq_true, Bool.true_and] <;> rfl
def isName : Expr → Bool
  | .Name _ _ => true
  | _ => false
theorem sw_other {v t : Expr} (h : isName t = false) (line : Nat) (env : PySem.Env) : swapsWith v (some t) line env = pure false := by
  cases v <;> first
    | rfl
    | (cases t <;> first | rfl | (simp [isName] at h))
def swL (v : Expr) (x : Str) (p : Pos) (sc : Scope) : Bool := match compSc v with
  | none => false
  | some s => sc.names.lookup x == some .local && p.line == v.pos.line && !(s.names.any fun (n, k) => n == x && (k == .local || k == .cell))
theorem sw_ok (v : Expr) (x : Str) (p : Pos) (line : Nat) (env : PySem.Env) (hk : env.scope.kind = .function) : swapsWith v (some (.Name x p)) line env = pure (swL v x p env.scope) := by
  unfold swL
  cases h : compSc v with
  | none => exact sw_none h _ _ _
  | some s => exact sw_name h x p line env hk
/-! ### a, b = x, y -/
def starred : Expr → Bool
  | .Starred .. => true
  | _ => false
def localAt (sc : Scope) (line : Nat) : Expr → Option Str
  | .Name id pos => if sc.names.lookup id == some .local && pos.line == line then some id else none
  | _ => none
def swP (sc : Scope) (ts vs : List Expr) : Option (Option (List Str)) :=
  if !(ts.length == 2 || ts.length == 3) || vs.length != ts.length then some none
  else if vs.any starred then some none
  else
    let names := ts.filterMap (localAt sc ((ts.head?.map (·.pos.line)).getD 0))
    if names.length != ts.length || names.eraseDups.length != names.length then some none
    else if vs.all (foldedForSure 8) then some none
    else if vs.all (constantsAlone 8) then none
    else some (some names)
def swQ (names : List Str) (ts vs : List Expr) : Sem (Option (List Str)) :=
  if (names.length != ts.length || names.eraseDups.length != names.length) = true then pure none
  else if vs.all (foldedForSure 8) = true then pure none
  else if vs.all (constantsAlone 8) = true then do
    unsupported "assign.tuple-of-constant-expressions:order-of-the-stores"
    pure (some names)
  else pure (some names)
theorem swP_ok {env : PySem.Env} (hk : env.scope.kind = .function) {ts vs : List Expr} {k k2 : Nat} {p p2 : Pos} {r : Option (List Str)} (h : swP env.scope ts vs = some r) : swappedStores [.Tuple ts k p] (.Tuple vs k2 p2) env = pure r := by
  unfold swP at h
  unfold swappedStores
  simp only [blockKind_fn hk, bne_self_eq_false, Bool.or_false]
  split at h
  · rename_i c
    cases h
    rw [if_pos c]
  · rename_i c
    rw [if_neg c]
    show (if vs.any starred = true then pure none else swQ (ts.filterMap (localAt env.scope ((ts.head?.map (·.pos.line)).getD 0))) ts vs) = pure r
    split at h
    · rename_i c2
      cases h
      rw [if_pos c2]
    · rename_i c2
      rw [if_neg c2]
      unfold swQ
      dsimp only at h
      split at h
      · rename_i c3
        cases h
        rw [if_pos c3]
      · rename_i c3
        rw [if_neg c3]
        split at h
        · rename_i c4
          cases h
          rw [if_pos c4]
        · rename_i c4
          rw [if_neg c4]
          split at h
          · cases h
          · rename_i c5
            rw [if_neg c5]
            cases h
            rfl
theorem sw_noTup {v t : Expr} {env : PySem.Env} (h : isTupE v = false) : swappedStores [t] v env = pure none := by
  cases v <;> first | (simp [isTupE] at h; done) | (cases t <;> rfl)
theorem sw_noTgt {v t : Expr} {env : PySem.Env} (h : isTupE t = false) (h2 : (match t with | .List _ _ => false | _ => true) = true) : swappedStores [t] v env = pure none := by
  cases t <;> first | (simp [isTupE] at h; done) | (simp at h2; done) | rfl
theorem sub_ok {o e : Expr} {p : Pos} {env : PySem.Env} (h : plainIx e = true) (v : Value) : assign (.Subscript o e p) env v = (do
      let ov ← holding [v] (eval o env)
      let iv ← holding [v, ov] (eval e env)
      standAt p
      holding [v, ov, iv] (setItem ov iv v)
      release [v, ov, iv] []) := by
  cases e <;> first | rfl | (simp [plainIx] at h)
theorem sole_sub {o i v : Expr} {p : Pos} {line : Nat} {env : PySem.Env} : swapsWithSole [.Subscript o i p] v line env = pure false := sw_other (t := .Subscript o i p) rfl line env
theorem sole_tup {es : List Expr} {k : Nat} {v : Expr} {p : Pos} {line : Nat} {env : PySem.Env} : swapsWithSole [.Tuple es k p] v line env = pure false := sw_other (t := .Tuple es k p) rfl line env
/-! ### the checks -/
def isLc : ME → Bool
  | .lc _ _ _ _ _ _ => true
  | _ => false
def locOnly (S : Sx) (x : Str) : Bool := S.sc.names.lookup x == some .local
def asgK (S : Sx) (i : Nat) (lc : Bool) (k : Expr → Bool) : Stmt → Bool
  | .Assign [.Name x px] ev _ => nmK S i x && locB S x && k ev && (!(swL ev x px S.sc) || lc)
  | _ => false
def swNoneB (sc : Scope) : Expr → Expr → Bool
  | .Tuple ts _ _, .Tuple vs _ _ => match swP sc ts vs with
    | some none => true
    | _ => false
  | _, v => !isTupE v
def unpK (S : Sx) (is : List Nat) (k : Expr → Bool) : Stmt → Bool
  | .Assign [t] ev _ => tgK S is true t && notStar t && !isName t && k ev && swNoneB S.sc t ev
  | _ => false
def parK (S : Sx) (i j : Nat) (a b : Expr → Bool) : Stmt → Bool
  | .Assign [.Tuple [.Name x px, .Name y py] kt pt] (.Tuple [ea, eb] k2 pt2) _ => nmK S i x && nmK S j y && i != j && locOnly S x && locOnly S y && a ea && notStar ea && b eb && notStar eb &&
    (match swP S.sc [.Name x px, .Name y py] [ea, eb] with
      | some (some r) => decide (r = [x, y])
      | _ => false)
  | _ => false
def par3K (S : Sx) (i j l : Nat) (a b c : Expr → Bool) : Stmt → Bool
  | .Assign [.Tuple [.Name x px, .Name y py, .Name z pz] kt pt] (.Tuple [ea, eb, ec] k2 pt2) _ => nmK S i x && nmK S j y && nmK S l z && i != j && i != l && j != l && locOnly S x && locOnly S y && locOnly S z && a ea && notStar ea && b eb && notStar eb && c ec && notStar ec &&
    (match swP S.sc [.Name x px, .Name y py, .Name z pz] [ea, eb, ec] with
      | some (some r) => decide (r = [x, y, z])
      | _ => false)
  | _ => false
def stoK (S : Sx) (i : Nat) (k v : Expr → Bool) : Stmt → Bool
  | .Assign [.Subscript (.Name x px) ei _] ev _ => varK S i (.Name x px) && k ei && v ev && plainIx ei
  | _ => false
def dstK (S : Sx) (i : Nat) (k : String) (v : Expr → Bool) : Stmt → Bool
  | .Assign [.Subscript xo (.Constant (.str s) _ _) _] ev _ => varK S i xo && s == T k && v ev
  | _ => false
def augK (S : Sx) (i : Nat) (op : Operator) (v : Expr → Bool) : Stmt → Bool
  | .AugAssign (.Name x _) o ev _ => nmK S i x && locB S x && decide (o = op) && (decide (op = .Add) || decide (op = .Sub)) && v ev
  | _ => false
def appK (S : Sx) (i : Nat) (v : Expr → Bool) : Stmt → Bool
  | .Expr (.Call (.Attribute (.Name x px) m apos) [ev] [] cpos) _ => varK S i (.Name x px) && m == ("append" : Str) && apos.endLine == cpos.line && v ev && notStar ev
  | _ => false
def expK (v : Expr → Bool) : Stmt → Bool
  | .Expr ev _ => v ev && (compSc ev).isNone
  | _ => false
def retK (v : Expr → Bool) : Stmt → Bool
  | .Return (some ev) _ => v ev
  | _ => false
def pasK : Stmt → Bool
  | .Pass _ => true
  | .Expr (.Constant (.str _) _ _) _ => true
  | _ => false
def iteSK (c : Expr → Bool) (a b : List Stmt → Bool) : Stmt → Bool
  | .If ec t f _ => c ec && a t && b f
  | _ => false
def frK (S : Sx) (tg : List Nat) (pair : Bool) (w : Expr → Expr → Bool) (b : List Stmt → Bool) : Stmt → Bool
  | .For tgE iter body [] _ => w tgE iter && notSet iter && tgK S tg pair tgE && b body
  | _ => false
def whlK (c : Expr → Bool) (b : List Stmt → Bool) : Stmt → Bool
  | .While ec body [] _ => c ec && b body
  | _ => false
def raiK (S : Sx) (cls : String) (ks : List (Expr → Bool)) : Stmt → Bool
  | .Raise (some (.Call (.Name x _) es [] _)) none _ => x == T cls && glB S.sc x && !dbg x && eachK ks es && !es.isEmpty
  | _ => false
def traK (S : Sx) (i : Nat) (cs : List String) (b su : List Stmt → Bool) : Stmt → Bool
  | .Try body [.ExceptHandler (some (.Tuple es _ _)) (some n) (st0 :: sts) _] [] [] _ => S.cf.isNone && decide (cs.length = 2) && clsK S cs es && nmK S i n && locOnly S n && b body && su (st0 :: sts)
  | .Try body [.ExceptHandler (some (.Name x p)) (some n) (st0 :: sts) _] [] [] _ => S.cf.isNone && decide (cs.length = 1) && clsK S cs [.Name x p] && nmK S i n && locOnly S n && b body && su (st0 :: sts)
  | _ => false
def troK (S : Sx) (cs : List String) (b su : List Stmt → Bool) : Stmt → Bool
  | .Try body [.ExceptHandler (some (.Name x p)) none (st0 :: sts) _] [] [] _ => S.cf.isNone && decide (cs.length = 1) && clsK S cs [.Name x p] && b body && su (st0 :: sts)
  | _ => false
def swpK (S : Sx) (i : Nat) (k l v : Expr → Bool) : Stmt → Bool
  | .Assign [.Tuple [.Subscript (.Name x px) ea t1, .Subscript (.Name y py) eb t2] kt tp] ev _ => varK S i (.Name x px) && varK S i (.Name y py) && k ea && plainIx ea && l eb && plainIx eb && v ev && swNoneB S.sc (.Tuple [.Subscript (.Name x px) ea t1, .Subscript (.Name y py) eb t2] kt tp) ev
  | _ => false
def Sx.heat (S : Sx) : Sx := { S with hot := true }
def coldS (S : Sx) (k : Stmt → Bool) : Stmt → Bool := fun e => !S.hot && k e
mutual
def cs : MS → Sx → Stmt → Bool
  | .asg i e, S => asgK S i (isLc e) (ck e S).v
  | .unp is e, S => coldS S (unpK S is (ck e S).v)
  | .par i j a b, S => coldS S (parK S i j (ck a S).v (ck b S).v)
  | .par3 i j l a b c, S => coldS S (par3K S i j l (ck a S).v (ck b S).v (ck c S).v)
  | .sto i k e, S => stoK S i (ck k S).v (ck e S).v
  | .aug i op e, S => augK S i op (ck e S).v
  | .app i e, S => appK S i (ck e S).v
  | .dst i k e, S => dstK S i k (ck e S).v
  | .exp e, S => expK (ck e S).v
  | .ret e, S => retK (ck e S).v
  | .retN, S => fun st => match st with
    | .Return none _ => true
    | _ => false
  | .ite c t f, S => iteSK (ck c S).t (css t S) (css f S)
  | .fr tg pair it b, S => coldS S (frK S tg pair (ck it S).w (css b S))
  | .whl c b, S => whlK (ck c S).t (css b S)
  | .rai x es, S => coldS S (raiK S x (cks es S))
  | .tra i xs b su, S => coldS S (traK S i xs (css b S) (css su S.heat))
  | .tro xs b su, S => coldS S (troK S xs (css b S) (css su S.heat))
  | .swp i k l e, S => coldS S (swpK S i (ck k S).v (ck l S).v (ck e S).v)
  | .nev, _ => fun _ => true
  | .pas, S => pasK
  | .brk, S => fun st => match st with
    | .Break _ => true
    | _ => false
  | .cnt, S => fun st => match st with
    | .Continue _ => true
    | _ => false
def css : List MS → Sx → List Stmt → Bool
  | [], S => fun sts => sts.isEmpty
  | m :: ms, S => fun sts => match sts with
    | st :: sts => cs m S st && css ms S sts
    | [] => false
end
section
variable {X : Cx} {W : WX} {S : Sx} {G : Gm}
theorem coldS_ok (C : Cok X W S G) {k : Stmt → Bool} {e : Stmt} (h : coldS S k e = true) : X.calm = true ∧ k e = true := by
  unfold coldS at h
  rw [Bool.and_eq_true, Bool.not_eq_true'] at h
  exact ⟨C.cm h.1, h.2⟩
theorem locOnly_ok (C : Cok X W S G) {x : Str} (h : locOnly S x = true) : X.env.scope.names.lookup x = some .local := by
  rw [C.hs]
  simpa [locOnly] using h
theorem loc_ok (C : Cok X W S G) {x : Str} (h : locB S x = true) : Loc X.env.scope x ∧ (X.fn x = true ∨ X.env.scope.names.lookup x = some .local) := by
  obtain ⟨l1, l2⟩ := locB_ok h
  rw [C.hs]
  exact ⟨l1, l2.imp (C.hf x) id⟩
/-- a comprehension's parts -/
theorem lc_parts (C : Cok X W S G) (hcalm : X.calm = true) {own : List (String × Nat)} {tg : List Nat} {pair : Bool} {it : ME} {c : Option ME} {x : ME} {e : Expr} (h : lcK S own tg pair (ck it S).w (fun sc => ckT c (S.blk sc)) (fun sc => (ck x (S.blk sc)).v) e = true) :
    ∃ elt tgE iter ifs scope pos, e = .ListComp elt [⟨tgE, iter, ifs, 0⟩] scope pos ∧ PIs X W tgE iter (den G it).w ∧ BlkOk X.N X.env.scope scope (own.map fun p => (T p.1, p.2)) ∧ (∀ i ∈ tg, i ∈ own.map (·.2)) ∧ Blk X W scope tgE tg pair ifs (denT G c) elt (den G x).v ∧ ∀ x, foldedSetIterable iter X.env x = pure x := by
  unfold lcK at h
  split at h
  · simp only [Bool.and_eq_true, decide_eq_true_eq] at h
    obtain ⟨⟨⟨⟨⟨⟨⟨h0, h1⟩, h2⟩, h3⟩, h4⟩, h5⟩, h6⟩, h7⟩ := h
    subst h0
    have bo := blk_ok C h3
    exact ⟨_, _, _, _, _, _, rfl, (snd it X W S C).2.2 _ _ h1, bo, by simpa using h4, ⟨fun s H Ca cl fp => tg_ok (C.blk bo.kind s H Ca cl fp) hcalm h5, fun s H Ca cl fp => pts_blk hcalm (sndT c _ _ (C.blk bo.kind s H Ca cl fp) h6), fun s H Ca cl fp => (snd x _ _ _ (C.blk bo.kind s H Ca cl fp)).1 _ h7⟩, notSet_ok h2 _⟩
  · cases h
theorem var_ok (C : Cok X W S G) {i : Nat} {e : Expr} (h : varK S i e = true) : PV X W e (varC i) := (snd (G := G) (.var i) X W S C).1 e h
theorem Cok.tr {W' : WX} {pn : List (Addr × Obj)} {xe : Value → Shared → Prop} (C : Cok X W S G) (tk : Takes (X.tr pn xe) W') : Cok (X.tr pn xe) W' S G :=
  ⟨C.hN, C.hs, C.hf, C.kd, ⟨C.ok.nd, C.ok.un, C.ok.gd, C.ok.bn, C.ok.gl, tk, C.ok.xc, C.ok.sub, C.ok.fld, C.ok.fns, C.ok.fks, C.ok.kn⟩, C.cm, C.hm, C.st⟩
theorem Cok.suite {a : Addr} {pn : List (Addr × Obj)} (C : Cok X W S G) : Cok (X.suite a pn) W0 S.heat G :=
  ⟨C.hN, C.hs, C.hf, C.kd, ⟨C.ok.nd, C.ok.un, C.ok.gd, C.ok.bn, C.ok.gl, takes0, (fun z => by cases z), C.ok.sub, C.ok.fld, (fun z => by cases z), (fun z => by cases z), C.ok.kn⟩, (fun z => by cases z), fun _ => rfl, C.st⟩
theorem cns_two {xs : List String} {es : List Expr} (h : CNs X xs es) (hl : xs.length = 2) : ∃ x1 x2 p1 p2, xs = [x1, x2] ∧ es = [.Name (T x1) p1, .Name (T x2) p2] := by
  cases h with
  | nil => cases hl
  | cons _ _ t =>
    cases t with
    | nil => cases hl
    | cons _ _ t =>
      cases t with
      | nil => exact ⟨_, _, _, _, rfl, rfl⟩
      | cons _ _ _ => simp at hl
theorem cns_one {xs : List String} {e : Expr} (h : CNs X xs [e]) : ∃ x1 p1, xs = [x1] ∧ e = .Name (T x1) p1 := by
  cases h with
  | cons _ _ t =>
    cases t
    exact ⟨_, _, rfl, rfl⟩
mutual
theorem sndS (XF : Xt) : ∀ (m : MS) (X : Cx) (W : WX) (S : Sx), Cok X W S G → PassesOwn (model X.prog X.w) X.A X.env X.xe → ∀ st, cs m S st = true → PV1 X W st (sen G XF m)
  | .asg i e, X, W, S, C, own, st, h => by
    replace h : asgK S i (isLc e) (ck e S).v st = true := h
    unfold asgK at h
    split at h
    · rename_i x px ev pos
      simp only [Bool.and_eq_true, Bool.or_eq_true, Bool.not_eq_true'] at h
      obtain ⟨⟨⟨h1, h2⟩, h3⟩, h4⟩ := h
      obtain ⟨l1, l2⟩ := loc_ok C h2
      have hsw := sw_ok ev x px pos.line X.env C.kd
      rw [C.hs] at hsw
      cases hv : swL ev x px S.sc with
      | false =>
        rw [hv] at hsw
        exact pz_asg C.ok.nd (nmK_ok C h1) l1 ((snd e X W S C).1 _ h3) hsw l2
      | true =>
        rw [hv] at hsw h4
        rcases h4 with h4 | h4
        · cases h4
        · cases e <;> first | (simp [isLc] at h4; done) | skip
          rename_i own' tg pair it c xx
          obtain ⟨hcalm, h3⟩ := cold_ok C h3
          obtain ⟨elt, tgE, iter, ifs, scope, lpos, rfl, q1, q2, q3, q4, q5⟩ := lc_parts C hcalm (show lcK _ _ _ _ _ _ _ _ = true from h3)
          have hl : X.env.scope.names.lookup x = some .local := by
            rw [C.hs]
            unfold swL at hv
            simp only [compSc, Bool.and_eq_true] at hv
            simpa using hv.1.1
          have hmap : (own'.map fun p => (T p.1, p.2)).map (·.2) = own'.map (·.2) := by rw [List.map_map]; rfl
          have := pz_asgLc hcalm C.ok.nd (nmK_ok C h1) hl hsw q1 q2 (is := tg) (by rw [hmap]; exact q3) q4 q5
          rw [hmap] at this
          exact this
    · cases h
  | .unp is e, X, W, S, C, own, st, h => by
    obtain ⟨hcalm, h⟩ := coldS_ok C (k := unpK S is (ck e S).v) h
    unfold unpK at h
    split at h
    · rename_i t ev pos
      simp only [Bool.and_eq_true, Bool.not_eq_true'] at h
      obtain ⟨⟨⟨⟨h1, h2⟩, h3⟩, h4⟩, h5⟩ := h
      refine pz_unp (tg_ok C hcalm h1) ((snd e X W S C).1 _ h4) (sw_other h3 _ _) ?_ (by rw [assignEach_ok h2]; rfl)
      unfold swNoneB at h5
      split at h5
      · split at h5
        · rename_i hp
          exact swP_ok C.kd (by rw [C.hs]; exact hp)
        · cases h5
      · exact sw_noTup (by simpa using h5)
    · cases h
  | .par i j a b, X, W, S, C, own, st, h => by
    obtain ⟨hcalm, h⟩ := coldS_ok C (k := parK S i j (ck a S).v (ck b S).v) h
    unfold parK at h
    split at h
    · simp only [Bool.and_eq_true] at h
      obtain ⟨⟨⟨⟨⟨⟨⟨⟨⟨h1, h2⟩, h3⟩, h4⟩, h5⟩, h6⟩, h7⟩, h8⟩, h9⟩, h10⟩ := h
      split at h10
      · rename_i r hp
        have hr : r = _ := of_decide_eq_true h10
        subst hr
        exact pz_par hcalm C.ok.nd (nmK_ok C h1) (nmK_ok C h2) (by simpa using h3) (locOnly_ok C h4) (locOnly_ok C h5) (.cons ((snd a X W S C).1 _ h6) (star_ok h7 _ _) (.cons ((snd b X W S C).1 _ h8) (star_ok h9 _ _) .nil)) (swP_ok C.kd (by rw [C.hs]; exact hp))
      · cases h10
    · cases h
  | .par3 i j l a b c, X, W, S, C, own, st, h => by
    obtain ⟨hcalm, h⟩ := coldS_ok C (k := par3K S i j l (ck a S).v (ck b S).v (ck c S).v) h
    unfold par3K at h
    split at h
    · simp only [Bool.and_eq_true] at h
      obtain ⟨⟨⟨⟨⟨⟨⟨⟨⟨⟨⟨⟨⟨⟨⟨h1, h2⟩, h3⟩, h4⟩, h5⟩, h6⟩, h7⟩, h8⟩, h9⟩, h10⟩, h11⟩, h12⟩, h13⟩, h14⟩, h15⟩, h16⟩ := h
      split at h16
      · rename_i r hp
        have hr : r = _ := of_decide_eq_true h16
        subst hr
        exact pz_par3 hcalm C.ok.nd (nmK_ok C h1) (nmK_ok C h2) (nmK_ok C h3) (by simpa using h4) (by simpa using h5) (by simpa using h6) (locOnly_ok C h7) (locOnly_ok C h8) (locOnly_ok C h9)
          (.cons ((snd a X W S C).1 _ h10) (star_ok h11 _ _) (.cons ((snd b X W S C).1 _ h12) (star_ok h13 _ _) (.cons ((snd c X W S C).1 _ h14) (star_ok h15 _ _) .nil))) (swP_ok C.kd (by rw [C.hs]; exact hp))
      · cases h16
    · cases h
  | .sto i k e, X, W, S, C, own, st, h => by
    replace h : stoK S i (ck k S).v (ck e S).v st = true := h
    unfold stoK at h
    split at h
    · simp only [Bool.and_eq_true] at h
      obtain ⟨⟨⟨h1, h2⟩, h3⟩, h4⟩ := h
      exact pz_sto (var_ok C h1) ((snd k X W S C).1 _ h2) ((snd e X W S C).1 _ h3) (sub_ok h4) sole_sub (sw_noTgt rfl rfl) rfl
    · cases h
  | .aug i op e, X, W, S, C, own, st, h => by
    replace h : augK S i op (ck e S).v st = true := h
    unfold augK at h
    split at h
    · simp only [Bool.and_eq_true, Bool.or_eq_true, decide_eq_true_eq] at h
      obtain ⟨⟨⟨⟨h1, h2⟩, h3⟩, h4⟩, h5⟩ := h
      subst h3
      obtain ⟨l1, l2⟩ := loc_ok C h2
      exact pz_aug C.ok.nd (nmK_ok C h1) l1 ((snd e X W S C).1 _ h5) h4 l2
    · cases h
  | .app i e, X, W, S, C, own, st, h => by
    replace h : appK S i (ck e S).v st = true := h
    unfold appK at h
    split at h
    · simp only [Bool.and_eq_true] at h
      obtain ⟨⟨⟨⟨h1, h2⟩, h3⟩, h4⟩, h5⟩ := h
      have h2 := eq_of_beq h2
      subst h2
      exact pz_app (var_ok C h1) ((snd e X W S C).1 _ h4) (sw_none rfl _ _ _) rfl h3 (star_ok h5 _ _)
    · cases h
  | .dst i k e, X, W, S, C, own, st, h => by
    replace h : dstK S i k (ck e S).v st = true := h
    unfold dstK at h
    split at h
    · simp only [Bool.and_eq_true] at h
      obtain ⟨⟨h1, h2⟩, h3⟩ := h
      have e1 := eq_of_beq h2
      subst e1
      exact pz_dst C.ok.un (var_ok C h1) ((snd e X W S C).1 _ h3) (sw_other (t := .Subscript _ _ _) rfl _ _)
    · cases h
  | .exp e, X, W, S, C, own, st, h => by
    replace h : expK (ck e S).v st = true := h
    unfold expK at h
    split at h
    · simp only [Bool.and_eq_true] at h
      exact pz_exp ((snd e X W S C).1 _ h.1) (sw_none (by simpa using h.2) _ _ _)
    · cases h
  | .ret e, X, W, S, C, own, st, h => by
    replace h : retK (ck e S).v st = true := h
    unfold retK at h
    split at h
    · exact pz_ret ((snd e X W S C).1 _ h)
    · cases h
  | .retN, X, W, S, C, own, st, h => by
    cases st <;> first | (cases h; done) | skip
    rename_i v p
    cases v with
    | none => exact pz_retN
    | some _ => cases h
  | .ite c t f, X, W, S, C, own, st, h => by
    replace h : iteSK (ck c S).t (css t S) (css f S) st = true := h
    unfold iteSK at h
    split at h
    · simp only [Bool.and_eq_true] at h
      exact pz_ite ((snd c X W S C).2.1 _ h.1.1).1 (sndSs XF t X W S C own _ h.1.2) (sndSs XF f X W S C own _ h.2)
    · cases h
  | .fr tg pair it b, X, W, S, C, own, st, h => by
    obtain ⟨hcalm, h⟩ := coldS_ok C (k := frK S tg pair (ck it S).w (css b S)) h
    unfold frK at h
    split at h
    · simp only [Bool.and_eq_true] at h
      obtain ⟨⟨⟨h1, h2⟩, h3⟩, h4⟩ := h
      exact pz_fr own hcalm ((snd it X W S C).2.2 _ _ h1) (tg_ok C hcalm h3) (sndSs XF b X W S C own _ h4) (notSet_ok h2 _)
    · cases h
  | .whl c b, X, W, S, C, own, st, h => by
    replace h : whlK (ck c S).t (css b S) st = true := h
    unfold whlK at h
    split at h
    · simp only [Bool.and_eq_true] at h
      exact pz_whl own ((snd c X W S C).2.1 _ h.1).1 (sndSs XF b X W S C own _ h.2)
    · cases h
  | .rai x es, X, W, S, C, own, st, h => by
    obtain ⟨hcalm, h⟩ := coldS_ok C (k := raiK S x (cks es S)) h
    unfold raiK at h
    split at h
    · simp only [Bool.and_eq_true] at h
      obtain ⟨⟨⟨⟨h1, h2⟩, h3⟩, h4⟩, h5⟩ := h
      have e1 := eq_of_beq h1
      subst e1
      have pvs := (snds es X W S C).pvs h4
      show PV1 X W _ (raiS x (G.xc x) (dens G es))
      revert pvs
      generalize dens G es = cs
      intro pvs
      cases pvs with
      | nil => simp at h5
      | cons h0 hs t => exact pz_raiG C.ok hcalm (gl_ok C h2) (.cons h0 hs t) (dbg_ok h3).1 hs (by rw [backTo_any]; exact starEach_len t)
    · cases h
  | .tra i xs b su, X, W, S, C, own, st, h => by
    obtain ⟨hcalm, h⟩ := coldS_ok C (k := traK S i xs (css b S) (css su S.heat)) h
    unfold traK at h
    split at h
    · simp only [Bool.and_eq_true, decide_eq_true_eq] at h
      obtain ⟨⟨⟨⟨⟨⟨h1, h2⟩, h3⟩, h4⟩, h5⟩, h6⟩, h7⟩ := h
      have hn := clsK_ok C h3
      obtain ⟨x1, x2, p1, p2, rfl, rfl⟩ := cns_two hn h2
      obtain ⟨t1, t2⟩ := C.st (by simpa using h1)
      exact pz_tra2 t1 t2 C.ok.nd (nmK_ok C h4) (locOnly_ok C h5) hn C.ok.tk C.ok.sub C.ok.kn (fun W' pn xe tk own' => sndSs XF b (X.tr pn xe) W' S (C.tr tk) own' _ h6) fun a oe pn => sndSs XF su (X.suite a ((a, oe) :: pn)) W0 S.heat C.suite PassesOwn.never _ h7
    · simp only [Bool.and_eq_true, decide_eq_true_eq] at h
      obtain ⟨⟨⟨⟨⟨⟨h1, h2⟩, h3⟩, h4⟩, h5⟩, h6⟩, h7⟩ := h
      have hn := clsK_ok C h3
      obtain ⟨x1, p1, rfl, hx⟩ := cns_one hn
      cases hx
      obtain ⟨t1, t2⟩ := C.st (by simpa using h1)
      exact pz_tra1 t1 t2 C.ok.nd (nmK_ok C h4) (locOnly_ok C h5) hn C.ok.tk C.ok.sub C.ok.kn (fun W' pn xe tk own' => sndSs XF b (X.tr pn xe) W' S (C.tr tk) own' _ h6) fun a oe pn => sndSs XF su (X.suite a ((a, oe) :: pn)) W0 S.heat C.suite PassesOwn.never _ h7
    · cases h
  | .tro xs b su, X, W, S, C, own, st, h => by
    obtain ⟨hcalm, h⟩ := coldS_ok C (k := troK S xs (css b S) (css su S.heat)) h
    unfold troK at h
    split at h
    · simp only [Bool.and_eq_true, decide_eq_true_eq] at h
      obtain ⟨⟨⟨⟨h1, h2⟩, h3⟩, h6⟩, h7⟩ := h
      have hn := clsK_ok C h3
      obtain ⟨x1, p1, rfl, hx⟩ := cns_one hn
      cases hx
      obtain ⟨t1, t2⟩ := C.st (by simpa using h1)
      exact pz_tro t1 t2 hn C.ok.tk C.ok.sub C.ok.kn (fun W' pn xe tk own' => sndSs XF b (X.tr pn xe) W' S (C.tr tk) own' _ h6) fun a oe pn => sndSs XF su (X.suite a ((a, oe) :: pn)) W0 S.heat C.suite PassesOwn.never _ h7
    · cases h
  | .swp i k l e, X, W, S, C, own, st, h => by
    obtain ⟨hcalm, h⟩ := coldS_ok C (k := swpK S i (ck k S).v (ck l S).v (ck e S).v) h
    unfold swpK at h
    split at h
    · simp only [Bool.and_eq_true] at h
      obtain ⟨⟨⟨⟨⟨⟨⟨h1, h2⟩, h3⟩, h4⟩, h5⟩, h6⟩, h7⟩, h8⟩ := h
      refine pz_swp hcalm (var_ok C h1) (var_ok C h2) ((snd k X W S C).1 _ h3) ((snd l X W S C).1 _ h5) ((snd e X W S C).1 _ h7) (sub_ok h4) (sub_ok h6) sole_tup ?_
      unfold swNoneB at h8
      split at h8
      · rename_i hq
        cases hq
        split at h8
        · rename_i hp
          exact swP_ok C.kd (by rw [C.hs]; exact hp)
        · cases h8
      · exact sw_noTup (by simpa using h8)
    · cases h
  | .nev, X, W, S, C, own, st, h => ⟨fun pins s σ H D I q => by
      obtain ⟨_, _, _, _, _, a⟩ := q
      exact a.elim⟩
  | .pas, X, W, S, C, own, st, h => by
    replace h : pasK st = true := h
    unfold pasK at h
    split at h
    · exact pz_pass
    · exact ps_imp ps_doc fun D σ H q => by
        obtain ⟨L, G, F, e, r, a⟩ := q
        exact a σ F H r (Step.refl G F)
    · cases h
  | .brk, X, W, S, C, own, st, h => by
    cases st <;> first | (cases h; done) | exact pz_brk
  | .cnt, X, W, S, C, own, st, h => by
    cases st <;> first | (cases h; done) | exact pz_cnt
theorem sndSs (XF : Xt) : ∀ (ms : List MS) (X : Cx) (W : WX) (S : Sx), Cok X W S G → PassesOwn (model X.prog X.w) X.A X.env X.xe → ∀ sts, css ms S sts = true → PVS X W sts (sens G XF ms)
  | [], X, W, S, C, own, sts, h => by
    cases sts with
    | nil => exact pz_nil
    | cons _ _ => cases h
  | m :: ms, X, W, S, C, own, sts, h => by
    cases sts with
    | nil => cases h
    | cons st sts =>
      have h : (cs m S st && css ms S sts) = true := h
      rw [Bool.and_eq_true] at h
      exact pz_cons (sndS XF m X W S C own st h.1) (sndSs XF ms X W S C own sts h.2)
end
end
end Ev
set_option Elab.async false
set_option linter.all false
set_option maxHeartbeats 1000000
set_option maxRecDepth 100000
/-! Ev14: defs, the table of them. -/
namespace Ev
open PySem PySem.Spec PyProof.Rows L2
section
variable {P : Program} {w : World} {K : PySem.W.Frag} {mg : Str → Option Value} {base : Heap}
abbrev gcx (P : Program) (w : World) (K : PySem.W.Frag) (mg : Str → Option Value) (base : Heap) (N : List Str) (qual : Str) (scope : Scope) (f : Addr) (cd : Value) (A : Around) (outer : List PySem.Env) (s : Shared) (H : Hp) (E : XK) : Cx := cxOf (L2.CX P w) P w K mg base N qual scope f cd A outer s H E
/-- a def by its body, nothing being shown -/
theorem fn_g {k : Nat} {x qual : Str} {st : Stmt} {f : Addr} {fd : FuncData} {N ps : List Str} {sp : Sp} (Fd : L2.Fun K x qual st f fd) (S : FnScope N ps (defScope st)) (len : ∀ vs H Q E, sp vs H Q E → vs.length = ps.length)
    (body : ∀ (cdv : Value) (A : Around) (outer : List PySem.Env) (s : Shared) (H : Hp) (vs : List V) (Q : VK) (E : XK), Room k (A.deeper (envOfC qual (defScope st) s.heap.objs.size f cdv)) → A.guards = some [] → sp vs H Q E →
      ∃ t, PSs (gcx P w K mg base N qual (defScope st) f cdv A outer s H E) (defBody st) t ∧ t { nx := fun _ H' => Q .non H', rt := Q } (start N vs) H) :
    FnG P w K mg base (k + 1) f fd ps sp := by
  obtain ⟨oc, od, kV, doc, pm, an, cdv, ct, osl, rfl, lk, hcd⟩ := Fd.ex
  refine ⟨len, fun A outer s H args us vs Q E hr hgd e0 hb r hsp => ?_⟩
  have hvl := len _ _ _ _ hsp
  have inK : K.In s.heap := e0.mod.kin.keeps fun b o e => (e0.bs b o e).1
  have nolim : s.heap.NoLimit := e0.mod.nolimit.keeps fun b o e => (e0.bs b o e).1
  have kinds : ∀ y ∈ ps.zip us, (defScope st).names.lookup y.1 = some .local ∨ ((defScope st).names.lookup y.1 = some .cell ∧ ((cellsFrom (s.heap.objs.size + 1) (defScope st).names []).lookup y.1).isSome = true) := by
    rintro ⟨n, v⟩ hy
    exact (S.par n (List.of_mem_zip hy).1).imp id fun q => ⟨q, PySem.W.cellsFrom_some _ _ _ (.inl q)⟩
  refine codeAny_call_function hr.depth (inK _ _ lk) rfl S.co S.gen rfl (PySem.W.codeRec_of inK hcd) (hb _ _ _ _ (wpAny_newFunctionEnv_cells S.kind kinds fun env he s1 x => ?_))
  subst he
  refine ⟨nolim.keeps x.toInCall.keep, codeAny_func ?_⟩
  obtain ⟨t, ht, hq⟩ := body cdv A outer s H vs Q E (hr.deeper _) hgd hsp
  have J0 : Inv (gcx P w K mg base N qual (defScope st) f cdv A outer s H E) [] (start N vs) H s1 := inv_start S hr.hd e0 hvl r x
  refine wpAny_mono (ht.run [] s1 (start N vs) H _ J0 hq) (fun fl s' hs => ?_) fun e s' hs => hs
  cases fl with
  | brk => exact (show False from hs.choose_spec.choose_spec.2).elim
  | cont => exact (show False from hs.choose_spec.choose_spec.2).elim
  | ret u =>
    obtain ⟨v, σ', H', J, rv, q⟩ := hs
    exact ⟨v, H', J.os, J.bare, J.base, J.hok, rv, q⟩
  | next =>
    obtain ⟨σ', H', J, q⟩ := hs
    exact ⟨V.non, H', J.os, J.bare, J.base, J.hok, rfl, q⟩
end
/-! ### the start and the end of a def -/
theorem mem_lents : ∀ {ms : List Mo} {vs : List V} {i : Nat} {a : Addr}, ms[i]? = some .l → vs[i]? = some (.ref a) → a ∈ lents ms vs
  | [], vs, i, a, h, _ => by simp at h
  | m :: ms, [], i, a, _, h => by simp at h
  | m :: ms, v :: vs, 0, a, h1, h2 => by
    simp at h1 h2
    subst h1 h2
    exact List.mem_cons_self
  | m :: ms, v :: vs, i + 1, a, h1, h2 => by
    have q := mem_lents (ms := ms) (vs := vs) (i := i) (a := a) (by simpa using h1) (by simpa using h2)
    cases m <;> cases v <;> first | exact q | exact List.mem_cons_of_mem _ q
/-- different places lend different objects -/
theorem lents_ne : ∀ {ms : List Mo} {vs : List V} {i j : Nat} {a : Addr}, (lents ms vs).Nodup → i ≠ j → ms[i]? = some .l → ms[j]? = some .l → vs[i]? = some (.ref a) → vs[j]? ≠ some (.ref a)
  | [], vs, i, j, a, _, _, h, _, _ => by simp at h
  | m :: ms, [], i, j, a, _, _, _, _, h => by simp at h
  | m :: ms, v :: vs, i, j, a, nd, hij, h1, h2, h3 => by
    have tail : (lents ms vs).Nodup := by
      cases m <;> cases v <;> first | exact nd | exact (List.nodup_cons.mp nd).2
    cases i with
    | zero =>
      cases j with
      | zero => exact absurd rfl hij
      | succ j =>
        simp at h1 h3
        subst h1 h3
        intro h4
        exact (List.nodup_cons.mp nd).1 (mem_lents (by simpa using h2) (by simpa using h4))
    | succ i =>
      cases j with
      | zero =>
        intro h4
        simp at h2 h4
        subst h2 h4
        exact (List.nodup_cons.mp nd).1 (mem_lents (by simpa using h1) (by simpa using h3))
      | succ j =>
        intro h4
        exact lents_ne tail (fun z => hij (congrArg (· + 1) z)) (by simpa using h1) (by simpa using h2) (by simpa using h3) (by simpa using h4)
section
variable {K : PySem.W.Frag}
theorem slOf_l (c : C) : slOf .l c.d = some (.mu true false c) := by
  cases c with
  | lst _ => rfl
  | dct kvs =>
    show (decKv (kvs.map encKv)).map (fun k => Sl.mu true false (.dct k)) = _
    rw [dec_enc]
    rfl
/-- a slot at the start -/
theorem start_slot {G F H : Hp} {LS : List Addr} (L : Fr) (hb : L.b = cut H LS) : ∀ {ms : List Mo} {vs : List V} {ds : List D} {e : Env}, ArgsOk K F H LS ms vs ds → startE ms ds = some e → (∀ i a, ms[i]? = some .l → vs[i]? = some (.ref a) → L.l i = some a ) →
    e.length = ms.length ∧ vs.length = ms.length ∧ ∀ i s, e[i]? = some s → SlOk K L (cut H LS) F H i (vs[i]?) s ∧ (∀ t k c, s = .mu t k c → ms[i]? = some .l) := by
  intro ms vs ds e h
  induction h generalizing e L with
  | nil =>
    intro he _
    cases he
    exact ⟨rfl, rfl, fun i s h => by simp at h⟩
  | @f ms v vs d ds h t ih =>
    intro he hl
    unfold startE at he
    simp only [slOf, Option.bind_some] at he
    cases hs : startE ms ds with
    | none => rw [hs] at he; cases he
    | some e2 =>
      rw [hs] at he
      cases he
      obtain ⟨q1, q2, q3⟩ := ih ⟨fun i => L.l (i + 1), L.b, L.xa⟩ hb hs fun i a h1 h2 => hl (i + 1) a (by simpa using h1) (by simpa using h2)
      refine ⟨by simp [q1], by simp [q2], fun i s hi => ?_⟩
      cases i with
      | zero =>
        simp at hi
        subst hi
        exact ⟨⟨v, rfl, h⟩, fun _ _ _ z => nomatch z⟩
      | succ i =>
        obtain ⟨p1, p2⟩ := q3 i s (by simpa using hi)
        refine ⟨?_, fun t k c z => by simpa using p2 t k c z⟩
        cases s <;> exact p1
  | @b ms v vs d ds h t ih =>
    intro he hl
    unfold startE at he
    simp only [slOf, Option.bind_some] at he
    cases hs : startE ms ds with
    | none => rw [hs] at he; cases he
    | some e2 =>
      rw [hs] at he
      cases he
      obtain ⟨q1, q2, q3⟩ := ih ⟨fun i => L.l (i + 1), L.b, L.xa⟩ hb hs fun i a h1 h2 => hl (i + 1) a (by simpa using h1) (by simpa using h2)
      refine ⟨by simp [q1], by simp [q2], fun i s hi => ?_⟩
      cases i with
      | zero =>
        simp at hi
        subst hi
        exact ⟨⟨v, rfl, by rw [hb]; exact h⟩, fun _ _ _ z => nomatch z⟩
      | succ i =>
        obtain ⟨p1, p2⟩ := q3 i s (by simpa using hi)
        refine ⟨?_, fun t k c z => by simpa using p2 t k c z⟩
        cases s <;> exact p1
  | @l ms a c vs ds h hm t ih =>
    intro he hl
    unfold startE at he
    rw [slOf_l] at he
    simp only [Option.bind_some] at he
    cases hs : startE ms ds with
    | none => rw [hs] at he; cases he
    | some e2 =>
      rw [hs] at he
      cases he
      obtain ⟨q1, q2, q3⟩ := ih ⟨fun i => L.l (i + 1), L.b, L.xa⟩ hb hs fun i a h1 h2 => hl (i + 1) a (by simpa using h1) (by simpa using h2)
      refine ⟨by simp [q1], by simp [q2], fun i s hi => ?_⟩
      cases i with
      | zero =>
        simp at hi
        subst hi
        exact ⟨⟨a, rfl, h, fun _ => hl 0 a rfl rfl⟩, fun _ _ _ _ => rfl⟩
      | succ i =>
        obtain ⟨p1, p2⟩ := q3 i s (by simpa using hi)
        refine ⟨?_, fun t k c z => by simpa using p2 t k c z⟩
        cases s <;> exact p1
/-- where what is lent stands -/
def lentAt (vs : List V) (i : Nat) : Option Addr := match vs[i]? with
  | some (.ref a) => some a
  | _ => none
theorem lentAt_of {vs : List V} {i : Nat} {a : Addr} (h : vs[i]? = some (.ref a)) : lentAt vs i = some a := by unfold lentAt; rw [h]
theorem sg_start {N : List Str} {vs : List V} (i : Nat) : sg (start N vs) i = vs[i]? := by
  unfold sg L2.start List.getD
  by_cases h : i < vs.length
  · rw [List.getElem?_append_left (by simpa using h), List.getElem?_map, List.getElem?_eq_getElem h]
    rfl
  · rw [List.getElem?_append_right (by simpa using h), List.getElem?_eq_none_iff.mpr (show vs.length ≤ i by omega), List.getElem?_replicate]
    split <;> rfl
theorem rel_start {F H : Hp} {N : List Str} {ms : List Mo} {vs : List V} {ds : List D} {e : Env} (fh : Same F H) (nd : (lents ms vs).Nodup) (ha : ArgsOk K F H (lents ms vs) ms vs ds) (he : startE ms ds = some e) (hN : ms.length ≤ N.length) :
    Rel K ⟨lentAt vs, cut H (lents ms vs), none⟩ (cut H (lents ms vs)) F H (start N vs) (e ++ List.replicate (N.length - e.length) .un) := by
  obtain ⟨q1, q2, q3⟩ := start_slot (G := H) ⟨lentAt vs, cut H (lents ms vs), none⟩ rfl ha he fun i a _ h => lentAt_of h
  have muL : ∀ i, isMu (e ++ List.replicate (N.length - e.length) .un) i → ms[i]? = some .l := by
    rintro i ⟨t, k, c, h⟩
    by_cases hi : i < e.length
    · rw [List.getElem?_append_left hi] at h
      exact (q3 i _ h).2 t k c rfl
    · rw [List.getElem?_append_right (by omega), List.getElem?_replicate] at h
      split at h <;> cases h
  refine ⟨fh, fun b o hb => ?_, ?_, fun i s hi => ?_, fun i j a hij m1 m2 => ?_, Same.refl _⟩
  · unfold cut at hb
    split at hb
    · cases hb
    · exact hb
  · unfold L2.start
    simp [q1, q2]
  · rw [sg_start]
    by_cases hl : i < e.length
    · rw [List.getElem?_append_left hl] at hi
      exact (q3 i s hi).1
    · rw [List.getElem?_append_right (by omega), List.getElem?_replicate] at hi
      split at hi
      · cases hi; trivial
      · cases hi
  · rw [sg_start, sg_start]
    exact fun h => lents_ne nd hij (muL i m1) (muL j m2) h
/-- what is lent, at the end -/
theorem lent_end {G F H : Hp} {σ : L2.St} {e : Env} {vs0 : List V} (r : Rel K ⟨lentAt vs0, G, none⟩ G F H σ e) : ∀ {ms : List Mo} {vs : List V} {k : Nat} {cs : List C}, (∀ i, vs[i]? = vs0[k + i]?) → vs.length = ms.length → lentOf ms k e = some cs →
    LentOk K G F H (lents ms vs) cs ∧ ∀ a ∈ lents ms vs, ∃ i, isMu e i ∧ sg σ i = some (.ref a)
  | [], vs, k, cs, hv, hl, h => by
    cases h
    exact ⟨.nil, fun a ha => by simp [lents] at ha⟩
  | m :: ms, [], k, cs, hv, hl, h => by simp at hl
  | m :: ms, v :: vs, k, cs, hv, hl, h => by
    have hv' : ∀ i, vs[i]? = vs0[k + 1 + i]? := fun i => by
      have := hv (i + 1)
      rw [List.getElem?_cons_succ] at this
      rw [this]
      congr 1
      omega
    have hl' : vs.length = ms.length := by simpa using hl
    cases m with
    | f =>
      have h : lentOf ms (k + 1) e = some cs := h
      have := lent_end r hv' hl' h
      cases v <;> exact this
    | b =>
      have h : lentOf ms (k + 1) e = some cs := h
      have := lent_end r hv' hl' h
      cases v <;> exact this
    | l =>
      unfold lentOf at h
      split at h
      · rename_i c he
        cases hc : lentOf ms (k + 1) e with
        | none => rw [hc] at h; cases h
        | some cs2 =>
          rw [hc] at h
          cases h
          obtain ⟨q1, q2⟩ := lent_end r hv' hl' hc
          obtain ⟨a, e1, ow, lk⟩ := r.sl k _ he
          have e2 : lentAt vs0 k = some a := lk (.inl rfl)
          have e3 := hv 0
          rw [List.getElem?_cons_zero, Nat.add_zero] at e3
          unfold lentAt at e2
          rw [← e3] at e2
          cases v <;> simp only [reduceCtorEq, Option.some.injEq] at e2
          subst e2
          refine ⟨.cons ow q1, fun b hb => ?_⟩
          rcases List.mem_cons.mp hb with rfl | hb
          · exact ⟨k, ⟨_, _, _, he⟩, e1⟩
          · exact q2 b hb
      · cases h
end
/-! ### a def that is as its check says -/
def dfOk (BN : List String) (GL : List (String × D)) (KB : List KbE) (d : Df) (st : Stmt) : Bool :=
  decide ((defScope st).kind = .function) && !(defScope st).isCoroutine && !(defScope st).isGenerator && decide ((d.N.map T).Nodup) && decide ((d.N.map T).take d.ps.length = d.ps.map T) &&
  ((d.ps.map T).all fun x => (defScope st).names.lookup x == some .local || (defScope st).names.lookup x == some .cell) && ((defScope st).names.all fun y => y.2 != .free) &&
  decide (d.mo.length = d.ps.length) && decide (d.ps.length ≤ d.N.length) && css d.body ⟨d.N.map T, defScope st, none, BN, GL, KB, false⟩ (defBody st)
section
variable {P : Program} {w : World} {K : PySem.W.Frag} {mg : Str → Option Value} {base : Heap} {BN : List String} {GL : List (String × D)} {KB : List KbE} {XF : Xt}
theorem dfOk_sc {d : Df} {st : Stmt} (h : dfOk BN GL KB d st = true) : FnScope (d.N.map T) (d.ps.map T) (defScope st) ∧ d.mo.length = d.ps.length ∧ d.ps.length ≤ d.N.length ∧ css d.body ⟨d.N.map T, defScope st, none, BN, GL, KB, false⟩ (defBody st) = true := by
  simp only [dfOk, Bool.and_eq_true, decide_eq_true_eq, Bool.not_eq_true'] at h
  obtain ⟨⟨⟨⟨⟨⟨⟨⟨⟨h1, h2⟩, h3⟩, h4⟩, h5⟩, h6⟩, h7⟩, h8⟩, h9⟩, h10⟩ := h
  refine ⟨⟨h1, h2, h3, h4, by rw [List.length_map]; exact h5, fun x hx => ?_, fun y hy => ?_⟩, h8, h9, h10⟩
  · have := (List.all_eq_true.mp h6) x hx
    simpa using this
  · have := (List.all_eq_true.mp h7) y hy
    simpa using this
/-- the module's names -/
structure Names (K : PySem.W.Frag) (mg : Str → Option Value) (BN : List String) (GL : List (String × D)) : Prop where
  bn : ∀ x ∈ BN, mg (T x) = none
  gl : ∀ p ∈ GL, ∃ u v, mg (T p.1) = some u ∧ RelV v u ∧ Dp K (fun _ => none) v p.2
/-- the defs' own functions -/
structure Fns (P : Program) (w : World) (K : PySem.W.Frag) (mg : Str → Option Value) (base : Heap) (KB : List KbE) (k : Nat) (G : Gm) : Prop where
  fns : ∀ f ms φ, G.fn f = some (ms, φ) → ∃ a, mg (T f) = some (.ref a) ∧ PySem.W.keepIn K (.ref a) = true ∧ CalOk P w K mg base KB k f a ms φ
  fks : ∀ f ms φ, G.fk f = some (ms, φ) → ∃ a, mg (T f) = some (.ref a) ∧ PySem.W.keepIn K (.ref a) = true ∧ CalKOk P w K mg base KB k f a ms φ
  kn : ∀ x ∈ G.kn, ∃ C, mg (T x) = some (.ref C)
  xc : ∀ x, G.xc x ≠ [] → XcOk P w K mg base x (G.xc x)
  sub : ∀ c x b, G.sub c x = some b → SubOk K mg c x b
  fld : ∀ c f, G.fld c f = true → FldOk K mg c f
theorem df_body {d : Df} {st : Stmt} (Nm : Names K mg BN GL) (hd : dfOk BN GL KB d st = true) {k : Nat} (h2 : 2 ≤ k) {G : Gm} (Fs : Fns P w K mg base KB k G) {qual : Str} {f : Addr} (cdv : Value) (A : Around) (outer : List PySem.Env) (s : Shared) (H : Hp) (vs : List V) (Q : VK) (E : XK)
    (hr : Room k (A.deeper (envOfC qual (defScope st) s.heap.objs.size f cdv))) (hgd : A.guards = some []) (sp : FSp K mg d.mo (runD G XF d) vs H Q E) :
    ∃ t, PSs (gcx P w K mg base (d.N.map T) qual (defScope st) f cdv A outer s H E) (defBody st) t ∧ t { nx := fun _ H' => Q .non H', rt := Q } (start (d.N.map T) vs) H := by
  obtain ⟨S, hm, hN, hc⟩ := dfOk_sc hd
  have ok : Ok (gcx P w K mg base (d.N.map T) qual (defScope st) f cdv A outer s H E) (fun cls dd _ H' => E cls dd H') BN GL KB G :=
    ⟨S.nd, by have := hr.un; show (A.deeper _).units + 100 < cLine; omega, hgd, Nm.bn, Nm.gl, takes_of rfl rfl rfl rfl, fun _ x hx => ⟨hr.mono h2, Fs.xc x hx⟩, Fs.sub, Fs.fld, fun _ f ms φ hf => by
      obtain ⟨a, q1, q2, q3⟩ := Fs.fns f ms φ hf
      exact ⟨k, a, hr, q1, q2, q3⟩, fun _ f ms φ hf => by
      obtain ⟨a, q1, q2, q3⟩ := Fs.fks f ms φ hf
      exact ⟨k, a, hr, q1, q2, q3⟩, Fs.kn⟩
  have CC : Cok (gcx P w K mg base (d.N.map T) qual (defScope st) f cdv A outer s H E) (fun cls dd _ H' => E cls dd H') ⟨d.N.map T, defScope st, none, BN, GL, KB, false⟩ G := ⟨rfl, rfl, fun _ _ => rfl, S.kind, ok, fun _ => rfl, (fun z => by cases z), fun _ => ⟨rfl, rfl⟩⟩
  have own : PassesOwn (model P w) (gcx P w K mg base (d.N.map T) qual (defScope st) f cdv A outer s H E).A (gcx P w K mg base (d.N.map T) qual (defScope st) f cdv A outer s H E).env (gcx P w K mg base (d.N.map T) qual (defScope st) f cdv A outer s H E).xe :=
    passes_of (X := gcx P w K mg base (d.N.map T) qual (defScope st) f cdv A outer s H E) (K := fun e s'' => L2.CX P w outer H s E e s'') rfl
  refine ⟨_, sndSs XF d.body _ _ _ CC own _ hc, ?_⟩
  obtain ⟨hl, F, ds, fh, nd, ha, q⟩ := sp
  unfold runD at q
  cases he : startE d.mo ds with
  | none => rw [he] at q; exact q.elim
  | some e =>
    rw [he] at q
    dsimp only at q
    have r := rel_start (N := d.N.map T) fh nd ha he (by rw [List.length_map, hm]; exact hN)
    rw [List.length_map] at r
    refine ⟨⟨⟨lentAt vs, cut H (lents d.mo vs), none⟩, fun z => nomatch z⟩, cut H (lents d.mo vs), F, _, r, ?_⟩
    have ends : ∀ {e1 : Env} {cs : List C} {σ' : L2.St} {F' H' : Hp}, lentOf d.mo 0 e1 = some cs → Rel K ⟨lentAt vs, cut H (lents d.mo vs), none⟩ (cut H (lents d.mo vs)) F' H' σ' e1 → Step (cut H (lents d.mo vs)) F F' →
        Aft K (cut H (lents d.mo vs)) F F' H' (lents d.mo vs) cs ∧ ∀ a ∈ lents d.mo vs, ∃ i, isMu e1 i ∧ sg σ' i = some (.ref a) := by
      intro e1 cs σ' F' H' hcs r1 st1
      obtain ⟨q1, q2⟩ := lent_end r1 (fun i => by rw [Nat.zero_add]) hl hcs
      exact ⟨⟨st1.s, r1.fh, r1.gh, st1.g, q1⟩, q2⟩
    have ret : ∀ {rr : R} {e1 : Env}, (match fin d.mo rr e1 with
        | .bad => False
        | .ret d' cs => ∀ v F' H', Aft K (cut H (lents d.mo vs)) F F' H' (lents d.mo vs) cs → Dp K F' v d' → Q v H'
        | .fresh c cs => ∀ p F' H', Aft K (cut H (lents d.mo vs)) F F' H' (lents d.mo vs) cs → Own K (cut H (lents d.mo vs)) F' H' p c → p ∉ lents d.mo vs → Q (.ref p) H'
        | .exc x cs => ∀ cls dd F' H', Aft K (cut H (lents d.mo vs)) F F' H' (lents d.mo vs) cs → XOk K mg F' H' x cls dd → E cls dd H') →
        ∀ v σ' F' H', Rel K ⟨lentAt vs, cut H (lents d.mo vs), none⟩ (cut H (lents d.mo vs)) F' H' σ' e1 → Step (cut H (lents d.mo vs)) F F' → ROk K (cut H (lents d.mo vs)) F' H' σ' e1 rr v → Q v H' := by
      intro rr e1 hq v σ' F' H' r1 st1 p1
      unfold fin at hq
      cases hcs : lentOf d.mo 0 e1 with
      | none => rw [hcs] at hq; exact hq.elim
      | some cs =>
        rw [hcs] at hq
        obtain ⟨q1, q2⟩ := ends hcs r1 st1
        cases rr with
        | val d' => exact hq v F' H' q1 p1
        | slot i => exact hq.elim
        | fresh c =>
          obtain ⟨p, rfl, ow, n⟩ := p1
          refine hq p F' H' q1 ow fun hp => ?_
          obtain ⟨i, m, hi⟩ := q2 p hp
          exact n i m hi
    cases hb : sens G XF d.body (e ++ List.replicate (d.N.length - e.length) .un) with
    | bad => rw [hb] at q; exact q.elim
    | exc x e1 =>
      rw [hb] at q
      dsimp only at q
      cases hcs : lentOf d.mo 0 e1 with
      | none => rw [hcs] at q; exact q.elim
      | some cs =>
        rw [hcs] at q
        intro cls dd σ' F' H' r1 st1 p1
        exact q cls dd F' H' (ends hcs r1 st1).1 p1
    | ok fl e1 =>
      rw [hb] at q
      cases fl with
      | nx =>
        intro σ' F' H' r1 st1
        exact ret (rr := .val .none) q .non σ' F' H' r1 st1 .non
      | rt rr => exact ret q
      | br => exact q.elim
      | ct => exact q.elim
/-- one def of the module -/
structure DefOk (K : PySem.W.Frag) (mg : Str → Option Value) (BN : List String) (GL : List (String × D)) (KB : List KbE) (d : Df) (st : Stmt) (f : Addr) (fd : FuncData) : Prop where
  fn : L2.Fun K (T d.name) (T d.name) st f fd
  at' : mg (T d.name) = some (.ref f)
  bd : ∃ ds dvs, Binds K fd (d.ps.map T) ds ∧ Vals dvs ds ∧ ∀ F, DpAll K F dvs d.df
  ok : dfOk BN GL KB d st = true
  kb : KbOk K KB d.name fd (d.ps.map T)
  mo : d.mo = d.mo.take (d.mo.length - d.df.length) ++ List.replicate d.df.length .b
/-- a def without such -/
theorem bd_of {K : PySem.W.Frag} {fd : FuncData} {ps : List Str} {d : Df} (h : Binds K fd ps []) (e : d.df = []) : ∃ ds dvs, Binds K fd ps ds ∧ Vals dvs ds ∧ ∀ F, DpAll K F dvs d.df := ⟨[], [], h, .nil, fun _ => by rw [e]; exact .nil⟩
theorem lents_app : ∀ (ms : List Mo) (vs : List V) (n : Nat) (ws : List V), vs.length = ms.length → lents (ms ++ List.replicate n .b) (vs ++ ws) = lents ms vs
  | [], [], n, ws, _ => by
    show lents (List.replicate n .b) ws = []
    induction n generalizing ws with
    | zero => cases ws <;> rfl
    | succ n ih =>
      cases ws with
      | nil => rfl
      | cons w ws => exact ih ws
  | m :: ms, v :: vs, n, ws, h => by
    have ih := lents_app ms vs n ws (by simpa using h)
    cases m with
    | f => exact ih
    | b => exact ih
    | l =>
      cases v with
      | ref a => exact congrArg (a :: ·) ih
      | _ => exact ih
  | [], _ :: _, _, _, h => by cases h
  | _ :: _, [], _, _, h => by cases h
theorem args_b {K : PySem.W.Frag} {F H : Hp} {ls : List Addr} : ∀ {ws : List V} {es : List D}, DpAll K F ws es → ArgsOk K F H ls (List.replicate es.length .b) ws es
  | [], [], _ => .nil
  | _ :: _, _ :: _, .cons h t => .b (.inl h) (args_b t)
theorem args_app {K : PySem.W.Frag} {F H : Hp} {ls : List Addr} : ∀ {ms : List Mo} {vs : List V} {ds : List D} {ws : List V} {es : List D}, ArgsOk K F H ls ms vs ds → DpAll K F ws es → ArgsOk K F H ls (ms ++ List.replicate es.length .b) (vs ++ ws) (ds ++ es)
  | _, _, _, ws, es, .nil, h => by
    exact args_b h
  | _, _, _, _, _, .f a t, h => .f a (args_app t h)
  | _, _, _, _, _, .b a t, h => .b a (args_app t h)
  | _, _, _, _, _, .l a b t, h => .l a b (args_app t h)
/-- called without its last ones -/
theorem fsp_app {K : PySem.W.Frag} {mg : Str → Option Value} {ms : List Mo} {φ : List D → FRes} {df : List D} {dvs vs : List V} {H : Hp} {Q : VK} {E : XK} (hd : ∀ F, DpAll K F dvs df) (h : FSp K mg ms (fun ds => φ (ds ++ df)) vs H Q E) : FSp K mg (ms ++ List.replicate df.length .b) φ (vs ++ dvs) H Q E := by
  obtain ⟨hl, F, ds, fh, nd, ha, q⟩ := h
  have el := lents_app ms vs df.length dvs hl
  have hdl := dps_len (hd F)
  refine ⟨by rw [List.length_append, List.length_append, List.length_replicate, hl, hdl], F, ds ++ df, fh, by rw [el]; exact nd, by rw [el]; exact args_app ha (hd F), ?_⟩
  rw [el]
  exact q
theorem find_name {Tb : List Df} {f : String} {d : Df} (h : (Tb.find? fun d => d.name == f) = some d) : d ∈ Tb ∧ d.name = f := by
  refine ⟨List.mem_of_find?_eq_some h, ?_⟩
  simpa using List.find?_some h
theorem all_fns {Tb : List Df} (Nm : Names K mg BN GL) (h : ∀ d ∈ Tb, ∃ st f fd, DefOk K mg BN GL KB d st f fd) 
    (xk : ∀ x, XF.xc x ≠ [] → XcOk P w K mg base x (XF.xc x)) (sk : ∀ c x b, XF.sub c x = some b → SubOk K mg c x b) (fk : ∀ c f, XF.fld c f = true → FldOk K mg c f) (kk : ∀ x ∈ XF.kn, ∃ C, mg (T x) = some (.ref C)) : ∀ k : Nat, Fns P w K mg base KB (k + 2) (gm Tb XF k)
  | 0 => ⟨fun f ms φ hf => (by cases hf), fun f ms φ hf => (by cases hf), kk, xk, sk, fk⟩
  | k + 1 => ⟨fun f ms φ hf => (by
    have hf : (Tb.find? fun d => d.name == f).map (fun d => (d.mo.take (d.mo.length - d.df.length), fun ds => runD (gm Tb XF k) XF d (ds ++ d.df))) = some (ms, φ) := hf
    cases hd : Tb.find? fun d => d.name == f with
    | none => rw [hd] at hf; cases hf
    | some d =>
      rw [hd] at hf
      cases hf
      obtain ⟨hm, rfl⟩ := find_name hd
      obtain ⟨st, a, fd, D⟩ := h d hm
      obtain ⟨S, hl, hN, _⟩ := dfOk_sc D.ok
      obtain ⟨dds, dvs, hb, hdv, hdp⟩ := D.bd
      refine ⟨a, D.at', D.fn.kp, fd, d.ps.map T, dds, dvs, hb, hdv, ?_⟩
      have F0 := fn_g (P := P) (w := w) (base := base) (k := k + 2) (sp := FSp K mg d.mo (runD (gm Tb XF k) XF d)) D.fn S (fun vs H Q E hs => by rw [hs.1, List.length_map, hl]) fun cdv A outer s H vs Q E hr hgd hs => df_body Nm D.ok (by omega) (all_fns Nm h xk sk fk kk k) cdv A outer s H vs Q E hr hgd hs
      refine F0.weaken fun vs H Q E hs => ?_
      obtain ⟨vs0, rfl, hs⟩ := hs
      rw [D.mo]
      exact fsp_app hdp hs), fun f ms φ hf => (by
    have hf : (Tb.find? fun d => d.name == f).map (fun d => (d.mo, runD (gm Tb XF k) XF d)) = some (ms, φ) := hf
    cases hd : Tb.find? fun d => d.name == f with
    | none => rw [hd] at hf; cases hf
    | some d =>
      rw [hd] at hf
      cases hf
      obtain ⟨hm, rfl⟩ := find_name hd
      obtain ⟨st, a, fd, D⟩ := h d hm
      obtain ⟨S, hl, hN, _⟩ := dfOk_sc D.ok
      exact ⟨a, D.at', D.fn.kp, fd, d.ps.map T, fn_g (P := P) (w := w) (base := base) (k := k + 2) (sp := FSp K mg d.mo (runD (gm Tb XF k) XF d)) D.fn S (fun vs H Q E hs => by rw [hs.1, List.length_map, hl]) fun cdv A outer s H vs Q E hr hgd hs => df_body Nm D.ok (by omega) (all_fns Nm h xk sk fk kk k) cdv A outer s H vs Q E hr hgd hs, D.kb⟩), kk, xk, sk, fk⟩
end
end Ev
set_option Elab.async false
set_option linter.all false
set_option maxHeartbeats 1000000
set_option maxRecDepth 100000
/-! Ev15: the law's row. -/
namespace Ev
open PySem PySem.Spec PyProof.Rows L2
theorem law_g {P : Program} {w : World} {K : PySem.W.Frag} {mg mb : Str → Option Value} {k : Nat} {fa a : Addr} {fd : FuncData} {x : Str} {sp : Sp} {s1 : Shared} {vs : List Value} {ns : List Int}
    (inK : K.In s1.heap) (hns : s1.heap.Ns mainGlobals mg) (hbn : s1.heap.Ns builtinsNs mb) (hbb : ∀ y : Str, y ≠ "__name__" → mb y = bootBuiltins y) (hlim : s1.heap.NoLimit) (hgn : s1.gens = #[])
    (obj : s1.heap.get? a = some { cls := .type "list", data := .seq vs.toArray }) (hi : IntsAre vs ns) (hl : ns.length ≤ sizeLine) (hr : Room k callerA)
    (Fn : ∀ base : Heap, K.In base → base.Ns mainGlobals mg → FnG P w K mg base k fa fd [x] sp) (hbind : BindsTo s1 fd ⟨[.ref a], []⟩ [(x, .ref a)])
    (hsp : ∀ H : Hp, Only H → SqL K H a (ns.map V.int) → sp [.ref a] H (fun v _ => v = .bl true) fun _ _ _ => False) :
    codeAny (model P w) callerA (.call (.ref fa) ⟨[.ref a], []⟩) (fun r s' => r = .ok (.ret (.bool true)) ∧ OldK s1.heap s'.heap ∧ s'.os = s1.os ∧ AllBare s'.gens) s1 := by
  have vints := vals_ints hi
  have main : ∀ H : Hp, Only H → SqL K H a (ns.map V.int) → HOk P w H s1.heap → (∀ b, H b ≠ none → b = a) → (H a ≠ none → K.lookup a = none) →
      codeAny (model P w) callerA (.call (.ref fa) ⟨[.ref a], []⟩) (fun r s' => r = .ok (.ret (.bool true)) ∧ OldK s1.heap s'.heap ∧ s'.os = s1.os ∧ AllBare s'.gens) s1 := by
    intro H only hseq hok onlyA notK
    have free : ∀ {b : Addr} {o : Obj} {es : Array DictEntry} {ep : Nat}, s1.heap.get? b = some o → o.data = .dict es ep → H b = none := by
      intro b o es ep e d
      cases q : H b with
      | none => rfl
      | some u =>
        obtain rfl : b = a := onlyA b (by rw [q]; exact fun z => nomatch z)
        rw [obj] at e
        cases e
        exact nomatch (show Data.seq vs.toArray _ = Data.dict es ep from d)
    have nsH : ∀ {b : Addr} {m : Str → Option Value}, s1.heap.Ns b m → (hidT s1.heap H).Ns b m := by
      rintro b m ⟨o, es, ep, e, d, r⟩
      exact ⟨o, es, ep, hidT_get e (free e d), d, r⟩
    have inB : K.In (hidT s1.heap H) := fun b o e => hidT_get (inK b o e) (by
      cases q : H b with
      | none => rfl
      | some u =>
        obtain rfl : b = a := onlyA b (by rw [q]; exact fun z => nomatch z)
        rw [notK (by rw [q]; exact fun z => nomatch z)] at e
        cases e)
    obtain ⟨mc, l1, l2⟩ := hlim
    have env0 : Env0 P w K mg (hidT s1.heap H) callerA [] s1 H :=
      ⟨rfl, ⟨inB, nsH hns, ⟨mb, nsH hbn, hbb⟩, ⟨mc, nsH l1, l2⟩⟩, fun b o e => of_hidT e, Nat.le_of_eq (hidT_size _ _), trivial, fun b hb => absurd (show b ∈ ([] : List Addr) from hb) List.not_mem_nil, hok, .of_eq hgn⟩
    refine codeAny_mono ((Fn _ inB (nsH hns)).run callerA [] s1 H ⟨[.ref a], []⟩ [.ref a] [.ref a] _ _ hr rfl env0 hbind (.cons rfl .nil) (hsp H only hseq)) fun r s' h => ?_
    cases r with
    | error e =>
      obtain ⟨_, _, _, _, _, _, _, _, _, _, _, _, z⟩ := h
      exact z.elim
    | ok fl =>
      cases fl <;> first | exact (show False from h).elim | skip
      rename_i u
      obtain ⟨v, H', os, bare, un, hok', r', q⟩ := h
      obtain rfl : v = .bl true := q
      obtain rfl : u = Value.bool true := r'
      refine ⟨rfl, OldK.of_keep fun b o e => ?_, os, bare⟩
      cases q : H b with
      | none => exact un.keep b o e q (fun z => absurd (show b ∈ ([] : List Addr) from z) List.not_mem_nil) List.not_mem_nil
      | some u =>
        rcases only b with z | ⟨ob, xs, z⟩
        · rw [q] at z; cases z
        · obtain ⟨e1, _⟩ := hok b _ z
          obtain ⟨e2, _⟩ := hok' b _ (un.frzs b ob _ z)
          rw [e] at e1
          cases e1
          exact e2
  cases hk : K.lookup a with
  | some o =>
    have e := inK a o hk
    rw [obj] at e
    cases e
    exact main (fun _ => none) (fun _ => .inl rfl) (.inr ⟨_, vs.toArray, _, hk, rfl, rfl, rfl, by rw [List.size_toArray, hi.length]; exact hl, by simpa using vints⟩) (fun b u z => nomatch (show (none : Option HO) = some u from z)) (fun b z => absurd rfl z) fun z => absurd rfl z
  | none =>
    refine main (fun b => if b = a then some (.frz { cls := .type "list", data := .seq vs.toArray } (.lst (ns.map V.int))) else none) (fun b => ?_) (.inl (.inr ⟨{ cls := .type "list", data := .seq vs.toArray }, if_pos rfl⟩)) (fun b u z => ?_) (fun b z => ?_) fun _ => hk
    · by_cases hb : b = a
      · exact .inr ⟨_, _, if_pos hb⟩
      · exact .inl (if_neg hb)
    · by_cases hb : b = a
      · have z2 := (if_pos hb).symm.trans z
        cases z2
        subst hb
        exact ⟨obj, by rw [List.length_map]; exact hl, vs, _, vints, obj⟩
      · cases (if_neg hb).symm.trans z
    · by_cases hb : b = a
      · exact hb
      · exact absurd (if_neg hb) z
theorem walk_g {l : PySem.W.OpenLaw} {n k : Nat} {q : Program} {loose : List Str} {XP : (Str → Option Value) → Heap → Prop} {YP : World → Heap → Prop} {d : DefRec} {K : Params → PySem.W.Frag} {sp : World → (Str → Option Value) → Sp} {x : Str}
    (hn : l.most = some n) (hn2 : n ≤ sizeLine) (hdf : d.params.defaults = []) (hr : Room k callerA) (hY : ∀ (w : World) (h : Heap), YP w h → (K w.params).In h)
    (Fn : ∀ (w : World) (mg : Str → Option Value) (fa : Addr) (h : Heap), (K w.params).In h → h.Ns mainGlobals mg → mg d.name = some (.ref fa) →
      ∃ fd : FuncData, Binds (K w.params) fd [x] [] ∧ ∀ base : Heap, (K w.params).In base → base.Ns mainGlobals mg → FnG l.prog w (K w.params) mg base k fa fd [x] (sp w mg))
    (hsp : ∀ (w : World) (mg : Str → Option Value) (H : Hp) (a : Addr) (ns : List Int), ns.length ≤ n → Only H → SqL (K w.params) H a (ns.map V.int) → sp w mg [.ref a] H (fun v _ => v = .bl true) fun _ _ _ => False) :
    PySem.W.WalkO q loose XP YP l.row.toRowW d [] (fun f vs => PySem.call f vs) := by
  refine Att.attach_call hn hdf fun w s0 s1 mg mb fa o pm cd doc a vs ns G Y ho hd hcd hmg hobj hints hlen hg => ?_
  have inK := hY w _ Y
  obtain ⟨fd, hb, hF⟩ := Fn w mg fa _ inK G.T.g hmg
  exact law_g inK G.T.g G.T.b G.T.builtins G.T.nolimit hg hobj hints (Nat.le_trans hlen hn2) hr hF (hb s1 [.ref a] inK rfl) fun H only hS => hsp w mg H a ns hlen only hS
theorem dps_ints {K : PySem.W.Frag} {F : Hp} : ∀ ns : List Int, DpAll K F (ns.map V.int) (ns.map PyData.int)
  | [] => .nil
  | n :: ns => .cons (.int n) (dps_ints ns)
/-- what law(script) promises, from what the evaluator says -/
theorem law_sp {K : PySem.W.Frag} {mg : Str → Option Value} {φ : List D → FRes} {ns : List Int} (h : φ [.list (ns.map .int)] = .ret (.bool true) []) {H : Hp} {a : Addr} (hS : SqL K H a (ns.map V.int)) :
    FSp K mg [.b] φ [.ref a] H (fun v _ => v = .bl true) fun _ _ _ => False := by
  refine ⟨rfl, fun _ => none, [.list (ns.map .int)], fun b o z => (nomatch z), List.nodup_nil, .b (.inr ⟨a, _, _, rfl, rfl, ?_, dps_ints ns⟩) .nil, ?_⟩
  · have : cut H (lents [.b] [.ref a]) = H := by
      funext b
      unfold cut
      rw [if_neg (by simp [lents])]
    rw [this]
    exact hS
  · rw [h]
    intro v F' H' _ dv
    cases dv
    rfl
/-- the walk, from a table of defs and a fact about the evaluator -/
theorem walk_ev {l : PySem.W.OpenLaw} {n k : Nat} {q : Program} {loose : List Str} {XP : (Str → Option Value) → Heap → Prop} {YP : World → Heap → Prop} {d : DefRec} {K : Params → PySem.W.Frag} {Tb : List Df} {XF : Xt} {BN : List String} {GL : List (String × D)} {KB : List KbE} {x : String} {dl : Df}
    (hn : l.most = some n) (hn2 : n ≤ sizeLine) (hdf : d.params.defaults = []) (hr : Room (k + 3) callerA) (hY : ∀ (w : World) (h : Heap), YP w h → (K w.params).In h)
    (hl : (Tb.find? fun e => e.name == "law") = some dl) (hlaw : T "law" = d.name) (hmo : dl.mo = [.b]) (hps : dl.ps = [x]) (hdl : dl.df = [])
    (tb : ∀ (w : World) (mg : Str → Option Value) (h : Heap), (K w.params).In h → h.Ns mainGlobals mg → Names (K w.params) mg BN GL ∧ (∀ e ∈ Tb, ∃ st f fd, DefOk (K w.params) mg BN GL KB e st f fd) ∧ (∀ base x, XF.xc x ≠ [] → XcOk l.prog w (K w.params) mg base x (XF.xc x)) ∧
      (∀ c x b, XF.sub c x = some b → SubOk (K w.params) mg c x b) ∧ (∀ c f, XF.fld c f = true → FldOk (K w.params) mg c f) ∧ ∀ x ∈ XF.kn, ∃ C, mg (T x) = some (.ref C))
    (ev : ∀ ns : List Int, ns.length ≤ n → runD (gm Tb XF k) XF dl [.list (ns.map .int)] = .ret (.bool true) []) :
    PySem.W.WalkO q loose XP YP l.row.toRowW d [] (fun f vs => PySem.call f vs) := by
  refine walk_g (K := K) (sp := fun w mg => FSp (K w.params) mg [.b] (runD (gm Tb XF k) XF dl)) (x := T x) hn hn2 hdf hr hY (fun w mg fa h inK nsH hmg => ?_) fun w mg H a ns hlen _ hS => law_sp (ev ns hlen) hS
  obtain ⟨Nm, hT, xk, sk, fk, kk⟩ := tb w mg h inK nsH
  obtain ⟨hm, hnm⟩ := find_name hl
  obtain ⟨st, f, fd, D⟩ := hT dl hm
  have ef : f = fa := by
    have := D.at'
    rw [hnm, hlaw, hmg] at this
    cases this
    rfl
  subst ef
  obtain ⟨S, hlen, _, _⟩ := dfOk_sc D.ok
  refine ⟨fd, ?_, fun base _ _ => ?_⟩
  · obtain ⟨dds, dvs, hb, hdv, hdp⟩ := D.bd
    have e := hdp fun _ => none
    rw [hdl] at e
    cases e
    cases hdv
    rw [hps] at hb
    exact hb
  · have := fn_g (P := l.prog) (w := w) (base := base) (k := k + 2) (sp := FSp (K w.params) mg dl.mo (runD (gm Tb XF k) XF dl)) D.fn S (fun vs H Q E hs => by rw [hs.1, List.length_map, hlen]) fun cdv A outer s H vs Q E hr hgd hs => df_body Nm D.ok (by omega) (all_fns Nm hT (xk base) sk fk kk k) cdv A outer s H vs Q E hr hgd hs
    rw [hmo, hps] at this
    exact this
end Ev
set_option Elab.async false
set_option linter.all false
set_option maxHeartbeats 1000000
set_option maxRecDepth 10000
/-! Ev16: the evaluator by rewriting, what comes behind left alone until it is reached. -/
namespace Ev
open PySem
theorem bind_lazy {α β : Type} {r r' : Res α} {f : α → Env → Res β} (h : r = r') : r.bind f = r'.bind f := by rw [h]
section
variable {G : Gm} {X : Xt} {e : Env} {a b c : ME} {i j l : Nat} {es kes : List ME} {k : String} {s : MS} {ss t f : List MS} {tg : List Nat} {pair : Bool} {va vb vc : Vc} {vs : List Vc}
@[simp] theorem z_var : (den G (.var i)).v e = varC i e := rfl
@[simp] theorem z_con {d : D} : (den G (.con d)).v e = .ok (.val d) e := rfl
@[simp] theorem z_glo {x : String} {d : D} : (den G (.glo x d)).v e = .ok (.val d) e := rfl
@[simp] theorem z_tup : (den G (.tup es)).v e = (vEs (dens G es) e).bind fun ds e1 => .ok (.val (.tuple ds)) e1 := rfl
@[simp] theorem z_lst : (den G (.lst es)).v e = (vEs (dens G es) e).bind fun ds e1 => .ok (.fresh (.lst ds)) e1 := rfl
@[simp] theorem z_bin {op : Operator} : (den G (.bin op a b)).v e = (v2 (den G a).v (den G b).v e).bind fun p e2 => ofO (bop op p.1 p.2) e2 := rfl
@[simp] theorem z_neg : (den G (.neg a)).v e = (vD (den G a).v e).bind fun d e1 => (match d with | .int i => .ok (.val (.int (-i))) e1 | _ => .bad : Res R) := rfl
@[simp] theorem z_cmp {op : CmpOp} : (den G (.cmp op a b)).v e = ((den G (.cmp op a b)).t e).bind fun k e1 => .ok (.val (.bool k)) e1 := rfl
@[simp] theorem z_cmpT {op : CmpOp} : (den G (.cmp op a b)).t e = (v2 (den G a).v (den G b).v e).bind fun p e2 => ofO (cop op p.1 p.2) e2 := rfl
@[simp] theorem z_chn {op op' : CmpOp} : (den G (.chn op op' a b c)).v e = ((den G (.chn op op' a b c)).t e).bind fun k e1 => .ok (.val (.bool k)) e1 := rfl
@[simp] theorem z_chnT {op op' : CmpOp} : (den G (.chn op op' a b c)).t e = (v2 (den G a).v (den G b).v e).bind fun p e2 => (ofO (if isL p.2 = true then none else cop op p.1 p.2) e2).bind fun k e3 => if k = true then (vD (den G c).v e3).bind fun z e4 => ofO (cop op' p.2 z) e4 else .ok false e3 := rfl
@[simp] theorem z_and : (den G (.and a b)).v e = (vD (den G a).v e).bind fun d e1 => (ofO (bolD d) e1).bind fun k e2 => if k = true then (den G b).v e2 else .ok (.val (.bool false)) e2 := rfl
@[simp] theorem z_andT : (den G (.and a b)).t e = ((den G a).t e).bind fun k e1 => if k = true then (den G b).t e1 else .ok false e1 := rfl
@[simp] theorem z_or : (den G (.or a b)).v e = (vD (den G a).v e).bind fun d e1 => (ofO (bolD d) e1).bind fun k e2 => if k = true then .ok (.val (.bool true)) e2 else (den G b).v e2 := rfl
@[simp] theorem z_orT : (den G (.or a b)).t e = ((den G a).t e).bind fun k e1 => if k = true then .ok true e1 else (den G b).t e1 := rfl
@[simp] theorem z_not : (den G (.not a)).v e = (vD (den G a).v e).bind fun d e1 => (ofO (truD d) e1).bind fun k e2 => .ok (.val (.bool (!k))) e2 := rfl
@[simp] theorem z_notT : (den G (.not a)).t e = ((den G a).t e).bind fun k e1 => .ok (!k) e1 := rfl
@[simp] theorem z_ite : (den G (.ite c a b)).v e = ((den G c).t e).bind fun k e1 => if k = true then (den G a).v e1 else (den G b).v e1 := rfl
@[simp] theorem z_idx : (den G (.idx a b)).v e = (v2 (den G a).v (den G b).v e).bind fun p e2 => (ofO (iop p.1 p.2) e2).bind fun d e3 => .ok (.val d) e3 := rfl
@[simp] theorem z_sli {lo hi : Option ME} : (den G (.sli a lo hi)).v e = (vN (den G a).v e).bind fun r e1 => (optC (denO G lo) e1).bind fun x e2 => (optC (denO G hi) e2).bind fun y e3 => (ofO (rd e3 r) e3).bind fun d e4 => ofO (sop d x y) e4 := rfl
@[simp] theorem z_optN : optC (denO G none) e = .ok none e := rfl
@[simp] theorem z_optS : optC (denO G (some a)) e = (vD (den G a).v e).bind fun d e1 => (ofO (intD d) e1).bind fun i e2 => .ok (some i) e2 := rfl
@[simp] theorem z_rev : (den G (.rev a)).v e = (vD (den G a).v e).bind fun d e1 => ofO (revD d) e1 := rfl
@[simp] theorem z_sx : (den G (.sx a b)).v e = (vD (den G a).v e).bind fun d e1 => (ofO (intsT d) e1).bind fun ns e2 => (vD (den G b).v e2).bind fun d' e3 => (ofO (intsT d') e3).bind fun ms e4 =>
  (ofO (if ns.length + ms.length < 64 then some (PyData.tuple ((symI ns ms).map .int)) else none) e4).bind fun d e5 => .ok (.val d) e5 := rfl
@[simp] theorem z_ssl : (den G (.ssl a)).v e = (vD (den G a).v e).bind fun d e1 => ofO (sslD d) e1 := rfl
@[simp] theorem z_isi {ty : String} : (den G (.isi a ty)).v e = (vD (den G a).v e).bind fun d e1 => (ofO (isK d ty) e1).bind fun k e2 => .ok (.val (.bool k)) e2 := rfl
@[simp] theorem z_bif {q : Bi} : (den G (.bif q es)).v e = (vNs (dens G es) e).bind fun rs e1 => (ofO (rdAll e1 rs) e1).bind fun ds e2 => ofO (bi q ds) e2 := rfl
@[simp] theorem z_cal : (den G (.cal k es)).v e = if (G.fn k).isSome = true then (vNs (dens G es) e).bind fun rs e1 => callD G k rs e1 else .bad := rfl
@[simp] theorem z_cak {ks : List String} {perm : List Nat} : (den G (.cak k ks perm es kes)).v e = if (G.fk k).isSome = true then (vNs (dens G es ++ dens G kes) e).bind fun rs e1 => (ofO (pick perm rs) e1).bind fun qs e2 => callO (G.fk k) qs e2 else .bad := rfl
@[simp] theorem z_callO {rs : List R} {ms : List Mo} {φ : List D → FRes} : callO (some (ms, φ)) rs e = (match escAll ms rs e with
    | some (qs, e2) => (match readAll e2 ms qs with
      | some (ds, ls) => if apart ls ms qs = true ∧ uniq ls = true then behind ls e2 (φ ds) else .bad
      | none => .bad : Res R)
    | none => .bad) := rfl
@[simp] theorem z_call {rs : List R} : callD G k rs e = (match G.fn k with
  | some (ms, φ) => (match escAll ms rs e with
    | some (qs, e2) => (match readAll e2 ms qs with
      | some (ds, ls) => if apart ls ms qs = true ∧ uniq ls = true then behind ls e2 (φ ds) else .bad
      | none => .bad : Res R)
    | none => .bad)
  | none => .bad) := rfl
@[simp] theorem z_lc {own : List (String × Nat)} {oc : Option ME} : (den G (.lc own tg pair a oc b)).v e = ((den G a).w e).bind fun p e1 => (lcRun (own.map (·.2)) (lcTurn (own.map (·.2)) tg pair (denT G oc) (den G b).v) p e1).bind fun ds e2 => .ok (.fresh (.lst ds)) e2 := rfl
@[simp] theorem z_dg : (den G (.dg i k)).v e = dgC i k e := rfl
@[simp] theorem z_dct {ks : List String} : (den G (.dct ks es)).v e = (vEs (dens G es) e).bind fun ds e1 => .ok (.fresh (.dct ((ks.map Str.ofString).zip ds))) e1 := rfl
@[simp] theorem z_fz : (den G (.fz a)).v e = (vE (den G a).v e).bind fun d e1 => .ok (.val d) e1 := rfl
def slXis (G : Gm) (i : Nat) (cs : List String) (e : Env) : Option Sl → Res R
  | some (.xc x) => (match anyX G x.cls cs with
    | some b => .ok (.val (.bool b)) e
    | none => .bad)
  | _ => .bad
def slXat (G : Gm) (i : Nat) (f : String) (e : Env) : Option Sl → Res R
  | some (.xc x) => if G.fld x.cls f = false then .bad else (match x.fs.lookup (Str.ofString f) with
    | some d => .ok (.val d) e
    | none => .bad)
  | _ => .bad
@[simp] theorem z_xis {cs : List String} {tup : Bool} : (den G (.xis i cs tup)).v e = slXis G i cs e e[i]? := by
  show xisC G i cs e = _
  unfold xisC
  cases e[i]? with
  | none => rfl
  | some s => cases s <;> rfl
@[simp] theorem z_xat : (den G (.xat i k)).v e = slXat G i k e e[i]? := by
  show xatC G i k e = _
  unfold xatC
  cases e[i]? with
  | none => rfl
  | some s => cases s <;> rfl
@[simp] theorem z_slXis {cs : List String} {x : Xn} : slXis G i cs e (some (.xc x)) = (match anyX G x.cls cs with
    | some b => .ok (.val (.bool b)) e
    | none => .bad : Res R) := rfl
@[simp] theorem z_slXat {x : Xn} : slXat G i k e (some (.xc x)) = (if G.fld x.cls k = false then .bad else (match x.fs.lookup (Str.ofString k) with
    | some d => .ok (.val d) e
    | none => .bad : Res R)) := rfl
theorem o_rtT {i j : Int} {n : Nat} (hn : (j - i).toNat = n) (h1 : -16777216 ≤ i) (h2 : i ≤ 16777216) (h3 : -16777216 ≤ j) (h4 : j ≤ 16777216) (hb : n ≤ 16777216) : rtR false (.int i) (.int j) = some (.val (.tuple (rngD i n))) := by
  subst hn
  exact if_pos (@decide_eq_true _ (Classical.propDecidable _) ⟨⟨h1, h2, h3, h4⟩, hb⟩)
theorem o_rtL {i j : Int} {n : Nat} (hn : (j - i).toNat = n) (h1 : -16777216 ≤ i) (h2 : i ≤ 16777216) (h3 : -16777216 ≤ j) (h4 : j ≤ 16777216) (hb : n ≤ 16777216) : rtR true (.int i) (.int j) = some (.fresh (.lst (rngD i n))) := by
  subst hn
  exact if_pos (@decide_eq_true _ (Classical.propDecidable _) ⟨⟨h1, h2, h3, h4⟩, hb⟩)
@[simp] theorem z_rt1 {q : Bool} : (den G (.rt1 q a)).v e = (vD (den G a).v e).bind fun d e1 => ofO (rtR q (.int 0) d) e1 := rfl
@[simp] theorem z_rt2 {q : Bool} : (den G (.rt2 q a b)).v e = (v2 (den G a).v (den G b).v e).bind fun p e1 => ofO (rtR q p.1 p.2) e1 := rfl
/-- as a test -/
theorem z_t {d : Dn} (h : d.t = tOf d.v) : d.t e = (vD d.v e).bind fun d e1 => ofO (truD d) e1 := by rw [h]; rfl
@[simp] theorem z_tvar : (den G (.var i)).t e = (vD (varC i) e).bind fun d e1 => ofO (truD d) e1 := rfl
@[simp] theorem z_tisi {ty : String} : (den G (.isi a ty)).t e = (vD (den G (.isi a ty)).v e).bind fun d e1 => ofO (truD d) e1 := rfl
@[simp] theorem z_tbif {q : Bi} : (den G (.bif q es)).t e = (vD (den G (.bif q es)).v e).bind fun d e1 => ofO (truD d) e1 := rfl
@[simp] theorem z_tcal : (den G (.cal k es)).t e = (vD (den G (.cal k es)).v e).bind fun d e1 => ofO (truD d) e1 := rfl
@[simp] theorem z_tcak {ks : List String} {perm : List Nat} : (den G (.cak k ks perm es kes)).t e = (vD (den G (.cak k ks perm es kes)).v e).bind fun d e1 => ofO (truD d) e1 := rfl
@[simp] theorem z_txis {cs : List String} {tup : Bool} : (den G (.xis i cs tup)).t e = (vD (den G (.xis i cs tup)).v e).bind fun d e1 => ofO (truD d) e1 := rfl
/-- what is walked -/
@[simp] theorem z_wrg1 : (den G (.rg1 a)).w e = (vD (den G a).v e).bind fun d e1 => (ofO (intD d) e1).bind fun j e2 => if -(big : Int) ≤ j ∧ j ≤ big then .ok (.vals (rngD 0 j.toNat)) e2 else .bad := rfl
@[simp] theorem z_wen : (den G (.en a)).w e = (vN (den G a).v e).bind fun r e1 => srcOf true e1 r := rfl
@[simp] theorem z_wvar : (den G (.var i)).w e = (vN (varC i) e).bind fun r e1 => srcOf false e1 r := rfl
@[simp] theorem z_wfz : (den G (.fz a)).w e = (vN (den G (.fz a)).v e).bind fun r e1 => srcOf false e1 r := rfl
@[simp] theorem z_vN : vN va e = (va e).bind fun r e1 => setl e1 r := rfl
@[simp] theorem z_vD : vD va e = (va e).bind fun r e1 => ofO (rd e1 r) e1 := rfl
@[simp] theorem z_vE : vE va e = (va e).bind fun r e1 => esc e1 r := rfl
@[simp] theorem z_v2 : v2 va vb e = (vN va e).bind fun r e1 => (vN vb e1).bind fun q e2 => (ofO (rd e2 r) e2).bind fun x e3 => (ofO (rd e3 q) e3).bind fun y e4 => .ok (x, y) e4 := rfl
@[simp] theorem z_vEs0 : vEs (dens G []) e = .ok [] e := rfl
@[simp] theorem z_vEs1 : vEs (dens G (a :: es)) e = (vE (den G a).v e).bind fun d e1 => (vEs (dens G es) e1).bind fun ds e2 => .ok (d :: ds) e2 := rfl
@[simp] theorem z_vNs0 : vNs (dens G []) e = .ok [] e := rfl
@[simp] theorem z_vNs1 : vNs (dens G (a :: es)) e = (vN (den G a).v e).bind fun d e1 => (vNs (dens G es) e1).bind fun ds e2 => .ok (d :: ds) e2 := rfl
@[simp] theorem z_vNa0 : vNs (dens G [] ++ dens G es) e = vNs (dens G es) e := rfl
/-- statements -/
@[simp] theorem z_nil : sens G X [] e = .ok .nx e := rfl
@[simp] theorem z_cons : sens G X (s :: ss) e = (sen G X s e).bind fun f e1 => (match f with | .nx => sens G X ss e1 | f => .ok f e1 : Res Fl) := rfl
@[simp] theorem z_asg : sen G X (.asg i a) e = ((den G a).v e).bind fun r e1 => (escS r e1).bind fun r e2 => fl (setV i r e2) := by
  show ((((den G a).v e).bind escS).bind fun r e2 => fl (setV i r e2)) = _
  cases (den G a).v e <;> rfl
@[simp] theorem z_unp : sen G X (.unp tg a) e = (vE (den G a).v e).bind fun d e1 => fl (putT tg true d e1) := rfl
@[simp] theorem z_par : sen G X (.par i j a b) e = (vEs (dens G [a, b]) e).bind fun ds e1 => if i = j then .bad else fl (putAll [i, j] ds e1) := rfl
@[simp] theorem z_par3 : sen G X (.par3 i j l a b c) e = (vEs (dens G [a, b, c]) e).bind fun ds e1 => if i = j ∨ i = l ∨ j = l then .bad else fl (putAll [i, j, l] ds e1) := rfl
@[simp] theorem z_dst : sen G X (.dst i k a) e = (vE (den G a).v e).bind fun d e1 => (ofO (muO e1[i]?) e1).bind fun p e2 => (ofO (dctO p.2) e2).bind fun kvs e3 => (ofO (putD kvs (Str.ofString k) d) e3).bind fun q e4 => .ok .nx (e4.set i (.mu p.1 false (.dct q))) := rfl
@[simp] theorem z_sto : sen G X (.sto i a b) e = (vE (den G b).v e).bind fun d e1 => (ofO (muO e1[i]?) e1).bind fun _ e2 => (vE (den G a).v e2).bind fun n e3 => (ofO (muO e3[i]?) e3).bind fun p e4 => (ofO (stoD p.2 n d) e4).bind fun c e5 => .ok .nx (e5.set i (.mu p.1 false c)) := rfl
@[simp] theorem z_app : sen G X (.app i a) e = (ofO (muL e[i]?) e).bind fun _ e0 => (vE (den G a).v e0).bind fun d e1 => (ofO (muL e1[i]?) e1).bind fun p e2 => if p.2.length < big then .ok .nx (e2.set i (.mu p.1 false (.lst (p.2 ++ [d])))) else .bad := rfl
@[simp] theorem z_exp : sen G X (.exp a) e = ((den G a).v e).bind fun _ e1 => .ok .nx e1 := rfl
@[simp] theorem z_ret : sen G X (.ret a) e = ((den G a).v e).bind fun r e1 => (match r with
  | .slot i => (match e1[i]? with
    | some (.mu false false c) => .ok (.rt (.fresh c)) (e1.set i .un)
    | _ => .bad)
  | r => .ok (.rt r) e1 : Res Fl) := rfl
@[simp] theorem z_retN : sen G X .retN e = .ok (.rt (.val .none)) e := rfl
@[simp] theorem z_if : sen G X (.ite a t f) e = ((den G a).t e).bind fun k e1 => if k = true then sens G X t e1 else sens G X f e1 := rfl
@[simp] theorem z_fr : sen G X (.fr tg pair a t) e = ((den G a).w e).bind fun p e1 => frRun (frTurn tg pair (sens G X t)) p e1 := rfl
@[simp] theorem z_whl : sen G X (.whl a t) e = whGo (den G a).t (sens G X t) 1000000 e := rfl
@[simp] theorem z_rai : sen G X (.rai k es) e = if G.xc k = [] then .bad else (vEs (dens G es) e).bind fun ds e1 => if ds.length = (G.xc k).length ∧ 0 < (G.xc k).length ∧ (G.xc k).length ≤ 9 then .exc ⟨Str.ofString k, ((G.xc k).zip ds).reverse⟩ e1 else .bad := rfl
@[simp] theorem z_tra {cs : List String} : sen G X (.tra i cs t f) e = (if noXc e = true ∧ (cs.all fun x => G.kn.contains x) = true then (match sens G X t e with
    | .bad => .bad
    | .ok f e1 => .ok f e1
    | .exc x e1 => (match anyX G x.cls cs with
      | none => .bad
      | some false => .exc x e1
      | some true => (match e1[i]? with
        | some .un => (match sens G X f (e1.set i (.xc x)) with
          | .ok f e2 => if noXc (e2.set i .un) = true ∧ flOk i f = true ∧ i < e2.length then .ok f (e2.set i .un) else .bad
          | _ => .bad)
        | _ => .bad))) else .bad : Res Fl) := rfl
@[simp] theorem z_tro {cs : List String} : sen G X (.tro cs t f) e = (if noXc e = true ∧ (cs.all fun x => G.kn.contains x) = true then (match sens G X t e with
    | .bad => .bad
    | .ok f e1 => .ok f e1
    | .exc x e1 => (match anyX G x.cls cs with
      | none => .bad
      | some false => .exc x e1
      | some true => (match sens G X f e1 with
        | .ok f e2 => .ok f e2
        | _ => .bad))) else .bad : Res Fl) := rfl
@[simp] theorem z_swp : sen G X (.swp i a b c) e = (vE (den G c).v e).bind fun d e1 => (ofO (twoD d) e1).bind fun p e2 => stoC i (den G a).v p.1 (stoC i (den G b).v p.2 fun e => .ok .nx e) e2 := rfl
@[simp] theorem z_stoC {va : Vc} {d : D} {fk : Env → Res Fl} : stoC i va d fk e = (ofO (muO e[i]?) e).bind fun _ e2 => (vE va e2).bind fun n e3 => (ofO (muO e3[i]?) e3).bind fun p e4 => (ofO (stoD p.2 n d) e4).bind fun c e5 => fk (e5.set i (.mu p.1 false c)) := rfl
@[simp] theorem z_anyX0 {c : Str} : anyX G c [] = some false := rfl
@[simp] theorem z_anyX1 {c : Str} {x : String} {xs : List String} : anyX G c (x :: xs) = (match G.sub c x, anyX G c xs with
    | some b, some d => some (b || d)
    | _, _ => none) := rfl
@[simp] theorem z_nev : sen G X .nev e = .bad := rfl
@[simp] theorem z_pas : sen G X .pas e = .ok .nx e := rfl
@[simp] theorem z_brk : sen G X .brk e = .ok .br e := rfl
@[simp] theorem z_cnt : sen G X .cnt e = .ok .ct e := rfl
/-- what a slot says -/
def slR (i : Nat) (e : Env) : Option Sl → Res R
  | some (.fz d) => .ok (.val d) e
  | some (.bo d) => if isL d = true then .ok (.slot i) e else .ok (.val d) e
  | some (.mu _ _ _) => .ok (.slot i) e
  | _ => .bad
@[simp] theorem z_varC : varC i e = slR i e e[i]? := by
  unfold varC
  cases e[i]? with
  | none => rfl
  | some s => cases s <;> rfl
@[simp] theorem z_slF {d : D} : slR i e (some (.fz d)) = .ok (.val d) e := rfl
@[simp] theorem z_slM {p q : Bool} {c : C} : slR i e (some (.mu p q c)) = .ok (.slot i) e := rfl
@[simp] theorem z_slBi {n : Int} : slR i e (some (.bo (.int n))) = .ok (.val (.int n)) e := rfl
@[simp] theorem z_slBb {n : Bool} : slR i e (some (.bo (.bool n))) = .ok (.val (.bool n)) e := rfl
@[simp] theorem z_slBs {n : Str} : slR i e (some (.bo (.str n))) = .ok (.val (.str n)) e := rfl
@[simp] theorem z_slBn : slR i e (some (.bo .none)) = .ok (.val .none) e := rfl
@[simp] theorem z_slBt {n : List D} : slR i e (some (.bo (.tuple n))) = .ok (.val (.tuple n)) e := rfl
@[simp] theorem z_slBl {n : List D} : slR i e (some (.bo (.list n))) = .ok (.slot i) e := rfl
@[simp] theorem z_slBd {n : List (D × D)} : slR i e (some (.bo (.dict n))) = .ok (.val (.dict n)) e := rfl
/-- reading -/
def slD : Option Sl → Option D
  | some (.mu _ _ (.lst ds)) => some (.list ds)
  | some (.bo d) => some d
  | _ => none
@[simp] theorem z_rdV {d : D} : rd e (.val d) = some d := rfl
@[simp] theorem z_rdF {ds : List D} : rd e (.fresh (.lst ds)) = some (.list ds) := rfl
@[simp] theorem z_rdS : rd e (.slot i) = slD e[i]? := by
  show (match e[i]? with
    | some (.mu _ _ (.lst ds)) => some (.list ds)
    | some (.bo d) => some d
    | _ => none : Option D) = _
  cases e[i]? with
  | none => rfl
  | some s =>
    cases s <;> first | rfl | (rename_i c; cases c <;> rfl)
@[simp] theorem z_slDm {p q : Bool} {ds : List D} : slD (some (.mu p q (.lst ds))) = some (.list ds) := rfl
@[simp] theorem z_slDb {d : D} : slD (some (.bo d)) = some d := rfl
@[simp] theorem z_setV {d : D} : setl e (.val d) = .ok (.val d) e := rfl
@[simp] theorem z_setS : setl e (.slot i) = .ok (.slot i) e := rfl
@[simp] theorem z_setF {ds : List D} : setl e (.fresh (.lst ds)) = .ok (.val (.list ds)) e := rfl
@[simp] theorem z_escV {d : D} : esc e (.val d) = .ok d e := rfl
@[simp] theorem z_escF {ds : List D} : esc e (.fresh (.lst ds)) = .ok (.list ds) e := rfl
def slE (i : Nat) (e : Env) : Option Sl → Res D
  | some (.mu false false (.lst ds)) => .ok (.list ds) (e.set i (.fz (.list ds)))
  | _ => .bad
@[simp] theorem z_escS : esc e (.slot i) = slE i e e[i]? := by
  show (match e[i]? with
    | some (.mu false false (.lst ds)) => .ok (.list ds) (e.set i (.fz (.list ds)))
    | _ => .bad : Res D) = _
  cases e[i]? with
  | none => rfl
  | some s =>
    cases s <;> first | rfl | (rename_i p q c; cases p <;> cases q <;> cases c <;> rfl)
@[simp] theorem z_slE {ds : List D} : slE i e (some (.mu false false (.lst ds))) = .ok (.list ds) (e.set i (.fz (.list ds))) := rfl
@[simp] theorem z_eV {d : D} : escS (.val d) e = .ok (.val d) e := rfl
@[simp] theorem z_eF {q : C} : escS (.fresh q) e = .ok (.fresh q) e := rfl
@[simp] theorem z_eS : escS (.slot i) e = (esc e (.slot i)).bind fun d e2 => .ok (.val d) e2 := rfl
@[simp] theorem z_bolD {q : Bool} : bolD (.bool q) = some q := rfl
@[simp] theorem z_truB {q : Bool} : truD (.bool q) = some q := rfl
@[simp] theorem z_truI {n : Int} : truD (.int n) = some (n != 0) := rfl
@[simp] theorem z_intD {n : Int} : intD (.int n) = some n := rfl
@[simp] theorem z_fl {e1 : Env} : fl (some e1) = .ok .nx e1 := rfl
@[simp] theorem z_put0 : putAll [] [] e = some e := rfl
def slP (o : Option Sl) (q : Option Env) : Option Env := match o with
  | some .un => q
  | some (.fz _) => q
  | some (.bo _) => q
  | some (.xc _) => q
  | some (.mu false false _) => q
  | _ => none
@[simp] theorem z_put1 {d : D} {ds : List D} {is : List Nat} : putAll (i :: is) (d :: ds) e = slP e[i]? (putAll is ds (e.set i (.fz d))) := by
  show (match e[i]? with
    | some (.mu _ true _) => none
    | some (.mu true _ _) => none
    | some _ => putAll is ds (e.set i (.fz d))
    | none => none) = _
  cases e[i]? with
  | none => rfl
  | some s =>
    cases s <;> first | rfl | (rename_i p q c; cases p <;> cases q <;> rfl)
@[simp] theorem z_slPu {q : Option Env} : slP (some .un) q = q := rfl
@[simp] theorem z_slPf {q : Option Env} {d : D} : slP (some (.fz d)) q = q := rfl
@[simp] theorem z_slPb {q : Option Env} {d : D} : slP (some (.bo d)) q = q := rfl
@[simp] theorem z_slPm {q : Option Env} {c : C} : slP (some (.mu false false c)) q = q := rfl
def setR (i : Nat) (e : Env) : R → Option Env
  | .val d => some (e.set i (.fz d))
  | .fresh c => some (e.set i (.mu false false c))
  | .slot _ => none
@[simp] theorem z_setVr {r : R} : setV i r e = slP e[i]? (setR i e r) := by
  show (match e[i]? with
    | some (.mu _ true _) => none
    | some (.mu true _ _) => none
    | some _ => (match r with
      | .val d => some (e.set i (.fz d))
      | .fresh c => some (e.set i (.mu false false c))
      | .slot _ => none)
    | none => none : Option Env) = _
  cases e[i]? with
  | none => rfl
  | some s => cases s <;> first | (cases r <;> rfl) | (rename_i p q c; cases p <;> cases q <;> cases r <;> rfl)
@[simp] theorem z_sRv {d : D} : setR i e (.val d) = some (e.set i (.fz d)) := rfl
@[simp] theorem z_sRf {c : C} : setR i e (.fresh c) = some (e.set i (.mu false false c)) := rfl
@[simp] theorem z_muO {p : Bool} {c : C} : muO (some (.mu p false c)) = some (p, c) := rfl
@[simp] theorem z_muL {p : Bool} {ds : List D} : muL (some (.mu p false (.lst ds))) = some (p, ds) := rfl
@[simp] theorem z_putT {d : D} : putT [i] false d e = putAll [i] [d] e := rfl
@[simp] theorem z_rdA0 : rdAll e [] = some [] := rfl
@[simp] theorem z_rdA1 {r : R} {rs : List R} : rdAll e (r :: rs) = (rd e r).bind fun d => (rdAll e rs).map (d :: ·) := rfl
def slG (i : Nat) (k : String) (e : Env) : Option Sl → Res R
  | some (.mu _ _ (.dct kvs)) => (ofO (keyD kvs (Str.ofString k)) e).bind fun d e1 => .ok (.val d) e1
  | _ => .bad
@[simp] theorem z_dgC : dgC i k e = slG i k e e[i]? := by
  show (match e[i]? with
    | some (.mu _ _ (.dct kvs)) => (ofO (keyD kvs (Str.ofString k)) e).bind fun d e1 => .ok (.val d) e1
    | _ => .bad : Res R) = _
  cases e[i]? with
  | none => rfl
  | some s =>
    cases s <;> first | rfl | (rename_i c; cases c <;> rfl)
@[simp] theorem z_slG {p q : Bool} {kvs : List (Str × D)} : slG i k e (some (.mu p q (.dct kvs))) = (ofO (keyD kvs (Str.ofString k)) e).bind fun d e1 => .ok (.val d) e1 := rfl
/-- the arguments handed in -/
@[simp] theorem z_escA0 : escAll [] [] e = some ([], e) := rfl
@[simp] theorem z_escAb {ms : List Mo} {r : R} {rs : List R} : escAll (.b :: ms) (r :: rs) e = (escAll ms rs e).map fun q => (r :: q.1, q.2) := rfl
@[simp] theorem z_escAl {ms : List Mo} {r : R} {rs : List R} : escAll (.l :: ms) (r :: rs) e = (escAll ms rs e).map fun q => (r :: q.1, q.2) := rfl
@[simp] theorem z_rA0 : readAll e [] [] = some ([], []) := rfl
@[simp] theorem z_rAb {ms : List Mo} {r : R} {rs : List R} : readAll e (.b :: ms) (r :: rs) = (rd e r).bind fun d => (readAll e ms rs).map fun q => (d :: q.1, q.2) := rfl
def slL (i : Nat) (q : Option (List D × List Nat)) : Option Sl → Option (List D × List Nat)
  | some (.mu _ false c) => q.map fun (z : List D × List Nat) => (c.d :: z.1, i :: z.2)
  | _ => none
@[simp] theorem z_rAl {ms : List Mo} {rs : List R} : readAll e (.l :: ms) (.slot i :: rs) = slL i (readAll e ms rs) e[i]? := by
  show (match e[i]? with
    | some (.mu _ false c) => (readAll e ms rs).map fun (q : List D × List Nat) => (c.d :: q.1, i :: q.2)
    | _ => none : Option (List D × List Nat)) = _
  cases e[i]? with
  | none => rfl
  | some s =>
    cases s <;> first | rfl | (rename_i p q c; cases q <;> rfl)
@[simp] theorem z_slL {p : Bool} {c : C} {q : Option (List D × List Nat)} : slL i q (some (.mu p false c)) = q.map fun (z : List D × List Nat) => (c.d :: z.1, i :: z.2) := rfl
@[simp] theorem z_ap0 {ls : List Nat} : apart ls [] [] = true := rfl
@[simp] theorem z_apBv {ls : List Nat} {ms : List Mo} {d : D} {rs : List R} : apart ls (.b :: ms) (.val d :: rs) = apart ls ms rs := rfl
@[simp] theorem z_apBs {ls : List Nat} {ms : List Mo} {rs : List R} : apart ls (.b :: ms) (.slot i :: rs) = (!ls.contains i && apart ls ms rs) := rfl
@[simp] theorem z_apL {ls : List Nat} {ms : List Mo} {r : R} {rs : List R} : apart ls (.l :: ms) (r :: rs) = apart ls ms rs := by cases r <;> rfl
@[simp] theorem z_un0 : uniq [] = true := rfl
@[simp] theorem z_un1 {n : Nat} {ns : List Nat} : uniq (n :: ns) = (!ns.contains n && uniq ns) := rfl
@[simp] theorem z_beR {ls : List Nat} {d : D} {cs : List C} : behind ls e (.ret d cs) = (ofO (putBack ls cs e) e).bind fun e' _ => .ok (.val d) e' := by
  show (match putBack ls cs e with
    | some e' => .ok (.val d) e'
    | none => .bad : Res R) = _
  cases putBack ls cs e <;> rfl
@[simp] theorem z_beF {ls : List Nat} {c : C} {cs : List C} : behind ls e (.fresh c cs) = (ofO (putBack ls cs e) e).bind fun e' _ => .ok (.fresh c) e' := by
  show (match putBack ls cs e with
    | some e' => .ok (.fresh c) e'
    | none => .bad : Res R) = _
  cases putBack ls cs e <;> rfl
@[simp] theorem z_beX {ls : List Nat} {x : Xn} {cs : List C} : behind ls e (.exc x cs) = (match putBack ls cs e with
    | some e' => .exc x e'
    | none => .bad : Res R) := rfl
@[simp] theorem z_pk0 {α : Type} {l : List α} : pick [] l = some [] := rfl
@[simp] theorem z_pk1 {α : Type} {l : List α} {is : List Nat} : pick (i :: is) l = (l[i]?).bind fun a => (pick is l).map (a :: ·) := rfl
@[simp] theorem z_vNa1 : vNs (dens G (a :: es) ++ dens G kes) e = (vN (den G a).v e).bind fun d e1 => (vNs (dens G es ++ dens G kes) e1).bind fun ds e2 => .ok (d :: ds) e2 := rfl
@[simp] theorem z_pb0 : putBack [] [] e = some e := rfl
def slK (i : Nat) (f : Bool → Option Env) : Option Sl → Option Env
  | some (.mu t false _) => f t
  | _ => none
@[simp] theorem z_pb1 {is : List Nat} {c : C} {cs : List C} : putBack (i :: is) (c :: cs) e = slK i (fun t => putBack is cs (e.set i (.mu t false c))) e[i]? := by
  show (match e[i]? with
    | some (.mu t false _) => putBack is cs (e.set i (.mu t false c))
    | _ => none) = _
  cases e[i]? with
  | none => rfl
  | some s =>
    cases s <;> first | rfl | (rename_i p q c; cases q <;> rfl)
@[simp] theorem z_slK {p : Bool} {c : C} {q : Bool → Option Env} : slK i q (some (.mu p false c)) = q p := rfl
/-- the end of a def -/
@[simp] theorem z_fin {ms : List Mo} {r : R} : fin ms r e = (match lentOf ms 0 e with
  | none => .bad
  | some cs => (match r with
    | .val d => .ret d cs
    | .fresh c => .fresh c cs
    | .slot _ => .bad : FRes)) := rfl
@[simp] theorem z_len0 {n : Nat} : lentOf [] n e = some [] := rfl
@[simp] theorem z_lenB {n : Nat} {ms : List Mo} : lentOf (.b :: ms) n e = lentOf ms (n + 1) e := rfl
@[simp] theorem z_lenF {n : Nat} {ms : List Mo} : lentOf (.f :: ms) n e = lentOf ms (n + 1) e := rfl
def slZ (q : Option (List C)) : Option Sl → Option (List C)
  | some (.mu true false c) => q.map (c :: ·)
  | _ => none
@[simp] theorem z_lenL {n : Nat} {ms : List Mo} : lentOf (.l :: ms) n e = slZ (lentOf ms (n + 1) e) e[n]? := by
  show (match e[n]? with
    | some (.mu true false c) => (lentOf ms (n + 1) e).map (c :: ·)
    | _ => none) = _
  cases e[n]? with
  | none => rfl
  | some s =>
    cases s <;> first | rfl | (rename_i p q c; cases p <;> cases q <;> rfl)
@[simp] theorem z_slZ {c : C} {q : Option (List C)} : slZ q (some (.mu true false c)) = q.map (c :: ·) := rfl
/-- a def's run -/
theorem z_run {d : Df} {ds : List D} {e0 : Env} (h : startE d.mo ds = some e0) : runD G X d ds = (match sens G X d.body (e0 ++ List.replicate (d.N.length - e0.length) .un) with
    | .bad => .bad
    | .ok (.rt r) e1 => fin d.mo r e1
    | .ok .nx e1 => fin d.mo (.val .none) e1
    | .ok _ _ => .bad
    | .exc x e1 => match lentOf d.mo 0 e1 with
      | some cs => .exc x cs
      | none => .bad : FRes) := by
  unfold runD
  rw [h]
  all_goals rfl
end
end Ev
set_option Elab.async false
set_option linter.all false
set_option maxHeartbeats 1000000
set_option maxRecDepth 10000
/-! Ev17: operations on ints, kinds of things, loops by what stays true. -/
namespace Ev
open PySem
theorem kt_none_int : L2.kitB "NoneType" "int" = some false := by decide +kernel
@[simp] theorem kd_none_int : isK .none "int" = some false := kt_none_int
theorem kt_none_bool : L2.kitB "NoneType" "bool" = some false := by decide +kernel
@[simp] theorem kd_none_bool : isK .none "bool" = some false := kt_none_bool
theorem kt_none_str : L2.kitB "NoneType" "str" = some false := by decide +kernel
@[simp] theorem kd_none_str : isK .none "str" = some false := kt_none_str
theorem kt_none_tuple : L2.kitB "NoneType" "tuple" = some false := by decide +kernel
@[simp] theorem kd_none_tuple : isK .none "tuple" = some false := kt_none_tuple
theorem kt_none_list : L2.kitB "NoneType" "list" = some false := by decide +kernel
@[simp] theorem kd_none_list : isK .none "list" = some false := kt_none_list
theorem kt_none_dict : L2.kitB "NoneType" "dict" = some false := by decide +kernel
@[simp] theorem kd_none_dict : isK .none "dict" = some false := kt_none_dict
theorem kt_bool_int : L2.kitB "bool" "int" = some true := by decide +kernel
@[simp] theorem kd_bool_int {x : Bool} : isK (.bool x) "int" = some true := kt_bool_int
theorem kt_bool_bool : L2.kitB "bool" "bool" = some true := by decide +kernel
@[simp] theorem kd_bool_bool {x : Bool} : isK (.bool x) "bool" = some true := kt_bool_bool
theorem kt_bool_str : L2.kitB "bool" "str" = some false := by decide +kernel
@[simp] theorem kd_bool_str {x : Bool} : isK (.bool x) "str" = some false := kt_bool_str
theorem kt_bool_tuple : L2.kitB "bool" "tuple" = some false := by decide +kernel
@[simp] theorem kd_bool_tuple {x : Bool} : isK (.bool x) "tuple" = some false := kt_bool_tuple
theorem kt_bool_list : L2.kitB "bool" "list" = some false := by decide +kernel
@[simp] theorem kd_bool_list {x : Bool} : isK (.bool x) "list" = some false := kt_bool_list
theorem kt_bool_dict : L2.kitB "bool" "dict" = some false := by decide +kernel
@[simp] theorem kd_bool_dict {x : Bool} : isK (.bool x) "dict" = some false := kt_bool_dict
theorem kt_int_int : L2.kitB "int" "int" = some true := by decide +kernel
@[simp] theorem kd_int_int {x : Int} : isK (.int x) "int" = some true := kt_int_int
theorem kt_int_bool : L2.kitB "int" "bool" = some false := by decide +kernel
@[simp] theorem kd_int_bool {x : Int} : isK (.int x) "bool" = some false := kt_int_bool
theorem kt_int_str : L2.kitB "int" "str" = some false := by decide +kernel
@[simp] theorem kd_int_str {x : Int} : isK (.int x) "str" = some false := kt_int_str
theorem kt_int_tuple : L2.kitB "int" "tuple" = some false := by decide +kernel
@[simp] theorem kd_int_tuple {x : Int} : isK (.int x) "tuple" = some false := kt_int_tuple
theorem kt_int_list : L2.kitB "int" "list" = some false := by decide +kernel
@[simp] theorem kd_int_list {x : Int} : isK (.int x) "list" = some false := kt_int_list
theorem kt_int_dict : L2.kitB "int" "dict" = some false := by decide +kernel
@[simp] theorem kd_int_dict {x : Int} : isK (.int x) "dict" = some false := kt_int_dict
theorem kt_str_int : L2.kitB "str" "int" = some false := by decide +kernel
@[simp] theorem kd_str_int {x : Str} : isK (.str x) "int" = some false := kt_str_int
theorem kt_str_bool : L2.kitB "str" "bool" = some false := by decide +kernel
@[simp] theorem kd_str_bool {x : Str} : isK (.str x) "bool" = some false := kt_str_bool
theorem kt_str_str : L2.kitB "str" "str" = some true := by decide +kernel
@[simp] theorem kd_str_str {x : Str} : isK (.str x) "str" = some true := kt_str_str
theorem kt_str_tuple : L2.kitB "str" "tuple" = some false := by decide +kernel
@[simp] theorem kd_str_tuple {x : Str} : isK (.str x) "tuple" = some false := kt_str_tuple
theorem kt_str_list : L2.kitB "str" "list" = some false := by decide +kernel
@[simp] theorem kd_str_list {x : Str} : isK (.str x) "list" = some false := kt_str_list
theorem kt_str_dict : L2.kitB "str" "dict" = some false := by decide +kernel
@[simp] theorem kd_str_dict {x : Str} : isK (.str x) "dict" = some false := kt_str_dict
theorem kt_list_int : L2.kitB "list" "int" = some false := by decide +kernel
@[simp] theorem kd_list_int {x : List D} : isK (.list x) "int" = some false := kt_list_int
theorem kt_list_bool : L2.kitB "list" "bool" = some false := by decide +kernel
@[simp] theorem kd_list_bool {x : List D} : isK (.list x) "bool" = some false := kt_list_bool
theorem kt_list_str : L2.kitB "list" "str" = some false := by decide +kernel
@[simp] theorem kd_list_str {x : List D} : isK (.list x) "str" = some false := kt_list_str
theorem kt_list_tuple : L2.kitB "list" "tuple" = some false := by decide +kernel
@[simp] theorem kd_list_tuple {x : List D} : isK (.list x) "tuple" = some false := kt_list_tuple
theorem kt_list_list : L2.kitB "list" "list" = some true := by decide +kernel
@[simp] theorem kd_list_list {x : List D} : isK (.list x) "list" = some true := kt_list_list
theorem kt_list_dict : L2.kitB "list" "dict" = some false := by decide +kernel
@[simp] theorem kd_list_dict {x : List D} : isK (.list x) "dict" = some false := kt_list_dict
theorem kt_tuple_int : L2.kitB "tuple" "int" = some false := by decide +kernel
@[simp] theorem kd_tuple_int {x : List D} : isK (.tuple x) "int" = some false := kt_tuple_int
theorem kt_tuple_bool : L2.kitB "tuple" "bool" = some false := by decide +kernel
@[simp] theorem kd_tuple_bool {x : List D} : isK (.tuple x) "bool" = some false := kt_tuple_bool
theorem kt_tuple_str : L2.kitB "tuple" "str" = some false := by decide +kernel
@[simp] theorem kd_tuple_str {x : List D} : isK (.tuple x) "str" = some false := kt_tuple_str
theorem kt_tuple_tuple : L2.kitB "tuple" "tuple" = some true := by decide +kernel
@[simp] theorem kd_tuple_tuple {x : List D} : isK (.tuple x) "tuple" = some true := kt_tuple_tuple
theorem kt_tuple_list : L2.kitB "tuple" "list" = some false := by decide +kernel
@[simp] theorem kd_tuple_list {x : List D} : isK (.tuple x) "list" = some false := kt_tuple_list
theorem kt_tuple_dict : L2.kitB "tuple" "dict" = some false := by decide +kernel
@[simp] theorem kd_tuple_dict {x : List D} : isK (.tuple x) "dict" = some false := kt_tuple_dict
theorem kt_dict_int : L2.kitB "dict" "int" = some false := by decide +kernel
@[simp] theorem kd_dict_int {x : List (D × D)} : isK (.dict x) "int" = some false := kt_dict_int
theorem kt_dict_bool : L2.kitB "dict" "bool" = some false := by decide +kernel
@[simp] theorem kd_dict_bool {x : List (D × D)} : isK (.dict x) "bool" = some false := kt_dict_bool
theorem kt_dict_str : L2.kitB "dict" "str" = some false := by decide +kernel
@[simp] theorem kd_dict_str {x : List (D × D)} : isK (.dict x) "str" = some false := kt_dict_str
theorem kt_dict_tuple : L2.kitB "dict" "tuple" = some false := by decide +kernel
@[simp] theorem kd_dict_tuple {x : List (D × D)} : isK (.dict x) "tuple" = some false := kt_dict_tuple
theorem kt_dict_list : L2.kitB "dict" "list" = some false := by decide +kernel
@[simp] theorem kd_dict_list {x : List (D × D)} : isK (.dict x) "list" = some false := kt_dict_list
theorem kt_dict_dict : L2.kitB "dict" "dict" = some true := by decide +kernel
@[simp] theorem kd_dict_dict {x : List (D × D)} : isK (.dict x) "dict" = some true := kt_dict_dict
@[simp] theorem q_lt {a b : Int} : cop .Lt (.int a) (.int b) = some (decide (a < b)) := rfl
@[simp] theorem q_gt {a b : Int} : cop .Gt (.int a) (.int b) = some (decide (b < a)) := rfl
@[simp] theorem q_le {a b : Int} : cop .LtE (.int a) (.int b) = some (decide (a ≤ b)) := by
  show some (!decide (b < a)) = _
  congr 1
  by_cases h : a ≤ b
  · rw [decide_eq_true h, decide_eq_false (by omega)]; rfl
  · rw [decide_eq_false h, decide_eq_true (by omega)]; rfl
@[simp] theorem q_ge {a b : Int} : cop .GtE (.int a) (.int b) = some (decide (b ≤ a)) := by
  show some (!decide (a < b)) = _
  congr 1
  by_cases h : b ≤ a
  · rw [decide_eq_true h, decide_eq_false (by omega)]; rfl
  · rw [decide_eq_false h, decide_eq_true (by omega)]; rfl
@[simp] theorem o_add {a b : Int} : bop .Add (.int a) (.int b) = some (.val (.int (a + b))) := rfl
@[simp] theorem o_sub {a b : Int} : bop .Sub (.int a) (.int b) = some (.val (.int (a - b))) := rfl
theorem o_mul {a b : Int} (h : (-(2 ^ 64) < a ∧ a < 2 ^ 64) ∨ (-(2 ^ 64) < b ∧ b < 2 ^ 64)) : bop .Mult (.int a) (.int b) = some (.val (.int (a * b))) := if_pos h
theorem o_div {a b : Int} (h : 0 < b) (h2 : b.natAbs.log2 < 9000) : bop .FloorDiv (.int a) (.int b) = some (.val (.int (a / b))) := if_pos ⟨h, h2⟩
theorem o_mod {a b : Int} (h : 0 < b) : bop .Mod (.int a) (.int b) = some (.val (.int (a % b))) := if_pos h
theorem o_pow {a b : Int} (h : 0 ≤ b ∧ b ≤ 1000000 ∧ a.natAbs < 2 ^ 64) : bop .Pow (.int a) (.int b) = some (.val (.int (a ^ b.toNat))) := if_pos h
theorem o_shl {a b : Int} (h : 0 ≤ b ∧ b ≤ 1000000 ∧ a.natAbs < 2 ^ 64) : bop .LShift (.int a) (.int b) = some (.val (.int (a * 2 ^ b.toNat))) := if_pos h
theorem log2_lt {n k : Nat} (h : n < 2 ^ k) (hk : 0 < k) : n.log2 < k := by
  by_cases h0 : n = 0
  · subst h0
    rw [Nat.log2_zero]
    exact hk
  · exact (Nat.log2_lt h0).mpr h
/-! ### loops -/
/-- each turn of a for, item by item; I k holds ahead of turn k -/
theorem fr_inv {turn : D → Sc} {ds : List D} (I : Nat → Env → Prop) (h : ∀ k d e, ds[k]? = some d → I k e → ∃ f e', turn d e = .ok f e' ∧ (f = .nx ∨ f = .ct) ∧ I (k + 1) e') {e : Env} (h0 : I 0 e) : ∃ e', frGo turn ds e = .ok .nx e' ∧ I ds.length e' := by
  induction ds generalizing e I with
  | nil => exact ⟨e, rfl, h0⟩
  | cons d ds ih =>
    obtain ⟨f, e1, h1, h2, h3⟩ := h 0 d e rfl h0
    obtain ⟨e2, h4, h5⟩ := ih (fun k => I (k + 1)) (fun k d' e' hk hI => h (k + 1) d' e' (by simpa using hk) hI) h3
    refine ⟨e2, ?_, by simpa using h5⟩
    unfold frGo
    rw [h1, bind_ok]
    rcases h2 with rfl | rfl <;> exact h4
/-- the turns of a comprehension; P relates what was walked and what was made -/
theorem lc_inv {turn : D → Env → Res (Option D)} {ds : List D} (I : Nat → Env → List D → Prop) (h : ∀ k d e acc, ds[k]? = some d → I k e acc → ∃ o e', turn d e = .ok o e' ∧ I (k + 1) e' (acc ++ o.toList)) {e : Env} {acc : List D} (h0 : I 0 e acc) : ∃ r e', lcGo turn ds e = .ok r e' ∧ I ds.length e' (acc ++ r) := by
  induction ds generalizing e I acc with
  | nil => exact ⟨[], e, rfl, by simpa using h0⟩
  | cons d ds ih =>
    obtain ⟨o, e1, h1, h3⟩ := h 0 d e acc rfl h0
    obtain ⟨r, e2, h4, h5⟩ := ih (fun k => I (k + 1)) (fun k d' e' a hk hI => h (k + 1) d' e' a (by simpa using hk) hI) h3
    refine ⟨consO o r, e2, ?_, ?_⟩
    · unfold lcGo
      rw [h1, bind_ok, h4, bind_ok]
    · cases o <;> simpa [consO] using h5
/-- a slot's list, walked -/
theorem frN_inv {turn : D → Sc} {i : Nat} {ds : List D} (hb : ds.length < 1000000) (I : Nat → Env → Prop) (hs : ∀ k e, I k e → ∃ t, e[i]? = some (.mu t true (.lst ds))) (h : ∀ k d e, ds[k]? = some d → I k e → ∃ f e', turn d e = .ok f e' ∧ (f = .nx ∨ f = .ct) ∧ I (k + 1) e') {e : Env} (h0 : I 0 e) :
    ∃ e', frGoN turn (itemAt i false) 1000000 0 e = .ok .nx e' ∧ I ds.length e' := by
  have main : ∀ n k e, k ≤ ds.length → ds.length < n + k → I k e → ∃ e', frGoN turn (itemAt i false) n k e = .ok .nx e' ∧ I ds.length e' := by
    intro n
    induction n with
    | zero => intro k e h1 h2; omega
    | succ n ih =>
      intro k e h1 h2 hI
      obtain ⟨t, ht⟩ := hs k e hI
      have hit : itemAt i false k e = some ds[k]? := by unfold itemAt; rw [ht]; rfl
      unfold frGoN
      rw [hit]
      by_cases hk : k < ds.length
      · rw [List.getElem?_eq_getElem hk]
        obtain ⟨f, e1, h3, h4, h5⟩ := h k ds[k] e (List.getElem?_eq_getElem hk) hI
        obtain ⟨e2, h6, h7⟩ := ih (k + 1) e1 (by omega) (by omega) h5
        refine ⟨e2, ?_, h7⟩
        dsimp only
        rw [h3, bind_ok]
        rcases h4 with rfl | rfl <;> exact h6
      · rw [List.getElem?_eq_none_iff.mpr (by omega)]
        have : k = ds.length := by omega
        subst this
        exact ⟨e, rfl, hI⟩
  exact main 1000000 0 e (Nat.zero_le _) (by omega) h0
/-- a while: by a measure -/
theorem wh_inv {t : Env → Res Bool} {b : Sc} (I : Nat → Env → Prop) (Z : Env → Prop) (h : ∀ n e, I n e → (∃ e', t e = .ok false e' ∧ Z e') ∨ ∃ e1 f e2 m, t e = .ok true e1 ∧ b e1 = .ok f e2 ∧ (f = .nx ∨ f = .ct) ∧ m < n ∧ I m e2) {n : Nat} {e : Env} (hn : n < 1000000) (h0 : I n e) : ∃ e', whGo t b 1000000 e = .ok .nx e' ∧ Z e' := by
  have main : ∀ k n e, n < k → I n e → ∃ e', whGo t b k e = .ok .nx e' ∧ Z e' := by
    intro k
    induction k with
    | zero => intro n e h1; omega
    | succ k ih =>
      intro n e h1 hI
      unfold whGo
      rcases h n e hI with ⟨e', h2, h3⟩ | ⟨e1, f, e2, m, h2, h3, h4, h5, h6⟩
      · exact ⟨e', by rw [h2]; rfl, h3⟩
      · obtain ⟨e', h7, h8⟩ := ih m e2 (by omega) h6
        refine ⟨e', ?_, h8⟩
        rw [h2, bind_ok, if_pos rfl, h3, bind_ok]
        rcases h4 with rfl | rfl <;> exact h7
  exact main 1000000 n e hn h0
theorem gm_fn {Tb : List Df} {X : Xt} {k : Nat} {f : String} {d : Df} (h : (Tb.find? fun d => d.name == f) = some d) (hd : d.df = [] := by rfl) : (gm Tb X (k + 1)).fn f = some (d.mo, runD (gm Tb X k) X d) := by
  show ((Tb.find? fun d => d.name == f).map fun d => (d.mo.take (d.mo.length - d.df.length), fun ds => runD (gm Tb X k) X d (ds ++ d.df))) = _
  rw [h]
  show some (d.mo.take (d.mo.length - d.df.length), fun ds => runD (gm Tb X k) X d (ds ++ d.df)) = _
  rw [hd]
  simp
theorem gm_fnD {Tb : List Df} {X : Xt} {k : Nat} {f : String} {d : Df} (h : (Tb.find? fun d => d.name == f) = some d) : (gm Tb X (k + 1)).fn f = some (d.mo.take (d.mo.length - d.df.length), fun ds => runD (gm Tb X k) X d (ds ++ d.df)) := by
  show ((Tb.find? fun d => d.name == f).map fun d => (d.mo.take (d.mo.length - d.df.length), fun ds => runD (gm Tb X k) X d (ds ++ d.df))) = _
  rw [h]
  rfl
theorem gm_fk {Tb : List Df} {X : Xt} {k : Nat} {f : String} {d : Df} (h : (Tb.find? fun d => d.name == f) = some d) : (gm Tb X (k + 1)).fk f = some (d.mo, runD (gm Tb X k) X d) := by
  show ((Tb.find? fun d => d.name == f).map fun d => (d.mo, runD (gm Tb X k) X d)) = _
  rw [h]
  rfl
@[simp] theorem gm_xc {Tb : List Df} {X : Xt} {k : Nat} : (gm Tb X k).xc = X.xc := by cases k <;> rfl
@[simp] theorem gm_sub {Tb : List Df} {X : Xt} {k : Nat} : (gm Tb X k).sub = X.sub := by cases k <;> rfl
@[simp] theorem gm_fld {Tb : List Df} {X : Xt} {k : Nat} : (gm Tb X k).fld = X.fld := by cases k <;> rfl
@[simp] theorem gm_kn {Tb : List Df} {X : Xt} {k : Nat} : (gm Tb X k).kn = X.kn := by cases k <;> rfl
@[simp] theorem z_offX {x : Xn} {e : Ev.Env} : offS (.exc x e) = .exc x e := rfl
/-! ### comprehensions, what is walked -/
section
variable {G : Gm} {own tg : List Nat} {pair : Bool} {oc : Option (Ev.Env → Res Bool)} {x : Vc} {d : D} {ds : List D} {e e1 : Ev.Env} {i : Nat} {is : List Nat} {m : ME}
@[simp] theorem z_lcR {turn : D → Ev.Env → Res (Option D)} : lcRun own turn (.vals ds) e = (ofO (wipeE e own) e).bind fun e2 _ => if ds.length < big then (lcGo turn ds e2).bind fun ds e3 => .ok ds (backE e e3 own) else .bad := by
  show (match wipeE e own with
    | none => .bad
    | some e2 => if ds.length < big then (lcGo turn ds e2).bind fun ds e3 => .ok ds (backE e e3 own) else .bad : Res (List D)) = _
  cases wipeE e own <;> rfl
@[simp] theorem z_lcG0 {turn : D → Ev.Env → Res (Option D)} : lcGo turn [] e = .ok [] e := rfl
@[simp] theorem z_lcG1 {turn : D → Ev.Env → Res (Option D)} : lcGo turn (d :: ds) e = (turn d e).bind fun o e1 => (lcGo turn ds e1).bind fun r e2 => .ok (consO o r) e2 := rfl
@[simp] theorem z_lcT : lcTurn own tg pair oc x d e = (ofO (putT tg pair d e) e).bind fun s1 _ => noX ((tstC oc s1).bind fun k s2 => if k = true then (vE x s2).bind fun d s3 => (ofO (wipeE s3 own) s3).bind fun s4 _ => .ok (some d) s4 else (ofO (wipeE s2 own) s2).bind fun s4 _ => .ok none s4) := by
  unfold lcTurn
  cases putT tg pair d e with
  | none => rfl
  | some s1 =>
    simp only [ofO_some, bind_ok]
    congr 2
    funext k s2
    split
    · congr 1
      funext d s3
      cases wipeE s3 own <;> rfl
    · cases wipeE s2 own <;> rfl
@[simp] theorem z_noX {α : Type} {a : α} : noX (.ok a e) = .ok a e := rfl
@[simp] theorem z_tst0 : tstC (denT G none) e = .ok true e := rfl
@[simp] theorem z_tst1 : tstC (denT G (some m)) e = (den G m).t e := rfl
@[simp] theorem z_con0 {r : List D} : consO none r = r := rfl
@[simp] theorem z_con1 {r : List D} : consO (some d) r = d :: r := rfl
def slW (o : Option Sl) (q : Option Ev.Env) : Option Ev.Env := match o with
  | some .un => q
  | some (.fz _) => q
  | some (.bo _) => q
  | some (.xc _) => q
  | _ => none
@[simp] theorem z_wi0 : wipeE e [] = some e := rfl
@[simp] theorem z_wi1 : wipeE e (i :: is) = slW e[i]? (wipeE (e.set i .un) is) := by
  show (match e[i]? with
    | some (.mu _ _ _) => none
    | some _ => wipeE (e.set i .un) is
    | none => none) = _
  cases e[i]? with
  | none => rfl
  | some s => cases s <;> rfl
@[simp] theorem z_slWu {q : Option Ev.Env} : slW (some .un) q = q := rfl
@[simp] theorem z_slWf {q : Option Ev.Env} : slW (some (.fz d)) q = q := rfl
@[simp] theorem z_slWb {q : Option Ev.Env} : slW (some (.bo d)) q = q := rfl
@[simp] theorem z_ba0 : backE e1 e [] = e := rfl
@[simp] theorem z_ba1 : backE e1 e (i :: is) = backE e1 (e.set i (e1[i]?.getD .un)) is := rfl
@[simp] theorem z_srV : srcOf false e (.val d) = (ofO (itemsD d) e).bind fun ds e1 => .ok (.vals ds) e1 := rfl
@[simp] theorem z_seT : srcOf true e (.val (.tuple ds)) = .ok (.vals (enumD ds)) e := rfl
@[simp] theorem z_seL : srcOf true e (.val (.list ds)) = .ok (.vals (enumD ds)) e := rfl
@[simp] theorem z_itL : itemsD (.list ds) = some ds := rfl
@[simp] theorem z_itT : itemsD (.tuple ds) = some ds := rfl
def slS (i : Nat) (e : Ev.Env) : Option Sl → Res Src
  | some (.bo (.list ds)) => .ok (.vals ds) e
  | some (.mu _ _ (.lst _)) => .ok (.slot i false) e
  | _ => .bad
@[simp] theorem z_srS : srcOf false e (.slot i) = slS i e e[i]? := by
  show (match e[i]? with
    | some (.bo (.list ds)) => .ok (.vals (if false = true then enumD ds else ds)) e
    | some (.mu _ _ (.lst _)) => .ok (.slot i false) e
    | _ => .bad : Res Src) = _
  cases e[i]? with
  | none => rfl
  | some s => cases s <;> first | rfl | (rename_i d; cases d <;> rfl)
@[simp] theorem z_slSb : slS i e (some (.bo (.list ds))) = .ok (.vals ds) e := rfl
@[simp] theorem z_slSm {p q : Bool} : slS i e (some (.mu p q (.lst ds))) = .ok (.slot i false) e := rfl
@[simp] theorem z_frV {turn : D → Sc} : frRun turn (.vals ds) e = offS (frGo turn ds e) := rfl
@[simp] theorem z_off {f : Fl} : offS (.ok f e) = .ok (brk2nx f) e := rfl
@[simp] theorem z_b2n : brk2nx .nx = .nx := rfl
@[simp] theorem z_b2b : brk2nx .br = .nx := rfl
@[simp] theorem z_b2r {r : R} : brk2nx (.rt r) = .rt r := rfl
@[simp] theorem z_frT {b : Sc} : frTurn tg pair b d e = (ofO (putT tg pair d e) e).bind fun e1 _ => b e1 := by
  unfold frTurn
  cases putT tg pair d e <;> rfl
@[simp] theorem z_fg0 {turn : D → Sc} : frGo turn [] e = .ok .nx e := rfl
@[simp] theorem z_putP {q : List D} : putT tg true (.tuple q) e = if q.length = tg.length then putAll tg q e else none := by
  cases tg <;> rfl
@[simp] theorem z_putL {q : List D} : putT tg true (.list q) e = if q.length = tg.length then putAll tg q e else none := by
  cases tg <;> rfl
@[simp] theorem z_tD0 {a : List D} : boolsD [] = some [] := rfl
@[simp] theorem z_tD1 {b : Bool} : boolsD (.bool b :: ds) = (boolsD ds).map (b :: ·) := rfl
@[simp] theorem z_bLenL : bi .len [.list ds] = some (.val (.int ds.length)) := rfl
@[simp] theorem z_bLenT : bi .len [.tuple ds] = some (.val (.int ds.length)) := rfl
@[simp] theorem z_bTupL : bi .tuple [.list ds] = some (.val (.tuple ds)) := rfl
@[simp] theorem z_bTupT : bi .tuple [.tuple ds] = some (.val (.tuple ds)) := rfl
@[simp] theorem z_bLisL : bi .list [.list ds] = some (.fresh (.lst ds)) := rfl
@[simp] theorem z_bLisT : bi .list [.tuple ds] = some (.fresh (.lst ds)) := rfl
@[simp] theorem z_bAll : bi .all [.list ds] = (boolsD ds).map fun bs => .val (.bool (bs.all id)) := rfl
@[simp] theorem z_bAny : bi .any [.list ds] = (boolsD ds).map fun bs => .val (.bool (bs.any id)) := rfl
@[simp] theorem z_ixL {n : Int} : iop (.list ds) (.int n) = L2.atI ds n := rfl
@[simp] theorem z_ixT {n : Int} : iop (.tuple ds) (.int n) = L2.atI ds n := rfl
@[simp] theorem z_eq {a b : D} : cop .Eq a b = eqD a b := rfl
@[simp] theorem z_ne {a b : D} : cop .NotEq a b = (eqD a b).map (!·) := rfl
end
theorem sh_int {i : Int} : shp (.int i) = true := by simp [shp, SeqAt.shaped, PyData.canLay0, PyData.depth]
theorem eq_of {a b : D} (ha : shp a = true) (hb : shp b = true) : eqD a b = some (PyData.eqv a b) := by
  unfold eqD
  split
  · rw [PyData.eqv]
    try rfl
  · exact if_pos ⟨ha, hb⟩
@[simp] theorem eq_str {a b : Str} : eqD (.str a) (.str b) = some (decide (a = b)) := rfl
@[simp] theorem eq_int {a b : Int} : eqD (.int a) (.int b) = some (decide (a = b)) := by
  rw [eq_of sh_int sh_int]
  rw [PyData.eqv]
  rfl
end Ev
set_option Elab.async false
set_option linter.all false
set_option maxHeartbeats 1000000
set_option maxRecDepth 10000
set_option exponentiation.threshold 9000
/-! Ev18: small things, which may be shown and compared. -/
namespace Ev
open PySem
/-- a small thing, nested at most n times -/
def sm : Nat → D → Bool
  | _, .none => true
  | _, .bool _ => true
  | _, .int i => decide (i.natAbs < 2 ^ 1000)
  | _, .str x => PyData.strOk x && decide (x.cps.size ≤ 40) && x.cps.toList.all fun c => decide (c < 16 ^ 8)
  | n + 1, .list xs => decide (xs.length ≤ 16) && xs.all (sm n)
  | n + 1, .tuple xs => decide (xs.length ≤ 16) && xs.all (sm n)
  | _, _ => false
/-- how long its text is at the most -/
def smL : Nat → Nat
  | 0 => 1001
  | n + 1 => 16 * (smL n + 2) + 3
theorem smL_le : ∀ n, 1001 ≤ smL n
  | 0 => Nat.le_refl _
  | n + 1 => by
    have := smL_le n
    show 1001 ≤ 16 * (smL n + 2) + 3
    omega
structure SmOk (n : Nat) (d : D) : Prop where
  sh : d.showable = true
  nd : d.hasDict = false
  dp : d.depth ≤ n
  ln : d.shown.length ≤ smL n
  cl : d.canLay0 = true
theorem sum_le {ts : List Str} {m : Nat} (h : ∀ t ∈ ts, t.length ≤ m) : (ts.map (·.length)).sum ≤ ts.length * m := by
  induction ts with
  | nil => simp
  | cons t ts ih =>
    have h1 := h t List.mem_cons_self
    have h2 := ih fun u hu => h u (List.mem_cons_of_mem _ hu)
    rw [List.map_cons, List.sum_cons, List.length_cons, Nat.succ_mul]
    omega
structure SmAll (n : Nat) (ds : List D) : Prop where
  sh : PyData.showableAll ds = true
  nd : PyData.hasDictAll ds = false
  dp : PyData.depthAll ds ≤ n
  ln : ∀ t ∈ PyData.shownAll ds, t.length ≤ smL n
  cl : PyData.canLayAll0 ds = true
theorem sm_all {n : Nat} (ih : ∀ d, sm n d = true → SmOk n d) : ∀ ds : List D, ds.all (sm n) = true → SmAll n ds
  | [], _ => ⟨rfl, rfl, Nat.zero_le _, fun t ht => by simp [PyData.shownAll] at ht, rfl⟩
  | d :: ds, h => by
    rw [List.all_cons, Bool.and_eq_true] at h
    obtain ⟨a1, a2, a3, a4, a5⟩ := ih d h.1
    obtain ⟨b1, b2, b3, b4, b5⟩ := sm_all ih ds h.2
    refine ⟨by simp [PyData.showableAll, a1, b1], by simp [PyData.hasDictAll, a2, b2], by simp only [PyData.depthAll]; omega, fun t ht => ?_, by simp [PyData.canLayAll0, a5, b5]⟩
    simp only [PyData.shownAll, List.mem_cons] at ht
    rcases ht with rfl | ht
    · exact a4
    · exact b4 t ht
theorem sm_ok : ∀ n d, sm n d = true → SmOk n d := by
  have leaf : ∀ n, SmOk n .none := fun n => ⟨rfl, rfl, Nat.zero_le _, Nat.le_trans (by decide : (PyData.shown .none).length ≤ 1001) (smL_le n), rfl⟩
  have lb : ∀ n b, SmOk n (.bool b) := fun n b => ⟨by cases b <;> rfl, by cases b <;> rfl, Nat.zero_le _, Nat.le_trans (by cases b <;> decide : (PyData.shown (.bool b)).length ≤ 1001) (smL_le n), by cases b <;> rfl⟩
  have li : ∀ n i, sm n (.int i) = true → SmOk n (.int i) := by
    intro n i h
    have h : i.natAbs < 2 ^ 1000 := by
      cases n <;> simpa [sm] using h
    have hl : i.natAbs.log2 < 1000 := log2_lt h (by decide)
    refine ⟨by simp only [PyData.showable, decide_eq_true_eq]; omega, rfl, Nat.zero_le _, Nat.le_trans ?_ (smL_le n), rfl⟩
    have := int_text_length_le (a := i) (by decide : 0 < 1000) hl
    simp only [PyData.shown]
    rw [ofString_length]
    exact this
  have ls : ∀ n x, sm n (.str x) = true → SmOk n (.str x) := by
    intro n x h
    have h : (PyData.strOk x && decide (x.cps.size ≤ 40) && x.cps.toList.all fun c => decide (c < 16 ^ 8)) = true := by cases n <;> simpa [sm] using h
    simp only [Bool.and_eq_true, decide_eq_true_eq, List.all_eq_true] at h
    obtain ⟨⟨h1, h2⟩, h3⟩ := h
    refine ⟨rfl, rfl, Nat.zero_le _, Nat.le_trans ?_ (smL_le n), by simpa [PyData.canLay0] using h1⟩
    have := StrLaws.reprText_len x h3
    simp only [PyData.shown]
    have e : x.length = x.cps.size := rfl
    omega
  intro n
  induction n with
  | zero =>
    intro d h
    cases d with
    | none => exact leaf 0
    | bool b => exact lb 0 b
    | int i => exact li 0 i h
    | str x => exact ls 0 x h
    | list _ => simp [sm] at h
    | tuple _ => simp [sm] at h
    | dict _ => simp [sm] at h
  | succ n ih =>
    intro d h
    cases d with
    | none => exact leaf _
    | bool b => exact lb _ b
    | int i => exact li _ i h
    | str x => exact ls _ x h
    | dict _ => simp [sm] at h
    | list xs =>
      simp only [sm, Bool.and_eq_true, decide_eq_true_eq] at h
      obtain ⟨b1, b2, b3, b4, b5⟩ := sm_all ih xs h.2
      have h1 := listText_len_le (PyData.shownAll xs)
      have h2 := sum_le b4
      have h3 := PyData.shownAll_length xs
      have h4 : xs.length * smL n ≤ 16 * smL n := Nat.mul_le_mul_right _ h.1
      refine ⟨by simpa [PyData.showable] using b1, by simpa [PyData.hasDict] using b2, by simp only [PyData.depth]; omega, ?_, by simpa [PyData.canLay0] using b5⟩
      simp only [PyData.shown]
      rw [h3] at h1 h2
      show _ ≤ 16 * (smL n + 2) + 3
      omega
    | tuple xs =>
      simp only [sm, Bool.and_eq_true, decide_eq_true_eq] at h
      obtain ⟨b1, b2, b3, b4, b5⟩ := sm_all ih xs h.2
      have h1 := tupleText_len_le (PyData.shownAll xs)
      have h2 := sum_le b4
      have h3 := PyData.shownAll_length xs
      have h4 : xs.length * smL n ≤ 16 * smL n := Nat.mul_le_mul_right _ h.1
      refine ⟨by simpa [PyData.showable] using b1, by simpa [PyData.hasDict] using b2, by simp only [PyData.depth]; omega, ?_, by simpa [PyData.canLay0] using b5⟩
      simp only [PyData.shown]
      rw [h3] at h1 h2
      show _ ≤ 16 * (smL n + 2) + 3
      omega
theorem smL3 : smL 3 ≤ big := by decide
theorem sm_repr {n : Nat} {d : D} (h : sm n d = true) (hn : n ≤ 3) : bi .repr [d] = some (.val (.str d.shown)) := by
  obtain ⟨h1, h2, h3, h4, h5⟩ := sm_ok n d h
  have hl : smL n ≤ big := by
    have : n = 0 ∨ n = 1 ∨ n = 2 ∨ n = 3 := by omega
    rcases this with rfl | rfl | rfl | rfl <;> decide
  exact if_pos ⟨h1, h2, by omega, by omega⟩
theorem sm_shp {n : Nat} {d : D} (h : sm n d = true) (hn : n ≤ 60) : shp d = true := by
  obtain ⟨h1, h2, h3, h4, h5⟩ := sm_ok n d h
  simp only [shp, SeqAt.shaped, Bool.and_eq_true, decide_eq_true_eq]
  exact ⟨h5, by omega⟩
end Ev
set_option Elab.async false
set_option linter.all false
set_option maxRecDepth 100000
set_option maxHeartbeats 2000000
/-! Ev36: what a law's table tells of its classes of exceptions. -/
namespace Ev
open PySem PySem.Spec PyProof.Rows L2
/-- the classes' table -/
def mkX (xs : List (String × List Str)) (ss : List ((Str × String) × Bool)) (fs : List (Str × String)) (kn : List String) : Xt := ⟨fun x => (xs.lookup x).getD [], fun c x => ss.lookup (c, x), fun c f => fs.contains (c, f), kn⟩
/-- a def inside a class -/
def inCls (st : Stmt) (j : Nat) : Stmt := match st with
  | .ClassDef _ _ _ body _ _ _ _ _ _ _ => body.getD j (.Pass ⟨0, 0, 0, 0⟩)
  | _ => .Pass ⟨0, 0, 0, 0⟩
theorem lookup_mem {α β : Type} [BEq α] [LawfulBEq α] : ∀ {l : List (α × β)} {a : α} {b : β}, l.lookup a = some b → (a, b) ∈ l
  | (x, y) :: l, a, b, h => by
    rw [List.lookup_cons] at h
    split at h
    · rename_i e
      cases h
      rw [eq_of_beq e]
      exact List.mem_cons_self
    · exact List.mem_cons_of_mem _ (lookup_mem h)
  | [], _, _, h => by cases h
section
variable {P : Program} {w : World} {K : PySem.W.Frag} {mg : Str → Option Value} {base : Heap} {xs : List (String × List Str)} {ss : List ((Str × String) × Bool)} {fs : List (Str × String)} {kn : List String}
theorem mkX_xc (h : ∀ p ∈ xs, XcOk P w K mg base p.1 p.2) (x : String) (hx : (mkX xs ss fs kn).xc x ≠ []) : XcOk P w K mg base x ((mkX xs ss fs kn).xc x) := by
  have hx : (xs.lookup x).getD [] ≠ [] := hx
  show XcOk P w K mg base x ((xs.lookup x).getD [])
  cases e : xs.lookup x with
  | none => rw [e] at hx; exact absurd rfl hx
  | some q => exact h _ (lookup_mem e)
theorem mkX_sub (h : ∀ p ∈ ss, SubOk K mg p.1.1 p.1.2 p.2) (c : Str) (x : String) (b : Bool) (hx : (mkX xs ss fs kn).sub c x = some b) : SubOk K mg c x b := h _ (lookup_mem (a := (c, x)) hx)
theorem mkX_fld (h : ∀ p ∈ fs, FldOk K mg p.1 p.2) (c : Str) (f : String) (hx : (mkX xs ss fs kn).fld c f = true) : FldOk K mg c f := by
  have hx : fs.contains (c, f) = true := hx
  exact h (c, f) (by simpa using hx)
/-- what an error's class must say -/
structure LiveC (K : PySem.W.Frag) (mg : Str → Option Value) (c : Str) (C : Addr) : Prop where
  at' : mg c = some (.ref C)
  ec : ExcC K C
  self : PySem.W.subIn K (.ref C) (.ref C) = some true
theorem kit_own {C D : Addr} {b : Bool} (s0 : PySem.W.subIn K (.ref C) (.ref C) = some true) (i : PySem.W.isClsIn K D = true) (t : PySem.W.typeIn K (.ref D) = some (.type "type")) (s1 : PySem.W.subIn K (.ref C) (.ref D) = some b) (s2 : PySem.W.subIn K (.ref D) (.type "BaseException") = some true) :
    PySem.W.kitOne K (.ref C) (.ref D) = some b ∧ PySem.W.exmOne K (.ref C) (.ref D) = some b := by
  have kc : PySem.W.kitCls K (.ref C) (.ref D) = some b := by
    unfold PySem.W.kitCls
    have i' : (PySem.W.clsIn K D).isSome = true := i
    dsimp only
    rw [i', t, if_pos (by rfl)]
    exact s1
  refine ⟨?_, ?_⟩
  · unfold PySem.W.kitOne
    split
    · rename_i e
      have e : (Value.ref C) = .ref D := by simpa using e
      cases e
      rw [s0] at s1
      exact s1
    · exact kc
  · unfold PySem.W.exmOne
    rw [s2, if_pos (by rfl)]
    exact kc
theorem sub_own {c : Str} {x : String} {C D : Addr} {b : Bool} (L : LiveC K mg c C) (mD : mg (T x) = some (.ref D)) (i : PySem.W.isClsIn K D = true) (t : PySem.W.typeIn K (.ref D) = some (.type "type")) (s2 : PySem.W.subIn K (.ref D) (.type "BaseException") = some true) (s1 : PySem.W.subIn K (.ref C) (.ref D) = some b) : SubOk K mg c x b := fun C' h => by
  rw [L.at'] at h
  cases h
  obtain ⟨k1, k2⟩ := kit_own L.self i t s1 s2
  exact ⟨L.ec, .ref D, .ref D, .inl mD, rfl, fun u' (h : u' = _) => h, k1, k2⟩
theorem sub_blt {c : Str} {x : String} {C : Addr} {b : Bool} (L : LiveC K mg c C) (mD : mg (T x) = none) (hb : bootBuiltins (T x) = some (.type x)) (hn : T x ≠ "__name__") (km : PySem.W.kitMeta x = true) (s2 : PySem.W.subIn K (.type x) (.type "BaseException") = some true) (s1 : PySem.W.subIn K (.ref C) (.type x) = some b) : SubOk K mg c x b := fun C' h => by
  rw [L.at'] at h
  cases h
  have kc : PySem.W.kitCls K (.ref C) (.type x) = some b := by
    unfold PySem.W.kitCls
    dsimp only
    rw [if_pos km]
    exact s1
  refine ⟨L.ec, .ty x, .type x, .inr ⟨mD, hb, hn⟩, rfl, fun u' (h : u' = _) => h, ?_, ?_⟩
  · unfold PySem.W.kitOne
    rw [if_neg (by intro z; simp at z)]
    exact kc
  · unfold PySem.W.exmOne
    rw [s2, if_pos (by rfl)]
    exact kc
theorem fld_ok {c : Str} {f : String} {C : Addr} (L : LiveC K mg c C) (h : PySem.W.findIn K (.ref C) (T f) = some none) : FldOk K mg c f := fun C' h' => by
  rw [L.at'] at h'
  cases h'
  exact ⟨⟨L.ec.hg, L.ec.hk, L.ec.hs, L.ec.hd⟩, h⟩
theorem xc_mk {bk : Bk} {bn : String} {c : String} {f0 : Str} {gs : List Str} {C B fI : Addr} {qual : Str} {st : Stmt} {fd : FuncData} (mC : mg (T c) = some (.ref C)) (TC : OxC K bk C) (iC : PySem.W.findIn K (.ref C) "__init__" = some (some (.ref fI))) (tI : PySem.W.typeIn K (.ref fI) = some (.type "function"))
    (F : L2.Fun K (T "__init__") qual st fI fd) (hB : BaseC K mg bk (T bn) B) (h : initK (T bn) (f0 :: gs) st = true) (hb : Binds K fd (T "self" :: f0 :: gs) []) (hf : ∀ f ∈ f0 :: gs, PySem.W.findIn K (.ref C) f = some none) : XcOk P w K mg base c (f0 :: gs) :=
  ⟨bk, C, fI, fd, mC, TC, iC, tI, init_fn F hB h, hb, hf⟩
end
end Ev
set_option Elab.async false
set_option linter.all false
/-! Vs1: words as vectors: sums, spans, bases. -/
namespace Vs
open Ev
abbrev Wd := List Int
abbrev Rs (w : Wd) : Prop := w.Pairwise (· < ·)
theorem m_sym {a b : Wd} {j : Int} : j ∈ symI a b ↔ (j ∈ a ↔ ¬ j ∈ b) := by
  rw [mem_sym]
  by_cases h1 : j ∈ a <;> by_cases h2 : j ∈ b <;> simp [h1, h2]
theorem r_sym (a b : Wd) : Rs (symI a b) := sym_ris a b
theorem r_nil : Rs [] := List.Pairwise.nil
theorem s_self (a : Wd) : symI a a = [] := ris_one (r_sym _ _) r_nil fun k => by
  rw [m_sym]
  by_cases h : k ∈ a <;> simp [h]
theorem s_nil {a : Wd} (h : Rs a) : symI a [] = a := ris_one (r_sym _ _) h fun k => by rw [m_sym]; simp
theorem s_comm (a b : Wd) : symI a b = symI b a := ris_one (r_sym _ _) (r_sym _ _) fun k => by
  rw [m_sym, m_sym]
  by_cases h1 : k ∈ a <;> by_cases h2 : k ∈ b <;> simp [h1, h2]
theorem s_assoc (a b c : Wd) : symI (symI a b) c = symI a (symI b c) := ris_one (r_sym _ _) (r_sym _ _) fun k => by
  rw [m_sym, m_sym, m_sym, m_sym]
  by_cases h1 : k ∈ a <;> by_cases h2 : k ∈ b <;> by_cases h3 : k ∈ c <;> simp [h1, h2, h3]
theorem nil_s {a : Wd} (h : Rs a) : symI [] a = a := by rw [s_comm, s_nil h]
theorem s_back {a b : Wd} (h : Rs b) : symI a (symI a b) = b := by rw [← s_assoc, s_self, nil_s h]
theorem s_back2 {a b : Wd} (h : Rs a) : symI (symI a b) b = a := by rw [s_assoc, s_self, s_nil h]
theorem s_eq {a b : Wd} (ha : Rs a) (hb : Rs b) (h : symI a b = []) : a = b := by
  have := s_back (a := a) hb
  rw [h, s_nil ha] at this
  exact this
/-- what some words make -/
inductive Sp (S : List Wd) : Wd → Prop where
  | zero : Sp S []
  | add {v w : Wd} : w ∈ S → Sp S v → Sp S (symI v w)
theorem Sp.ris {S : List Wd} {v : Wd} (h : Sp S v) : Rs v := by
  cases h
  · exact r_nil
  · exact r_sym _ _
theorem Sp.own {S : List Wd} {w : Wd} (h : w ∈ S) (r : Rs w) : Sp S w := by
  have := Sp.add h (Sp.zero (S := S))
  rwa [nil_s r] at this
theorem Sp.sum {S : List Wd} {a b : Wd} (ha : Sp S a) (hb : Sp S b) : Sp S (symI a b) := by
  induction hb with
  | zero => rw [s_nil ha.ris]; exact ha
  | add hw _ ih => rw [← s_assoc]; exact .add hw ih
theorem Sp.le {S T : List Wd} {v : Wd} (h : ∀ w ∈ S, Sp T w) (hv : Sp S v) : Sp T v := by
  induction hv with
  | zero => exact .zero
  | add hw _ ih => exact ih.sum (h _ hw)
def All (S : List Wd) : Prop := ∀ w ∈ S, Rs w
theorem Sp.sub {S T : List Wd} {v : Wd} (a : All S) (h : ∀ w ∈ S, w ∈ T) (hv : Sp S v) : Sp T v := hv.le fun w hw => .own (h w hw) (a w hw)
/-- the first meeting -/
def hd (w : Wd) : Int := w.headD 0
theorem hd_mem {w : Wd} (h : w ≠ []) : hd w ∈ w := by
  cases w with
  | nil => exact absurd rfl h
  | cons x l => exact List.mem_cons_self
theorem hd_le {w : Wd} (r : Rs w) {k : Int} (h : k ∈ w) : hd w ≤ k := by
  cases w with
  | nil => exact absurd h List.not_mem_nil
  | cons x l =>
    rcases List.mem_cons.mp h with e | e
    · subst e; exact Int.le_refl _
    · exact Int.le_of_lt ((List.pairwise_cons.mp r).1 k e)
def st (own e : Wd) : Wd := if hd own ∈ e then symI e own else e
def red (rows : List Wd) (e : Wd) : Wd := rows.foldl (fun e own => st own e) e
theorem red_cons (r : Wd) (rs : List Wd) (e : Wd) : red (r :: rs) e = red rs (st r e) := rfl
theorem st_ris {own e : Wd} (h : Rs e) : Rs (st own e) := by
  unfold st
  split
  · exact r_sym _ _
  · exact h
theorem red_ris : ∀ {rows : List Wd} {e : Wd}, Rs e → Rs (red rows e)
  | [], _, h => h
  | r :: rs, e, h => red_ris (rows := rs) (st_ris h)
theorem st_lin (own a b : Wd) : st own (symI a b) = symI (st own a) (st own b) := by
  unfold st
  have hm := m_sym (a := a) (b := b) (j := hd own)
  by_cases h1 : hd own ∈ a <;> by_cases h2 : hd own ∈ b <;> simp only [h1, h2, not_true, not_false_iff, iff_true, iff_false, if_true, if_false] at hm ⊢
  · rw [if_neg (by simpa using hm)]
    refine ris_one (r_sym _ _) (r_sym _ _) fun k => ?_
    rw [m_sym, m_sym, m_sym, m_sym]
    by_cases a1 : k ∈ a <;> by_cases a2 : k ∈ b <;> by_cases a3 : k ∈ own <;> simp [a1, a2, a3]
  · rw [if_pos (by simpa using hm), s_assoc, s_comm b own, ← s_assoc]
  · rw [if_pos (by simpa using hm), s_assoc]
  · rw [if_neg (by simpa using hm)]
theorem red_lin : ∀ (rows : List Wd) (a b : Wd), red rows (symI a b) = symI (red rows a) (red rows b)
  | [], _, _ => rfl
  | r :: rs, a, b => by rw [red_cons, red_cons, red_cons, st_lin, red_lin rs]
theorem red_nil : ∀ rows : List Wd, red rows [] = []
  | [] => rfl
  | r :: rs => by
    rw [red_cons]
    have : st r [] = [] := by unfold st; rw [if_neg List.not_mem_nil]
    rw [this, red_nil rs]
theorem red_sp {T : List Wd} : ∀ {rows : List Wd} {e : Wd}, (∀ r ∈ rows, Sp T r) → Rs e → Sp T (symI e (red rows e))
  | [], e, _, h => by
    show Sp T (symI e e)
    rw [s_self]; exact .zero
  | r :: rs, e, hT, h => by
    have h1 := red_sp (rows := rs) (fun x hx => hT x (List.mem_cons_of_mem _ hx)) (st_ris (own := r) h)
    rw [red_cons]
    have e1 : symI e (red rs (st r e)) = symI (symI e (st r e)) (symI (st r e) (red rs (st r e))) := by
      rw [s_assoc, s_back (red_ris (st_ris h))]
    rw [e1]
    refine Sp.sum ?_ h1
    unfold st
    split
    · rw [s_back (hT r List.mem_cons_self).ris]
      exact hT r List.mem_cons_self
    · rw [s_self]; exact .zero
theorem red_keep {k : Int} : ∀ {rows : List Wd} {e : Wd}, (∀ r ∈ rows, ¬ k ∈ r) → (k ∈ red rows e ↔ k ∈ e)
  | [], _, _ => Iff.rfl
  | r :: rs, e, h => by
    rw [red_cons, red_keep fun x hx => h x (List.mem_cons_of_mem _ hx)]
    unfold st
    split
    · rw [m_sym]
      simp [h r List.mem_cons_self]
    · exact Iff.rfl
theorem red_none : ∀ {rows : List Wd} {e : Wd}, (∀ r ∈ rows, ¬ hd r ∈ e) → red rows e = e
  | [], _, _ => rfl
  | r :: rs, e, h => by
    rw [red_cons]
    have : st r e = e := by unfold st; rw [if_neg (h r List.mem_cons_self)]
    rw [this, red_none fun x hx => h x (List.mem_cons_of_mem _ hx)]
/-- rows of a base: none void, no first one in another -/
structure Ech (rows : List Wd) : Prop where
  ris : ∀ r ∈ rows, Rs r
  ne : ∀ r ∈ rows, r ≠ []
  ap : rows.Pairwise fun r s => ¬ hd r ∈ s ∧ ¬ hd s ∈ r
theorem Ech.tail {r : Wd} {rs : List Wd} (h : Ech (r :: rs)) : Ech rs :=
  ⟨fun x hx => h.ris x (List.mem_cons_of_mem _ hx), fun x hx => h.ne x (List.mem_cons_of_mem _ hx), (List.pairwise_cons.mp h.ap).2⟩
theorem ech_nil : Ech [] := ⟨fun _ h => absurd h List.not_mem_nil, fun _ h => absurd h List.not_mem_nil, List.Pairwise.nil⟩
theorem red_no : ∀ {rows : List Wd} {e : Wd}, Ech rows → ∀ r ∈ rows, ¬ hd r ∈ red rows e
  | [], _, _, r, hr => absurd hr List.not_mem_nil
  | r :: rs, e, h, x, hx => by
    rw [red_cons]
    rcases List.mem_cons.mp hx with q | q
    · subst q
      rw [red_keep fun y hy => ((List.pairwise_cons.mp h.ap).1 y hy).1]
      unfold st
      split
      · rename_i c
        rw [m_sym]
        simp [c, hd_mem (h.ne x List.mem_cons_self)]
      · assumption
    · exact red_no h.tail x q
theorem red_own : ∀ {rows : List Wd}, Ech rows → ∀ r ∈ rows, red rows r = []
  | [], _, r, hr => absurd hr List.not_mem_nil
  | r :: rs, h, x, hx => by
    rw [red_cons]
    rcases List.mem_cons.mp hx with q | q
    · subst q
      have : st x x = [] := by unfold st; rw [if_pos (hd_mem (h.ne x List.mem_cons_self)), s_self]
      rw [this, red_nil]
    · have : st r x = x := by unfold st; rw [if_neg ((List.pairwise_cons.mp h.ap).1 x q).1]
      rw [this, red_own h.tail x q]
theorem red_of_sp {rows : List Wd} (E : Ech rows) {v : Wd} (h : Sp rows v) : red rows v = [] := by
  induction h with
  | zero => exact red_nil _
  | add hw _ ih => rw [red_lin, ih, red_own E _ hw]; rfl
theorem red_iff {rows : List Wd} (E : Ech rows) {v : Wd} (r : Rs v) : red rows v = [] ↔ Sp rows v := by
  refine ⟨fun h => ?_, red_of_sp E⟩
  have := red_sp (T := rows) (fun x hx => .own hx (E.ris x hx)) r
  rwa [h, s_nil r] at this
theorem sp_none {rows : List Wd} (E : Ech rows) {v : Wd} (h : Sp rows v) (n : ∀ r ∈ rows, ¬ hd r ∈ v) : v = [] := by
  rw [← red_none n]; exact red_of_sp E h
theorem red_first {k : Int} : ∀ {rows : List Wd} {e : Wd}, (∀ r ∈ rows, Rs r ∧ r ≠ [] ∧ hd r ≠ k) → k ∈ e → (∀ x ∈ e, k ≤ x) → k ∈ red rows e
  | [], _, _, h, _ => h
  | r :: rs, e, hr, h, hm => by
    obtain ⟨r1, r2, r3⟩ := hr r List.mem_cons_self
    rw [red_cons]
    by_cases c : hd r ∈ e
    · have e1 : st r e = symI e r := by unfold st; rw [if_pos c]
      have hk := hm _ c
      have nk : ¬ k ∈ r := fun z => by have := hd_le r1 z; omega
      rw [e1]
      refine red_first (fun x hx => hr x (List.mem_cons_of_mem _ hx)) (m_sym.mpr (by simp [h, nk])) fun x hx => ?_
      have := m_sym.mp hx
      by_cases a1 : x ∈ e
      · exact hm x a1
      · have a2 : x ∈ r := by
          apply Classical.byContradiction
          intro z
          exact a1 (this.mpr z)
        have := hd_le r1 a2
        omega
    · have e1 : st r e = e := by unfold st; rw [if_neg c]
      rw [e1]
      exact red_first (fun x hx => hr x (List.mem_cons_of_mem _ hx)) h hm
theorem sp_hd {rows : List Wd} (E : Ech rows) {v : Wd} (h : Sp rows v) (n : v ≠ []) : ∃ r ∈ rows, hd r = hd v := by
  apply Classical.byContradiction
  intro z
  have := red_first (k := hd v) (rows := rows) (e := v) (fun r hr => ⟨E.ris r hr, E.ne r hr, fun e => z ⟨r, hr, e⟩⟩) (hd_mem n) (fun x hx => hd_le h.ris hx)
  rw [red_of_sp E h] at this
  exact absurd this List.not_mem_nil
theorem ech_hd {rows : List Wd} (E : Ech rows) {r s : Wd} (hr : r ∈ rows) (hs : s ∈ rows) (h : hd r ∈ s) : r = s := by
  obtain ⟨ri, ne, ap⟩ := E
  induction rows with
  | nil => exact absurd hr List.not_mem_nil
  | cons x l ih =>
    obtain ⟨h1, h2⟩ := List.pairwise_cons.mp ap
    rcases List.mem_cons.mp hr with q | q <;> rcases List.mem_cons.mp hs with p | p
    · rw [q, p]
    · subst q; exact absurd h (h1 s p).1
    · subst p; exact absurd h (h1 r q).2
    · exact ih q p (fun y hy => ri y (List.mem_cons_of_mem _ hy)) (fun y hy => ne y (List.mem_cons_of_mem _ hy)) h2
theorem ech_nodup {rows : List Wd} (E : Ech rows) : rows.Nodup := by
  refine List.Pairwise.imp_of_mem ?_ E.ap
  intro a b ha hb h e
  subst e
  exact h.1 (hd_mem (E.ne a ha))
/-- the one with this first meeting and no other -/
theorem ech_one {rows : List Wd} (E : Ech rows) {v : Wd} (h : Sp rows v) (n : v ≠ []) (t : ∀ r ∈ rows, hd r ∈ v → hd r = hd v) : v ∈ rows := by
  obtain ⟨r, hr, e⟩ := sp_hd E h n
  have hr1 : Sp rows r := .own hr (E.ris r hr)
  have : symI v r = [] := sp_none E (h.sum hr1) fun s hs z => by
    have z := m_sym.mp z
    by_cases c : hd s ∈ v
    · have e2 := t s hs c
      exact z.mp c (by rw [e2, ← e]; exact hd_mem (E.ne r hr))
    · have c2 : hd s ∈ r := by
        apply Classical.byContradiction
        intro y
        exact c (z.mpr y)
      have e3 := ech_hd E hs hr c2
      subst e3
      exact c (by rw [e]; exact hd_mem n)
  rw [s_eq h.ris (E.ris r hr) this]
  exact hr
theorem ech_sub {A B : List Wd} (EA : Ech A) (EB : Ech B) (h : ∀ v, Sp A v ↔ Sp B v) : ∀ r ∈ A, r ∈ B := fun r hr => by
  have hA : Sp A r := .own hr (EA.ris r hr)
  refine ech_one EB ((h r).mp hA) (EA.ne r hr) fun s hs z => ?_
  have hB : Sp A s := (h s).mpr (.own hs (EB.ris s hs))
  obtain ⟨q, hq, e⟩ := sp_hd EA hB (EB.ne s hs)
  rw [← e] at z
  rw [← e, ech_hd EA hq hr z]
theorem ech_perm {A B : List Wd} (EA : Ech A) (EB : Ech B) (h : ∀ v, Sp A v ↔ Sp B v) : A.Perm B :=
  (List.perm_ext_iff_of_nodup (ech_nodup EA) (ech_nodup EB)).mpr fun r => ⟨ech_sub EA EB h r, ech_sub EB EA (fun v => (h v).symm) r⟩
/-- a word more -/
def ins (found : List Wd) (e : Wd) : List Wd :=
  if red found e = [] then found else found.map (fun own => if hd (red found e) ∈ own then symI own (red found e) else own) ++ [red found e]
def baseL (ws : List Wd) : List Wd := ws.foldl ins []
theorem ins_ech {found : List Wd} (E : Ech found) {e : Wd} (r : Rs e) : Ech (ins found e) := by
  unfold ins
  split
  · exact E
  · rename_i hne
    have rr := red_ris (rows := found) r
    have no := red_no (e := e) E
    generalize red found e = q at hne rr no
    have hd' : ∀ own ∈ found, hd (if hd q ∈ own then symI own q else own) = hd own := fun own ho => by
      split
      · rename_i c
        have lt : hd own < hd q := by
          have h1 := hd_le (E.ris own ho) c
          rcases Int.lt_or_eq_of_le h1 with h2 | h2
          · exact h2
          · exact absurd (by rw [h2]; exact hd_mem hne) (no own ho)
        have m1 : hd own ∈ symI own q := m_sym.mpr (by simp [hd_mem (E.ne own ho), no own ho])
        have n1 : symI own q ≠ [] := fun z => by rw [z] at m1; exact absurd m1 List.not_mem_nil
        have h3 := hd_le (r_sym own q) m1
        have h4 := m_sym.mp (hd_mem n1)
        by_cases c1 : hd (symI own q) ∈ own
        · have := hd_le (E.ris own ho) c1
          omega
        · have c2 : hd (symI own q) ∈ q := by
            apply Classical.byContradiction
            intro z
            exact c1 (h4.mpr z)
          have := hd_le rr c2
          omega
      · rfl
    refine ⟨fun x hx => ?_, fun x hx => ?_, ?_⟩
    · rcases List.mem_append.mp hx with h | h
      · obtain ⟨own, ho, rfl⟩ := List.mem_map.mp h
        split
        · exact r_sym _ _
        · exact E.ris own ho
      · rw [List.mem_singleton.mp h]; exact rr
    · rcases List.mem_append.mp hx with h | h
      · obtain ⟨own, ho, rfl⟩ := List.mem_map.mp h
        split
        · intro z
          have m1 : hd own ∈ symI own q := m_sym.mpr (by simp [hd_mem (E.ne own ho), no own ho])
          rw [z] at m1
          exact absurd m1 List.not_mem_nil
        · exact E.ne own ho
      · rw [List.mem_singleton.mp h]; exact hne
    · refine List.pairwise_append.mpr ⟨?_, List.pairwise_singleton _ _, ?_⟩
      · refine List.pairwise_map.mpr (List.Pairwise.imp_of_mem ?_ E.ap)
        intro a b ha hb hab
        rw [hd' a ha, hd' b hb]
        constructor
        · split
          · rw [m_sym]; simp [hab.1, no a ha]
          · exact hab.1
        · split
          · rw [m_sym]; simp [hab.2, no b hb]
          · exact hab.2
      · intro x hx y hy
        rw [List.mem_singleton.mp hy]
        obtain ⟨own, ho, rfl⟩ := List.mem_map.mp hx
        rw [hd' own ho]
        refine ⟨no own ho, ?_⟩
        split
        · rename_i c
          rw [m_sym]
          simp [c, hd_mem hne]
        · assumption
theorem ins_sp {found : List Wd} (E : Ech found) {e : Wd} (r : Rs e) (v : Wd) : Sp (ins found e) v ↔ Sp (found ++ [e]) v := by
  have af : All found := E.ris
  have le1 : ∀ w, Sp found w → Sp (found ++ [e]) w := fun w h => h.sub af fun x hx => List.mem_append_left _ hx
  have he : Sp (found ++ [e]) e := .own (List.mem_append_right _ (List.mem_singleton.mpr rfl)) r
  have hq : Sp found (symI e (red found e)) := red_sp (fun x hx => .own hx (af x hx)) r
  unfold ins
  split
  · rename_i z
    refine ⟨le1 v, fun h => h.le fun x hx => ?_⟩
    rcases List.mem_append.mp hx with h | h
    · exact .own h (af x h)
    · rw [List.mem_singleton.mp h]; exact (red_iff E r).mp z
  · rename_i hne
    have rr := red_ris (rows := found) r
    have hr : Sp (found ++ [e]) (red found e) := by
      have := he.sum (le1 _ hq)
      rwa [s_back rr] at this
    generalize red found e = q at hne rr hq hr
    have tq : Sp (found.map (fun own => if hd q ∈ own then symI own q else own) ++ [q]) q := .own (List.mem_append_right _ (List.mem_singleton.mpr rfl)) rr
    have to : ∀ own ∈ found, Sp (found.map (fun own => if hd q ∈ own then symI own q else own) ++ [q]) own := fun own ho => by
      have h1 : (if hd q ∈ own then symI own q else own) ∈ found.map (fun own => if hd q ∈ own then symI own q else own) ++ [q] := List.mem_append_left _ (List.mem_map.mpr ⟨own, ho, rfl⟩)
      by_cases c : hd q ∈ own
      · rw [if_pos c] at h1
        have := (Sp.own h1 (r_sym _ _)).sum tq
        rwa [s_back2 (af own ho)] at this
      · rw [if_neg c] at h1
        exact .own h1 (af own ho)
    constructor
    · refine fun h => h.le fun x hx => ?_
      rcases List.mem_append.mp hx with h | h
      · obtain ⟨own, ho, rfl⟩ := List.mem_map.mp h
        have o1 := le1 own (.own ho (af own ho))
        split
        · exact o1.sum hr
        · exact o1
      · rw [List.mem_singleton.mp h]; exact hr
    · refine fun h => h.le fun x hx => ?_
      rcases List.mem_append.mp hx with h | h
      · exact to x h
      · rw [List.mem_singleton.mp h]
        have := (Sp.le to hq).sum tq
        rwa [s_back2 r] at this
theorem sp_app {A B C : List Wd} (a : All B) (c : All C) (h : ∀ v, Sp A v ↔ Sp B v) (v : Wd) (aA : All A) : Sp (A ++ C) v ↔ Sp (B ++ C) v := by
  constructor
  · refine fun q => q.le fun x hx => ?_
    rcases List.mem_append.mp hx with y | y
    · exact ((h x).mp (.own y (aA x y))).sub a fun z hz => List.mem_append_left _ hz
    · exact .own (List.mem_append_right _ y) (c x y)
  · refine fun q => q.le fun x hx => ?_
    rcases List.mem_append.mp hx with y | y
    · exact ((h x).mpr (.own y (a x y))).sub aA fun z hz => List.mem_append_left _ hz
    · exact .own (List.mem_append_right _ y) (c x y)
theorem fold_ok : ∀ (ws : List Wd) (found T : List Wd), All ws → All T → Ech found → (∀ v, Sp found v ↔ Sp T v) → Ech (ws.foldl ins found) ∧ ∀ v, Sp (ws.foldl ins found) v ↔ Sp (T ++ ws) v
  | [], found, T, _, _, E, h => ⟨E, fun v => by rw [List.append_nil]; exact h v⟩
  | w :: ws, found, T, a, aT, E, h => by
    have rw' := a w List.mem_cons_self
    have := fold_ok ws (ins found w) (T ++ [w]) (fun x hx => a x (List.mem_cons_of_mem _ hx)) (fun x hx => by
      rcases List.mem_append.mp hx with y | y
      · exact aT x y
      · rw [List.mem_singleton.mp y]; exact rw') (ins_ech E rw') fun v => (ins_sp E rw' v).trans (sp_app aT (fun x hx => by rw [List.mem_singleton.mp hx]; exact rw') h v E.ris)
    rw [List.append_assoc] at this
    exact this
theorem base_ech {ws : List Wd} (a : All ws) : Ech (baseL ws) := (fold_ok ws [] [] a (fun _ h => absurd h List.not_mem_nil) ech_nil fun _ => Iff.rfl).1
theorem base_sp {ws : List Wd} (a : All ws) (v : Wd) : Sp (baseL ws) v ↔ Sp ws v := (fold_ok ws [] [] a (fun _ h => absurd h List.not_mem_nil) ech_nil fun _ => Iff.rfl).2 v
end Vs
set_option Elab.async false
set_option linter.all false
/-! Vs2: all sums; the base among them; ranks; sorting. -/
namespace Vs
open Ev
/-- one word more -/
theorem sp_snoc {T : List Wd} {w v : Wd} (aT : All T) (rw' : Rs w) (rv : Rs v) : Sp (T ++ [w]) v ↔ Sp T v ∨ Sp T (symI w v) := by
  have le1 : ∀ u, Sp T u → Sp (T ++ [w]) u := fun u h => h.sub aT fun x hx => List.mem_append_left _ hx
  have hw : Sp (T ++ [w]) w := .own (List.mem_append_right _ (List.mem_singleton.mpr rfl)) rw'
  constructor
  · intro h
    clear rv
    induction h with
    | zero => exact .inl .zero
    | add hx hv ih =>
      rename_i v x
      rcases List.mem_append.mp hx with h | h
      · have hx1 : Sp T x := .own h (aT x h)
        rcases ih with ih | ih
        · exact .inl (ih.sum hx1)
        · exact .inr (by rw [← s_assoc]; exact ih.sum hx1)
      · rw [List.mem_singleton.mp h]
        rcases ih with ih | ih
        · refine .inr ?_
          rw [s_comm v w, s_back hv.ris]
          exact ih
        · exact .inl (by rw [s_comm]; exact ih)
  · rintro (h | h)
    · exact le1 v h
    · have := hw.sum (le1 _ h)
      rwa [s_back rv] at this
def allStep (f : List Wd) (w : Wd) : List Wd := if w ∈ f then f else f ++ f.map (symI w)
def allW (ws : List Wd) : List Wd := ws.foldl allStep [[]]
structure AllOk (f T : List Wd) : Prop where
  mem : ∀ v, v ∈ f ↔ Sp T v
  nd : f.Nodup
theorem all_step {f T : List Wd} {w : Wd} (h : AllOk f T) (aT : All T) (r : Rs w) : AllOk (allStep f w) (T ++ [w]) := by
  have ris : ∀ v ∈ f, Rs v := fun v hv => ((h.mem v).mp hv).ris
  unfold allStep
  split
  · rename_i c
    refine ⟨fun v => ?_, h.nd⟩
    rw [h.mem]
    constructor
    · exact fun q => q.sub aT fun x hx => List.mem_append_left _ hx
    · refine fun q => q.le fun x hx => ?_
      rcases List.mem_append.mp hx with y | y
      · exact .own y (aT x y)
      · rw [List.mem_singleton.mp y]; exact (h.mem w).mp c
  · rename_i c
    refine ⟨fun v => ?_, ?_⟩
    · rw [List.mem_append]
      constructor
      · rintro (q | q)
        · exact (sp_snoc aT r (ris v q)).mpr (.inl ((h.mem v).mp q))
        · obtain ⟨u, hu, rfl⟩ := List.mem_map.mp q
          exact (sp_snoc aT r (r_sym _ _)).mpr (.inr (by rw [s_back (ris u hu)]; exact (h.mem u).mp hu))
      · intro q
        rcases (sp_snoc aT r q.ris).mp q with z | z
        · exact .inl ((h.mem v).mpr z)
        · exact .inr (List.mem_map.mpr ⟨symI w v, (h.mem _).mpr z, s_back q.ris⟩)
    · refine List.nodup_append.mpr ⟨h.nd, ?_, ?_⟩
      · refine List.pairwise_map.mpr (List.Pairwise.imp_of_mem ?_ h.nd)
        intro a b ha hb n e
        have := congrArg (symI w) e
        rw [s_back (ris a ha), s_back (ris b hb)] at this
        exact n this
      · intro a ha b hb e
        obtain ⟨u, hu, rfl⟩ := List.mem_map.mp hb
        subst e
        apply c
        rw [h.mem]
        have := ((h.mem _).mp ha).sum ((h.mem u).mp hu)
        rwa [s_back2 r] at this
theorem all_fold : ∀ (ws f T : List Wd), AllOk f T → All T → All ws → AllOk (ws.foldl allStep f) (T ++ ws)
  | [], f, T, h, _, _ => by rw [List.append_nil]; exact h
  | w :: ws, f, T, h, aT, a => by
    have r := a w List.mem_cons_self
    have := all_fold ws (allStep f w) (T ++ [w]) (all_step h aT r) (fun x hx => by
      rcases List.mem_append.mp hx with y | y
      · exact aT x y
      · rw [List.mem_singleton.mp y]; exact r) fun x hx => a x (List.mem_cons_of_mem _ hx)
    rw [List.append_assoc] at this
    exact this
theorem all_ok0 : AllOk [[]] [] := ⟨fun v => ⟨fun h => by rw [List.mem_singleton.mp h]; exact .zero, fun h => by
  cases h with
  | zero => exact List.mem_singleton.mpr rfl
  | add h _ => exact absurd h List.not_mem_nil⟩, List.pairwise_singleton _ _⟩
theorem all_ok {ws : List Wd} (a : All ws) : AllOk (allW ws) ws := all_fold ws [[]] [] all_ok0 (fun _ h => absurd h List.not_mem_nil) a
theorem all_len : ∀ (ws f T found : List Wd), AllOk f T → All T → All ws → Ech found → (∀ v, Sp found v ↔ Sp T v) → f.length = 2 ^ found.length → (ws.foldl allStep f).length = 2 ^ (ws.foldl ins found).length
  | [], _, _, _, _, _, _, _, _, h => h
  | w :: ws, f, T, found, h, aT, a, E, hs, hl => by
    have r := a w List.mem_cons_self
    have aT1 : All (T ++ [w]) := fun x hx => by
      rcases List.mem_append.mp hx with y | y
      · exact aT x y
      · rw [List.mem_singleton.mp y]; exact r
    refine all_len ws (allStep f w) (T ++ [w]) (ins found w) (all_step h aT r) aT1 (fun x hx => a x (List.mem_cons_of_mem _ hx)) (ins_ech E r)
      (fun v => (ins_sp E r v).trans (sp_app aT (fun x hx => by rw [List.mem_singleton.mp hx]; exact r) hs v E.ris)) ?_
    have hi : w ∈ f ↔ red found w = [] := by rw [h.mem, red_iff E r, hs]
    unfold allStep ins
    by_cases c : w ∈ f
    · rw [if_pos c, if_pos (hi.mp c)]; exact hl
    · rw [if_neg c, if_neg fun z => c (hi.mpr z), List.length_append, List.length_map, List.length_append, List.length_map, hl, List.length_singleton, Nat.pow_succ]
      omega
theorem allW_len {ws : List Wd} (a : All ws) : (allW ws).length = 2 ^ (baseL ws).length :=
  all_len ws [[]] [] [] all_ok0 (fun _ h => absurd h List.not_mem_nil) a ech_nil (fun _ => Iff.rfl) rfl
/-! the base among all sums -/
def firsts (every : List Wd) : List Int := ((every.filter fun v => !v.isEmpty).map hd).foldr insI []
def due (every : List Wd) : List Wd := (firsts every).flatMap fun k => every.filter fun v => !v.isEmpty && hd v == k && ((v.drop 1).filter fun m => (firsts every).contains m).isEmpty
theorem mem_firsts {every : List Wd} {k : Int} : k ∈ firsts every ↔ ∃ v ∈ every, v ≠ [] ∧ hd v = k := by
  unfold firsts
  rw [mem_fold, List.mem_map]
  constructor
  · rintro ⟨v, hv, e⟩
    rw [List.mem_filter] at hv
    exact ⟨v, hv.1, by simpa using hv.2, e⟩
  · rintro ⟨v, hv, n, e⟩
    exact ⟨v, List.mem_filter.mpr ⟨hv, by simpa using n⟩, e⟩
theorem nodup_flat {α β : Type} {f : α → List β} : ∀ {l : List α}, (∀ a ∈ l, (f a).Nodup) → l.Pairwise (fun a b => ∀ x ∈ f a, ¬ x ∈ f b) → (l.flatMap f).Nodup
  | [], _, _ => List.Pairwise.nil
  | a :: l, h, p => by
    rw [List.flatMap_cons]
    obtain ⟨p1, p2⟩ := List.pairwise_cons.mp p
    refine List.nodup_append.mpr ⟨h a List.mem_cons_self, nodup_flat (fun b hb => h b (List.mem_cons_of_mem _ hb)) p2, fun x hx y hy e => ?_⟩
    subst e
    obtain ⟨b, hb, hx2⟩ := List.mem_flatMap.mp hy
    exact p1 b hb x hx hx2
theorem tail_gt {v : Wd} (r : Rs v) {m : Int} (h : m ∈ v.drop 1) : hd v < m := by
  cases v with
  | nil => exact absurd h List.not_mem_nil
  | cons x l => exact (List.pairwise_cons.mp r).1 m h
theorem mem_tail {v : Wd} {m : Int} (h : m ∈ v) (n : m ≠ hd v) : m ∈ v.drop 1 := by
  cases v with
  | nil => exact absurd h List.not_mem_nil
  | cons x l =>
    rcases List.mem_cons.mp h with e | e
    · exact absurd e n
    · exact e
theorem due_perm {every ws : List Wd} (h : AllOk every ws) (a : All ws) {B : List Wd} (E : Ech B) (hB : ∀ v, Sp B v ↔ Sp ws v) : (due every).Perm B := by
  have hF : ∀ k, k ∈ firsts every ↔ ∃ r ∈ B, hd r = k := fun k => by
    rw [mem_firsts]
    constructor
    · rintro ⟨v, hv, n, e⟩
      obtain ⟨r, hr, e2⟩ := sp_hd E ((hB v).mpr ((h.mem v).mp hv)) n
      exact ⟨r, hr, e2.trans e⟩
    · rintro ⟨r, hr, e⟩
      exact ⟨r, (h.mem r).mpr ((hB r).mp (.own hr (E.ris r hr))), E.ne r hr, e⟩
  refine (List.perm_ext_iff_of_nodup ?_ (ech_nodup E)).mpr fun v => ?_
  · refine nodup_flat (fun k _ => h.nd.filter _) ((ris_nodup (fold_ris _)).imp fun {x y} ne v hx hy => ?_)
    rw [List.mem_filter] at hx hy
    have h1 := hx.2
    have h2 := hy.2
    simp only [Bool.and_eq_true, beq_iff_eq] at h1 h2
    exact ne (h1.1.2.symm.trans h2.1.2)
  · unfold due
    rw [List.mem_flatMap]
    constructor
    · rintro ⟨k, hk, hv⟩
      rw [List.mem_filter] at hv
      obtain ⟨hv1, hv2⟩ := hv
      simp only [Bool.and_eq_true, beq_iff_eq, Bool.not_eq_true', List.isEmpty_eq_false_iff, List.isEmpty_iff, List.filter_eq_nil_iff, List.contains_iff_mem] at hv2
      obtain ⟨⟨n, e⟩, t⟩ := hv2
      refine ech_one E ((hB v).mpr ((h.mem v).mp hv1)) n fun r hr hm => ?_
      apply Classical.byContradiction
      intro z
      exact t _ (mem_tail hm z) ((hF _).mpr ⟨r, hr, rfl⟩)
    · intro hv
      refine ⟨hd v, (hF _).mpr ⟨v, hv, rfl⟩, List.mem_filter.mpr ⟨(h.mem v).mpr ((hB v).mp (.own hv (E.ris v hv))), ?_⟩⟩
      simp only [Bool.and_eq_true, beq_iff_eq, Bool.not_eq_true', List.isEmpty_eq_false_iff, List.isEmpty_iff, List.filter_eq_nil_iff, List.contains_iff_mem]
      refine ⟨⟨E.ne v hv, trivial⟩, fun m hm hf => ?_⟩
      obtain ⟨r, hr, e⟩ := (hF m).mp hf
      have lt := tail_gt (E.ris v hv) hm
      have := ech_hd E hr hv (by rw [e]; exact List.mem_of_mem_drop hm)
      rw [this] at e
      omega
/-! sorting -/
def srtW (ls : List Wd) : List Wd := ls.mergeSort fun a b => !decide (b < a)
theorem srt_perm (ls : List Wd) : (srtW ls).Perm ls := List.mergeSort_perm _ _
theorem le_iff {a b : Wd} : (!decide (b < a)) = true ↔ a ≤ b := by simp [List.not_lt]
theorem srt_sorted (ls : List Wd) : (srtW ls).Pairwise (· ≤ ·) := by
  have := List.pairwise_mergeSort (le := fun a b : Wd => !decide (b < a)) (fun a b c h1 h2 => by
    rw [le_iff] at h1 h2 ⊢
    exact List.le_trans h1 h2) (fun a b => by
    rw [Bool.or_eq_true, le_iff, le_iff]
    exact List.le_total a b) ls
  exact this.imp fun h => le_iff.mp h
theorem srt_eq {a b : List Wd} (h : a.Perm b) : srtW a = srtW b :=
  List.Perm.eq_of_pairwise (le := (· ≤ ·)) (fun x y _ _ h1 h2 => List.le_antisymm h1 h2) (srt_sorted a) (srt_sorted b) ((srt_perm a).trans (h.trans (srt_perm b).symm))
def baseOf (ws : List Wd) : List Wd := srtW (baseL ws)
theorem ech_of_perm {A B : List Wd} (h : A.Perm B) (E : Ech A) : Ech B :=
  ⟨fun r hr => E.ris r (h.mem_iff.mpr hr), fun r hr => E.ne r (h.mem_iff.mpr hr), (h.pairwise_iff fun {x y} z => ⟨z.2, z.1⟩).mp E.ap⟩
theorem sp_of_mem {A B : List Wd} (a : All A) (b : All B) (h : ∀ w, w ∈ A ↔ w ∈ B) (v : Wd) : Sp A v ↔ Sp B v :=
  ⟨fun q => q.sub a fun w hw => (h w).mp hw, fun q => q.sub b fun w hw => (h w).mpr hw⟩
theorem bo_ech {ws : List Wd} (a : All ws) : Ech (baseOf ws) := ech_of_perm (srt_perm _).symm (base_ech a)
theorem bo_sp {ws : List Wd} (a : All ws) (v : Wd) : Sp (baseOf ws) v ↔ Sp ws v :=
  (sp_of_mem (bo_ech a).ris (base_ech a).ris (fun w => (srt_perm _).mem_iff) v).trans (base_sp a v)
theorem bo_len (ws : List Wd) : (baseOf ws).length = (baseL ws).length := (srt_perm _).length_eq
/-- one base for what is made -/
theorem bo_eq {A B : List Wd} (a : All A) (b : All B) (h : ∀ v, Sp A v ↔ Sp B v) : baseOf A = baseOf B :=
  srt_eq (ech_perm (base_ech a) (base_ech b) fun v => (base_sp a v).trans ((h v).trans (base_sp b v).symm))
theorem bo_due {ws : List Wd} (a : All ws) : srtW (due (allW ws)) = baseOf ws := srt_eq (due_perm (all_ok a) a (base_ech a) (base_sp a))
def mkB (ws : List Wd) (w : Wd) : Bool := (red (baseOf ws) w).isEmpty
theorem mk_iff {ws : List Wd} (a : All ws) {w : Wd} (r : Rs w) : mkB ws w = true ↔ Sp ws w := by
  unfold mkB
  rw [List.isEmpty_iff, red_iff (bo_ech a) r, bo_sp a]
end Vs
set_option Elab.async false
set_option linter.all false
set_option maxRecDepth 10000
/-! Vs3: words as data. -/
namespace Vs
open Ev PySem
def dW (w : Wd) : D := .tuple (w.map .int)
def dL (ws : List Wd) : List D := ws.map dW
@[simp] theorem dL_len {ws : List Wd} : (dL ws).length = ws.length := List.length_map _
theorem dL_nil : dL [] = [] := rfl
theorem dL_cons (w : Wd) (ws : List Wd) : dL (w :: ws) = dW w :: dL ws := rfl
theorem dL_app (a b : List Wd) : dL (a ++ b) = dL a ++ dL b := List.map_append
theorem mem_dL {ws : List Wd} {d : D} : d ∈ dL ws ↔ ∃ w ∈ ws, dW w = d := List.mem_map
theorem eqv_int {a b : Int} : PyData.eqv (.int a) (.int b) = decide (a = b) := by rw [PyData.eqv]; rfl
theorem eqv_all : ∀ a b : Wd, PyData.eqvAll (a.map .int) (b.map .int) = decide (a = b)
  | [], [] => by simp [PyData.eqvAll]
  | [], y :: b => by simp [PyData.eqvAll]
  | x :: a, [] => by simp [PyData.eqvAll]
  | x :: a, y :: b => by
    rw [List.map_cons, List.map_cons, PyData.eqvAll, eqv_all a b, eqv_int]
    by_cases h1 : x = y <;> by_cases h2 : a = b <;> simp [h1, h2]
theorem eqv_w (a b : Wd) : PyData.eqv (dW a) (dW b) = decide (a = b) := by
  unfold dW
  rw [PyData.eqv, eqv_all]
theorem eqv_ws : ∀ a b : List Wd, PyData.eqvAll (dL a) (dL b) = decide (a = b)
  | [], [] => by simp [PyData.eqvAll, dL_nil]
  | [], y :: b => by simp [PyData.eqvAll, dL_nil, dL_cons]
  | x :: a, [] => by simp [PyData.eqvAll, dL_nil, dL_cons]
  | x :: a, y :: b => by
    rw [dL_cons, dL_cons, PyData.eqvAll, eqv_ws a b, eqv_w]
    by_cases h1 : x = y <;> by_cases h2 : a = b <;> simp [h1, h2]
theorem lay_ints : ∀ ns : List Int, PyData.canLayAll0 (ns.map .int) = true ∧ PyData.depthAll (ns.map .int) = 0
  | [] => ⟨rfl, rfl⟩
  | n :: ns => by
    obtain ⟨h1, h2⟩ := lay_ints ns
    simp [PyData.canLayAll0, PyData.canLay0, PyData.depthAll, PyData.depth, h1, h2]
theorem lay_w (w : Wd) : PyData.canLay0 (dW w) = true ∧ PyData.depth (dW w) = 1 := by
  obtain ⟨h1, h2⟩ := lay_ints w
  simp [dW, PyData.canLay0, PyData.depth, h1, h2]
theorem lay_ws : ∀ ws : List Wd, PyData.canLayAll0 (dL ws) = true ∧ PyData.depthAll (dL ws) ≤ 1
  | [] => ⟨rfl, Nat.zero_le _⟩
  | w :: ws => by
    obtain ⟨h1, h2⟩ := lay_ws ws
    obtain ⟨h3, h4⟩ := lay_w w
    rw [dL_cons]
    refine ⟨by simp [PyData.canLayAll0, h1, h3], ?_⟩
    simp only [PyData.depthAll, h4]
    omega
theorem shp_w (w : Wd) : shp (dW w) = true := by
  obtain ⟨h3, h4⟩ := lay_w w
  simp [shp, SeqAt.shaped, h3, h4]
theorem shp_ints (ns : List Int) : shp (.list (ns.map .int)) = true := by
  obtain ⟨h1, h2⟩ := lay_ints ns
  simp [shp, SeqAt.shaped, PyData.canLay0, PyData.depth, h1, h2]
theorem shp_l (ws : List Wd) : shp (.list (dL ws)) = true := by
  obtain ⟨h1, h2⟩ := lay_ws ws
  simp only [shp, SeqAt.shaped, PyData.canLay0, PyData.depth, h1, Bool.true_and]
  exact decide_eq_true (by omega)
theorem shp_t (ws : List Wd) : shp (.tuple (dL ws)) = true := by
  obtain ⟨h1, h2⟩ := lay_ws ws
  simp only [shp, SeqAt.shaped, PyData.canLay0, PyData.depth, h1, Bool.true_and]
  exact decide_eq_true (by omega)
theorem eq_w (a b : Wd) : eqD (dW a) (dW b) = some (decide (a = b)) := by rw [eq_of (shp_w a) (shp_w b), eqv_w]
theorem eq_w0 (a : Wd) : eqD (dW a) (.tuple []) = some a.isEmpty := by
  have := eq_w a []
  rw [show dW [] = .tuple [] from rfl] at this
  rw [this]
  cases a <;> simp
theorem eq_ws (a b : List Wd) : eqD (.tuple (dL a)) (.tuple (dL b)) = some (decide (a = b)) := by
  rw [eq_of (shp_t a) (shp_t b), PyData.eqv, eqv_ws]
theorem eq_l0 (a : List Wd) : eqD (.list (dL a)) (.list []) = some a.isEmpty := by
  rw [eq_of (shp_l a) (show shp (.list []) = true from rfl), PyData.eqv]
  cases a <;> simp [PyData.eqvAll, dL_nil, dL_cons]
theorem eq_i0 (ns : List Int) : eqD (.list (ns.map .int)) (.list []) = some ns.isEmpty := by
  rw [eq_of (shp_ints ns) (show shp (.list []) = true from rfl), PyData.eqv]
  cases ns <;> simp [PyData.eqvAll]
theorem in_w (k : Int) (w : Wd) : inD (.int k) (dW w) = some (decide (k ∈ w)) := by
  show (if shp (.int k) = true ∧ shp (dW w) = true then some ((w.map PyData.int).any fun y => PyData.eqv y (.int k)) else none) = _
  rw [if_pos ⟨sh_int, shp_w w⟩]
  congr 1
  induction w with
  | nil => simp
  | cons x w ih =>
    rw [List.map_cons, List.any_cons, ih, eqv_int]
    by_cases h1 : x = k <;> by_cases h2 : k ∈ w <;> simp [h1, h2, eq_comm]
    all_goals (intro z; exact h1 z.symm)
theorem in_i (k : Int) (w : List Int) : inD (.int k) (.list (w.map .int)) = some (decide (k ∈ w)) := by
  have := in_w k w
  have e : (if shp (.int k) = true ∧ shp (dW w) = true then some ((w.map PyData.int).any fun y => PyData.eqv y (.int k)) else none) = some (decide (k ∈ w)) := this
  rw [if_pos ⟨sh_int, shp_w w⟩] at e
  show (if shp (.int k) = true ∧ shp (.list (w.map .int)) = true then some ((w.map PyData.int).any fun y => PyData.eqv y (.int k)) else none) = _
  rw [if_pos ⟨sh_int, shp_ints w⟩, e]
theorem any_ws (v : Wd) : ∀ ws : List Wd, ((dL ws).any fun y => PyData.eqv y (dW v)) = decide (v ∈ ws)
  | [] => by simp [dL_nil]
  | x :: ws => by
    rw [dL_cons, List.any_cons, any_ws v ws, eqv_w]
    by_cases h1 : x = v <;> by_cases h2 : v ∈ ws <;> simp [h1, h2]
    all_goals (intro z; exact h1 z.symm)
theorem in_l (v : Wd) (ws : List Wd) : inD (dW v) (.list (dL ws)) = some (decide (v ∈ ws)) := by
  show (if shp (dW v) = true ∧ shp (.list (dL ws)) = true then some ((dL ws).any fun y => PyData.eqv y (dW v)) else none) = _
  rw [if_pos ⟨shp_w v, shp_l ws⟩, any_ws]
theorem in_t (v : Wd) (ws : List Wd) : inD (dW v) (.tuple (dL ws)) = some (decide (v ∈ ws)) := by
  show (if shp (dW v) = true ∧ shp (.tuple (dL ws)) = true then some ((dL ws).any fun y => PyData.eqv y (dW v)) else none) = _
  rw [if_pos ⟨shp_w v, shp_t ws⟩, any_ws]
theorem at0 {x : D} {r : List D} : L2.atI (x :: r) 0 = some x := by
  have h : L2.atI (x :: r) ((0 : Nat) : Int) = some x := L2.atI_nat rfl
  exact h
theorem at_hd {w : Wd} (h : w ≠ []) : L2.atI (w.map PyData.int) 0 = some (.int (hd w)) := by
  cases w with
  | nil => exact absurd rfl h
  | cons x l => exact at0
theorem ints_map : ∀ ns : List Int, intsL (ns.map .int) = some ns
  | [] => rfl
  | n :: ns => by
    rw [List.map_cons]
    show (intsL (ns.map .int)).map (n :: ·) = _
    rw [ints_map ns]
    rfl
theorem ints_w {w : Wd} (h : w.length < 64) : intsT (dW w) = some w := by
  show (intsL (w.map .int)).bind _ = _
  rw [ints_map]
  exact if_pos h
/-! sorting -/
theorem lt_w (a b : Wd) : W.dataLt (dW a) (dW b) = decide (a < b) := by
  rw [← W.dataLt_ints, dW, dW, W.dataLt_tuple]
  rfl
theorem sortD_ws (ws : List Wd) : sortD (dL ws) = dL (srtW ws) := by
  unfold sortD srtW
  rw [dL, dL, List.map_mergeSort]
  intro a _ b _
  rw [lt_w]
theorem alike_all : ∀ a b : Wd, W.alikeAll (a.map .int) (b.map .int) = true
  | [], b => by simp [W.alikeAll]
  | x :: a, [] => by simp [W.alikeAll]
  | x :: a, y :: b => by
    rw [List.map_cons, List.map_cons, W.alikeAll, alike_all a b]
    simp [W.alike]
theorem alike_w (a b : Wd) : W.alike (dW a) (dW b) = true := by
  rw [dW, dW, W.alike]
  exact alike_all a b
theorem allAlike_ws (ws : List Wd) : allAlike (dL ws) = true := by
  unfold allAlike
  rw [List.all_eq_true]
  intro d hd
  obtain ⟨a, _, rfl⟩ := mem_dL.mp hd
  rw [List.all_eq_true]
  intro e he
  obtain ⟨b, _, rfl⟩ := mem_dL.mp he
  exact alike_w a b
theorem depth_ws (ws : List Wd) : ((dL ws).all fun d => decide (d.depth ≤ 60)) = true := by
  rw [List.all_eq_true]
  intro d hd
  obtain ⟨a, _, rfl⟩ := mem_dL.mp hd
  rw [(lay_w a).2]
  decide
theorem sortable_ws {ws : List Wd} (h : ∀ w ∈ ws, w ≠ []) : sortable (dL ws) = true := by
  unfold sortable
  rw [Bool.or_eq_true, Bool.or_eq_true]
  left
  left
  rw [List.all_eq_true]
  intro d hd
  obtain ⟨a, ha, rfl⟩ := mem_dL.mp hd
  cases a with
  | nil => exact absurd rfl (h _ ha)
  | cons x l => rfl
theorem sorted_ws {ws : List Wd} (h : ∀ w ∈ ws, w ≠ []) : bi .sorted [.list (dL ws)] = some (.fresh (.lst (dL (srtW ws)))) := by
  show (if allAlike (dL ws) = true ∧ sortable (dL ws) = true ∧ ((dL ws).all fun d => decide (d.depth ≤ 60)) = true then some (R.fresh (.lst (sortD (dL ws)))) else none) = _
  rw [if_pos ⟨allAlike_ws ws, sortable_ws h, depth_ws ws⟩, sortD_ws]
theorem sortD_ints {ns : List Int} (h : ns.Nodup) : sortD (ns.map .int) = (ns.foldr insI []).map .int := by
  unfold sortD
  have e : (ns.map PyData.int).mergeSort (fun a b => !W.dataLt b a) = (ns.mergeSort fun a b => !decide (b < a)).map .int := by
    rw [List.map_mergeSort]
    intro a _ b _
    rw [W.dataLt_int]
  rw [e]
  congr 1
  have p := List.mergeSort_perm ns fun a b => !decide (b < a)
  have s := List.pairwise_mergeSort (le := fun a b : Int => !decide (b < a)) (fun a b c h1 h2 => by simp at *; omega) (fun a b => by simp; omega) ns
  refine ris_one ?_ (fold_ris ns) fun k => by rw [p.mem_iff, mem_fold]
  have nd : (ns.mergeSort fun a b => !decide (b < a)).Nodup := p.nodup_iff.mpr h
  refine (s.and nd).imp fun {a b} q => ?_
  obtain ⟨q1, q2⟩ := q
  simp at q1
  omega
theorem sorted_ints {ns : List Int} (h : ns.Nodup) : bi .sorted [.list (ns.map .int)] = some (.fresh (.lst ((ns.foldr insI []).map .int))) := by
  show (if allAlike (ns.map .int) = true ∧ sortable (ns.map .int) = true ∧ ((ns.map PyData.int).all fun d => decide (d.depth ≤ 60)) = true then some (R.fresh (.lst (sortD (ns.map .int)))) else none) = _
  have a1 : allAlike (ns.map .int) = true := by
    unfold allAlike
    simp [W.alike]
  have a2 : sortable (ns.map .int) = true := by
    unfold sortable
    simp
  have a3 : ((ns.map PyData.int).all fun d => decide (d.depth ≤ 60)) = true := by simp [PyData.depth]
  rw [if_pos ⟨a1, a2, a3⟩, sortD_ints h]
theorem ssl_ints {ns : List Int} (h : (ns.foldr insI []).length < 64) (h2 : ns.length ≤ 4000) : sslD (.list (ns.map .int)) = some (.fresh (.lst ((ns.foldr insI []).map .int))) := by
  show (intsL (ns.map .int)).bind _ = _
  rw [ints_map]
  exact if_pos ⟨h, h2⟩
theorem sym_app {a b : Wd} (ha : Rs a) (hb : Rs b) : ((a.filter fun k => !b.contains k) ++ b.filter fun k => !a.contains k).Nodup := by
  refine List.nodup_append.mpr ⟨(ris_nodup ha).filter _, (ris_nodup hb).filter _, fun x hx y hy e => ?_⟩
  subst e
  rw [List.mem_filter] at hx hy
  have := hx.2
  simp [hy.1] at this
/-- words of these meetings -/
def U13 : List Int := [0, 1, 2, 3, 4, 5, 6, 7, 8, 9, 10, 11, 12, 10 ^ 59]
structure Wk (w : Wd) : Prop where
  ris : Rs w
  sub : ∀ k ∈ w, k ∈ U13
theorem nodup_le {a b : List Int} (h : a.Nodup) (hs : ∀ k ∈ a, k ∈ b) : a.length ≤ b.length := by
  induction a generalizing b with
  | nil => exact Nat.zero_le _
  | cons x a ih =>
    obtain ⟨h1, h2⟩ := List.nodup_cons.mp h
    have hx := hs x List.mem_cons_self
    have := ih (b := b.erase x) h2 fun k hk => by
      rw [List.mem_erase_of_ne]
      · exact hs k (List.mem_cons_of_mem _ hk)
      · intro e
        subst e
        exact h1 hk
    rw [List.length_erase_of_mem hx] at this
    have : 0 < b.length := List.length_pos_of_mem hx
    rw [List.length_cons]
    omega
theorem Wk.len {w : Wd} (h : Wk w) : w.length ≤ 14 := nodup_le (ris_nodup h.ris) h.sub
theorem Wk.sum {a b : Wd} (ha : Wk a) (hb : Wk b) : Wk (symI a b) := ⟨r_sym _ _, fun k hk => by
  have := m_sym.mp hk
  by_cases c : k ∈ a
  · exact ha.sub k c
  · apply hb.sub
    apply Classical.byContradiction
    intro z
    exact c (this.mpr z)⟩
theorem wk_nil : Wk [] := ⟨r_nil, fun _ h => absurd h List.not_mem_nil⟩
def Ws (ws : List Wd) : Prop := ∀ w ∈ ws, Wk w
theorem Ws.all {ws : List Wd} (h : Ws ws) : All ws := fun w hw => (h w hw).ris
theorem wk_st {r e : Wd} (hr : Wk r) (he : Wk e) : Wk (st r e) := by
  unfold st
  split
  · exact he.sum hr
  · exact he
theorem wk_red : ∀ {rows : List Wd} {e : Wd}, Ws rows → Wk e → Wk (red rows e)
  | [], _, _, h => h
  | r :: rs, e, hr, h => wk_red (rows := rs) (fun x hx => hr x (List.mem_cons_of_mem _ hx)) (wk_st (hr r List.mem_cons_self) h)
theorem ws_ins {found : List Wd} {e : Wd} (h : Ws found) (he : Wk e) : Ws (ins found e) := by
  unfold ins
  have hr := wk_red h he
  split
  · exact h
  · intro x hx
    rcases List.mem_append.mp hx with y | y
    · obtain ⟨own, ho, rfl⟩ := List.mem_map.mp y
      split
      · exact (h own ho).sum hr
      · exact h own ho
    · rw [List.mem_singleton.mp y]; exact hr
theorem ws_fold : ∀ {ws found : List Wd}, Ws found → Ws ws → Ws (ws.foldl ins found)
  | [], _, h, _ => h
  | w :: ws, _, h, a => ws_fold (ws := ws) (ws_ins h (a w List.mem_cons_self)) fun x hx => a x (List.mem_cons_of_mem _ hx)
theorem ws_base {ws : List Wd} (a : Ws ws) : Ws (baseL ws) := ws_fold (fun _ h => absurd h List.not_mem_nil) a
theorem ws_bo {ws : List Wd} (a : Ws ws) : Ws (baseOf ws) := fun w hw => ws_base a w ((srt_perm _).mem_iff.mp hw)
theorem ws_step {f : List Wd} {w : Wd} (h : Ws f) (hw : Wk w) : Ws (allStep f w) := by
  unfold allStep
  split
  · exact h
  · intro x hx
    rcases List.mem_append.mp hx with y | y
    · exact h x y
    · obtain ⟨v, hv, rfl⟩ := List.mem_map.mp y
      exact hw.sum (h v hv)
theorem ws_allF : ∀ {ws f : List Wd}, Ws f → Ws ws → Ws (ws.foldl allStep f)
  | [], _, h, _ => h
  | w :: ws, _, h, a => ws_allF (ws := ws) (ws_step h (a w List.mem_cons_self)) fun x hx => a x (List.mem_cons_of_mem _ hx)
theorem ws_all {ws : List Wd} (a : Ws ws) : Ws (allW ws) := ws_allF (fun x hx => by rw [List.mem_singleton.mp hx]; exact wk_nil) a
/-- no base of more than thirteen -/
theorem ech_len {rows : List Wd} (E : Ech rows) (h : Ws rows) : rows.length ≤ 14 := by
  have nd : (rows.map hd).Nodup := by
    refine List.pairwise_map.mpr (List.Pairwise.imp_of_mem ?_ E.ap)
    intro a b ha hb hab e
    exact hab.1 (by rw [e]; exact hd_mem (E.ne b hb))
  have := nodup_le (b := U13) nd fun k hk => by
    obtain ⟨r, hr, rfl⟩ := List.mem_map.mp hk
    exact (h r hr).sub _ (hd_mem (E.ne r hr))
  rwa [List.length_map] at this
end Vs
set_option Elab.async false
set_option linter.all false
set_option maxRecDepth 10000
set_option exponentiation.threshold 9000
/-! Vs4: for the walks: slots, comprehensions whose turns leave all as it was. -/
namespace Vs
open Ev PySem
/-- a slot that a loop may put its name into -/
def nm (s : Sl) : Prop := s = .un ∨ (∃ d, s = .fz d) ∨ ∃ d, s = .bo d
theorem nm_un : nm .un := .inl rfl
theorem nm_fz {d : D} : nm (.fz d) := .inr (.inl ⟨d, rfl⟩)
theorem nm_bo {d : D} : nm (.bo d) := .inr (.inr ⟨d, rfl⟩)
theorem nm_slP {s : Sl} (h : nm s) {q : Option Ev.Env} : slP (some s) q = q := by
  rcases h with rfl | ⟨d, rfl⟩ | ⟨d, rfl⟩ <;> rfl
theorem nm_slW {s : Sl} (h : nm s) {q : Option Ev.Env} : slW (some s) q = q := by
  rcases h with rfl | ⟨d, rfl⟩ | ⟨d, rfl⟩ <;> rfl
/-- a slot that says d -/
def vl (s : Sl) (d : D) : Prop := s = .fz d ∨ s = .bo d
theorem vl_fz {d : D} : vl (.fz d) d := .inl rfl
theorem vl_bo {d : D} : vl (.bo d) d := .inr rfl
theorem vl_nm {s : Sl} {d : D} (h : vl s d) : nm s := by
  rcases h with rfl | rfl
  · exact nm_fz
  · exact nm_bo
theorem vl_sl {s : Sl} {d : D} (h : vl s d) (hl : isL d = false) {i : Nat} {e : Ev.Env} : slR i e (some s) = .ok (.val d) e := by
  rcases h with rfl | rfl
  · rfl
  · show (if isL d = true then _ else _) = _
    rw [hl]
    rfl
@[simp] theorem z_slW' {w : Wd} {i : Nat} {e : Ev.Env} : slR i e (some (.bo (dW w))) = .ok (.val (dW w)) e := rfl
section
variable {α : Type} {enc : α → D} {turn : D → Ev.Env → Res (Option D)} {f : α → Option D} {e e1 e2 e3 e4 : Ev.Env} {own : List Nat} {i : Nat} {ds : List D}
theorem lc_pure : ∀ {l : List α}, (∀ a ∈ l, turn (enc a) e = .ok (f a) e) → lcGo turn (l.map enc) e = .ok (l.filterMap f) e
  | [], _ => rfl
  | a :: l, h => by
    rw [List.map_cons]
    unfold lcGo
    rw [h a List.mem_cons_self, bind_ok, lc_pure fun b hb => h b (List.mem_cons_of_mem _ hb), bind_ok, List.filterMap_cons]
    cases f a <;> rfl
theorem lcN_pure {l : List α} {t : Bool} (hs : e[i]? = some (.mu t true (.lst (l.map enc)))) (hb : l.length < 1000000) (h : ∀ a ∈ l, turn (enc a) e = .ok (f a) e) : lcGoN turn (itemAt i false) 1000000 0 e = .ok (l.filterMap f) e := by
  have main : ∀ n k, k ≤ l.length → l.length < n + k → lcGoN turn (itemAt i false) n k e = .ok ((l.drop k).filterMap f) e := by
    intro n
    induction n with
    | zero => intro k h1 h2; omega
    | succ n ih =>
      intro k h1 h2
      have hit : itemAt i false k e = some (l.map enc)[k]? := by unfold itemAt; rw [hs]; rfl
      unfold lcGoN
      rw [hit]
      by_cases hk : k < l.length
      · rw [List.getElem?_map, List.getElem?_eq_getElem hk, List.drop_eq_getElem_cons hk, List.filterMap_cons]
        show (turn (enc l[k]) e).bind _ = _
        rw [h _ (List.getElem_mem hk), bind_ok, ih (k + 1) (by omega) (by omega), bind_ok]
        cases f l[k] <;> rfl
      · rw [List.getElem?_eq_none_iff.mpr (by rw [List.length_map]; omega), List.drop_of_length_le (by omega)]
        rfl
  exact main 1000000 0 (Nat.zero_le _) (by omega)
theorem lcR_slot (h1 : lockE i e = some e1) (h2 : wipeE e1 own = some e2) (h3 : lcGoN turn (itemAt i false) 1000000 0 e2 = .ok ds e3) (h4 : unlockE i e (backE e1 e3 own) = some e4) : lcRun own turn (.slot i false) e = .ok ds e4 := by
  show (match lockE i e with
    | none => .bad
    | some e1 => match wipeE e1 own with
      | none => .bad
      | some e2 => (lcGoN turn (itemAt i false) 1000000 0 e2).bind fun ds e3 => (ofO (unlockE i e (backE e1 e3 own)) e3).bind fun e4 _ => .ok ds e4 : Res (List D)) = _
  rw [h1]
  show (match wipeE e1 own with
    | none => .bad
    | some e2 => (lcGoN turn (itemAt i false) 1000000 0 e2).bind fun ds e3 => (ofO (unlockE i e (backE e1 e3 own)) e3).bind fun e4 _ => .ok ds e4 : Res (List D)) = _
  rw [h2]
  show (lcGoN turn (itemAt i false) 1000000 0 e2).bind _ = _
  rw [h3, bind_ok, h4]
  rfl
end
theorem cat_l {xs ys : List D} (h : xs.length + ys.length ≤ big) : bop .Add (.list xs) (.list ys) = some (.fresh (.lst (xs ++ ys))) := if_pos h
theorem cat_t {xs ys : List D} (h : xs.length + ys.length ≤ big) : bop .Add (.tuple xs) (.tuple ys) = some (.val (.tuple (xs ++ ys))) := if_pos h
theorem filterMap_some {α β : Type} (g : α → β) : ∀ l : List α, l.filterMap (fun a => some (g a)) = l.map g
  | [] => rfl
  | a :: l => by rw [List.filterMap_cons, filterMap_some g l]; rfl
theorem filterMap_if {α β : Type} (p : α → Bool) (g : α → β) : ∀ l : List α, l.filterMap (fun a => if p a = true then some (g a) else none) = (l.filter p).map g
  | [] => rfl
  | a :: l => by
    rw [List.filterMap_cons, List.filter_cons, filterMap_if p g l]
    cases p a <;> rfl
/-- a slot that may be assigned to -/
def nq (s : Sl) : Prop := nm s ∨ ∃ c, s = .mu false false c
theorem nq_slP {s : Sl} (h : nq s) {q : Option Ev.Env} : slP (some s) q = q := by
  rcases h with h | ⟨c, rfl⟩
  · exact nm_slP h
  · rfl
theorem nq_nm {s : Sl} (h : nm s) : nq s := .inl h
theorem nq_mu {c : C} : nq (.mu false false c) := .inr ⟨c, rfl⟩
theorem cut_take {α : Type} {xs : List α} (n : Nat) : cutD xs none (some (n : Int)) = xs.take n := by
  unfold cutD
  have e1 : HT.sIx xs.length 0 none = 0 := rfl
  have e2 : HT.sIx xs.length xs.length (some (n : Int)) = min n xs.length := by
    show (if (n : Int) < 0 then ((n : Int) + xs.length).toNat else min (n : Int).toNat xs.length) = _
    rw [if_neg (by omega)]
    rfl
  rw [e1, e2, Nat.sub_zero, List.drop_zero]
  by_cases h : n ≤ xs.length
  · rw [Nat.min_eq_left h]
  · rw [Nat.min_eq_right (by omega), List.take_of_length_le (Nat.le_refl _), List.take_of_length_le (by omega)]
theorem cut_drop {α : Type} {xs : List α} (n : Nat) : cutD xs (some (n : Int)) none = xs.drop n := by
  unfold cutD
  have e1 : HT.sIx xs.length 0 (some (n : Int)) = min n xs.length := by
    show (if (n : Int) < 0 then ((n : Int) + xs.length).toNat else min (n : Int).toNat xs.length) = _
    rw [if_neg (by omega)]
    rfl
  have e2 : HT.sIx xs.length xs.length none = xs.length := rfl
  rw [e1, e2]
  by_cases h : n ≤ xs.length
  · rw [Nat.min_eq_left h, List.take_of_length_le (by rw [List.length_drop]; omega)]
  · rw [Nat.min_eq_right (by omega), List.drop_of_length_le (Nat.le_refl _), List.drop_of_length_le (by omega)]
    simp
theorem take_t {ws : List Wd} (n : Nat) : sop (.tuple (dL ws)) none (some (n : Int)) = some (.val (.tuple (dL (ws.take n)))) := by
  show some (R.val (PyData.tuple (cutD (dL ws) none (some (n : Int))))) = _
  rw [cut_take, dL, dL, List.map_take]
theorem drop_t {ws : List Wd} (n : Nat) : sop (.tuple (dL ws)) (some (n : Int)) none = some (.val (.tuple (dL (ws.drop n)))) := by
  show some (R.val (PyData.tuple (cutD (dL ws) (some (n : Int)) none))) = _
  rw [cut_drop, dL, dL, List.map_drop]
theorem rev_t {ws : List Wd} : revD (.tuple (dL ws)) = some (.val (.tuple (dL ws.reverse))) := by
  show some (R.val (PyData.tuple (dL ws).reverse)) = _
  rw [dL, dL, List.map_reverse]
theorem add_t {a b : List Wd} (h : a.length + b.length ≤ big) : bop .Add (.tuple (dL a)) (.tuple (dL b)) = some (.val (.tuple (dL (a ++ b)))) := by
  rw [cat_t (by simpa using h), dL_app]
theorem add_l {a b : List Wd} (h : a.length + b.length ≤ big) : bop .Add (.list (dL a)) (.list (dL b)) = some (.fresh (.lst (dL (a ++ b)))) := by
  rw [cat_l (by simpa using h), dL_app]
theorem srt_val {Y Z : List Wd} (hp : Y.Perm Z) (hs : Z.Pairwise (· ≤ ·)) : srtW Y = Z := by
  rw [srt_eq hp]
  exact List.mergeSort_of_pairwise (hs.imp fun h => le_iff.mpr h)
theorem sm_int {n : Nat} {i : Int} (h : i.natAbs < 2 ^ 1000) : sm n (.int i) = true := by
  cases n <;> simpa [sm] using h
theorem u_small {k : Int} (h : k ∈ U13) : k.natAbs < 2 ^ 1000 := by
  have : (U13.all fun k => decide (k.natAbs < 2 ^ 1000)) = true := by decide +kernel
  exact of_decide_eq_true (List.all_eq_true.mp this k h)
theorem sm_w {n : Nat} {w : Wd} (h : Wk w) : sm (n + 1) (dW w) = true := by
  show (decide ((w.map PyData.int).length ≤ 16) && (w.map PyData.int).all (sm n)) = true
  rw [Bool.and_eq_true]
  refine ⟨decide_eq_true (by have := h.len; rw [List.length_map]; omega), List.all_eq_true.mpr fun d hd => ?_⟩
  obtain ⟨k, hk, rfl⟩ := List.mem_map.mp hd
  exact sm_int (u_small (h.sub k hk))
theorem sm_ws {n : Nat} {ws : List Wd} (h : Ws ws) (hl : ws.length ≤ 16) : sm (n + 2) (.tuple (dL ws)) = true := by
  show (decide ((dL ws).length ≤ 16) && (dL ws).all (sm (n + 1))) = true
  rw [Bool.and_eq_true]
  refine ⟨decide_eq_true (by rw [dL_len]; exact hl), List.all_eq_true.mpr fun d hd => ?_⟩
  obtain ⟨w, hw, rfl⟩ := mem_dL.mp hd
  exact sm_w (h w hw)
theorem ins_len (f : List Wd) (e : Wd) : (ins f e).length ≤ f.length + 1 := by
  unfold ins
  split
  · omega
  · rw [List.length_append, List.length_map]; exact Nat.le_refl _
theorem fold_len : ∀ ws f : List Wd, (ws.foldl ins f).length ≤ f.length + ws.length
  | [], f => Nat.le_refl _
  | w :: ws, f => by
    have h1 := fold_len ws (ins f w)
    have h2 := ins_len f w
    rw [List.foldl_cons, List.length_cons]
    omega
theorem bo_le (ws : List Wd) : (baseOf ws).length ≤ ws.length := by
  rw [bo_len]
  have := fold_len ws []
  rw [List.length_nil, Nat.zero_add] at this
  exact this
theorem all_le {ws : List Wd} (h : Ws ws) {n : Nat} (hl : ws.length ≤ n) : (allW ws).length ≤ 2 ^ n := by
  rw [allW_len h.all, ← bo_len]
  exact Nat.pow_le_pow_right (by decide) (Nat.le_trans (bo_le ws) hl)
theorem fr_keep {turn : D → Sc} (P : Ev.Env → Prop) : ∀ {ds : List D}, (∀ d ∈ ds, ∀ e, P e → ∃ e', turn d e = .ok .nx e' ∧ P e') → ∀ {e : Ev.Env}, P e → ∃ e', frGo turn ds e = .ok .nx e' ∧ P e'
  | [], _, e, h => ⟨e, rfl, h⟩
  | d :: ds, hs, e, h => by
    obtain ⟨e1, h1, p1⟩ := hs d List.mem_cons_self e h
    obtain ⟨e2, h2, p2⟩ := fr_keep P (fun x hx => hs x (List.mem_cons_of_mem _ hx)) p1
    refine ⟨e2, ?_, p2⟩
    unfold frGo
    rw [h1, bind_ok]
    exact h2
theorem rp_bool (b : Bool) : bi .repr [.bool b] = some (.val (.str (PyData.shown (.bool b)))) := sm_repr (n := 0) (by cases b <;> rfl) (by decide)
theorem sm_two {a b : D} (ha : sm 2 a = true) (hb : sm 2 b = true) : sm 3 (.list [a, b]) = true := by simp [sm, ha, hb]
theorem sm_nat {n k : Nat} (h : k < 1000000) : sm n (.int k) = true := sm_int (by
  have : (1000000 : Nat) < 2 ^ 1000 := by decide +kernel
  omega)
end Vs
set_option Elab.async false
set_option linter.all false
set_option maxRecDepth 10000
/-! Vs5: rests, what is beyond others. -/
namespace Vs
open Ev PySem
theorem bo_mem {A B : List Wd} (a : All A) (b : All B) (h : ∀ w, w ∈ A ↔ w ∈ B) : baseOf A = baseOf B := bo_eq a b (sp_of_mem a b h)
theorem ws_app {a b : List Wd} (ha : Ws a) (hb : Ws b) : Ws (a ++ b) := fun x hx => by
  rcases List.mem_append.mp hx with y | y
  · exact ha x y
  · exact hb x y
theorem ws_rev {a : List Wd} (ha : Ws a) : Ws a.reverse := fun x hx => ha x (List.mem_reverse.mp hx)
theorem ws_nil' : Ws [] := fun _ h => absurd h List.not_mem_nil
theorem ws_cons' {w : Wd} {a : List Wd} (hw : Wk w) (ha : Ws a) : Ws (w :: a) := fun x hx => by
  rcases List.mem_cons.mp hx with y | y
  · rw [y]; exact hw
  · exact ha x y
theorem ws_take {a : List Wd} (ha : Ws a) (n : Nat) : Ws (a.take n) := fun x hx => ha x (List.mem_of_mem_take hx)
theorem ws_drop {a : List Wd} (ha : Ws a) (n : Nat) : Ws (a.drop n) := fun x hx => ha x (List.mem_of_mem_drop hx)
/-- the base of the rests beyond others -/
def bynd (ws os : List Wd) : List Wd := baseOf (ws.map (red (baseOf os)))
theorem ws_rests {ws os : List Wd} (hw : Ws ws) (ho : Ws os) : Ws (ws.map (red (baseOf os))) := fun v hv => by
  obtain ⟨w, hw2, rfl⟩ := List.mem_map.mp hv
  exact wk_red (ws_bo ho) (hw w hw2)
theorem nodup_one {α : Type} {l : List α} {x : α} (h : l.Nodup) (m : ∀ v, v ∈ l ↔ v = x) : l = [x] := by
  have p : l.Perm [x] := (List.perm_ext_iff_of_nodup h (List.pairwise_singleton _ _)).mpr fun v => by rw [m, List.mem_singleton]
  exact List.perm_singleton.mp p
theorem rest_one {every ws : List Wd} (h : AllOk every ws) (a : All ws) {w : Wd} (r : Rs w) {F : List Int} (hF : ∀ k, k ∈ F ↔ ∃ v ∈ every, v ≠ [] ∧ hd v = k) :
    ((every.map (symI w)).filter fun v => (v.filter fun m => F.contains m).isEmpty) = [red (baseOf ws) w] := by
  have E := bo_ech a
  have ris : ∀ v ∈ every, Rs v := fun v hv => ((h.mem v).mp hv).ris
  have hL : ∀ k, k ∈ F ↔ ∃ r ∈ baseOf ws, hd r = k := fun k => by
    rw [hF]
    constructor
    · rintro ⟨v, hv, n, e⟩
      obtain ⟨r, hr, e2⟩ := sp_hd E ((bo_sp a v).mpr ((h.mem v).mp hv)) n
      exact ⟨r, hr, e2.trans e⟩
    · rintro ⟨r, hr, e⟩
      exact ⟨r, (h.mem r).mpr ((bo_sp a r).mp (.own hr (E.ris r hr))), E.ne r hr, e⟩
  have hq : Sp (baseOf ws) (symI w (red (baseOf ws) w)) := red_sp (fun x hx => .own hx (E.ris x hx)) r
  refine nodup_one ((List.pairwise_map.mpr (List.Pairwise.imp_of_mem ?_ h.nd) : (every.map (symI w)).Nodup).filter _) fun v => ?_
  · intro x y hx hy n e
    have := congrArg (symI w) e
    rw [s_back (ris x hx), s_back (ris y hy)] at this
    exact n this
  · rw [List.mem_filter, List.mem_map, List.isEmpty_iff, List.filter_eq_nil_iff]
    constructor
    · rintro ⟨⟨u, hu, rfl⟩, hn⟩
      have hu1 : Sp (baseOf ws) u := (bo_sp a u).mpr ((h.mem u).mp hu)
      have d : Sp (baseOf ws) (symI (symI w u) (red (baseOf ws) w)) := by
        have := hu1.sum hq
        rwa [← s_assoc, s_comm u w] at this
      have := sp_none E d fun s hs z => by
        have z := m_sym.mp z
        have n1 : ¬ hd s ∈ symI w u := fun c => hn _ c (by simpa using (hL _).mpr ⟨s, hs, rfl⟩)
        exact n1 (z.mpr (red_no E s hs))
      exact s_eq (r_sym _ _) (red_ris r) this
    · rintro rfl
      refine ⟨⟨symI w (red (baseOf ws) w), (h.mem _).mpr ((bo_sp a _).mp hq), s_back (red_ris r)⟩, fun k hk z => ?_⟩
      obtain ⟨s, hs, e⟩ := (hL k).mp (by simpa using z)
      exact red_no E s hs (by rw [e]; exact hk)
theorem bynd_lot {lot so os : List Wd} (hl : Ws lot) (hs : Ws so) (ho : Ws os) (m : ∀ w, w ∈ lot ↔ w ∈ so) : bynd lot os.reverse = bynd so os := by
  unfold bynd
  rw [bo_mem (ws_rev ho).all ho.all fun w => List.mem_reverse]
  exact bo_mem (ws_rests hl ho).all (ws_rests hs ho).all fun w => by
    rw [List.mem_map, List.mem_map]
    constructor
    · rintro ⟨x, hx, e⟩
      exact ⟨x, (m x).mp hx, e⟩
    · rintro ⟨x, hx, e⟩
      exact ⟨x, (m x).mpr hx, e⟩
theorem bo_app_lot {lot so os : List Wd} (hl : Ws lot) (hs : Ws so) (ho : Ws os) (m : ∀ w, w ∈ lot ↔ w ∈ so) : baseOf (lot ++ os) = baseOf (so ++ os) :=
  bo_mem (ws_app hl ho).all (ws_app hs ho).all fun w => by rw [List.mem_append, List.mem_append, m]
/-- pairs of lots -/
def dP (p : List Wd × List Wd) : D := .tuple [.tuple (dL p.1), .tuple (dL p.2)]
end Vs
set_option Elab.async false
set_option linter.all false
set_option maxRecDepth 10000
/-! Vs6: one base for what is made; ranks add up. -/
namespace Vs
open Ev PySem
theorem red_ge {k : Int} : ∀ {rows : List Wd} {e : Wd}, (∀ r ∈ rows, Rs r) → (∀ x ∈ e, k ≤ x) → ∀ x ∈ red rows e, k ≤ x
  | [], _, _, h => h
  | r :: rs, e, hr, h => by
    rw [red_cons]
    refine red_ge (fun x hx => hr x (List.mem_cons_of_mem _ hx)) fun x hx => ?_
    unfold st at hx
    by_cases c : hd r ∈ e
    · rw [if_pos c] at hx
      have := m_sym.mp hx
      by_cases a1 : x ∈ e
      · exact h x a1
      · have a2 : x ∈ r := by
          apply Classical.byContradiction
          intro z
          exact a1 (this.mpr z)
        have := hd_le (hr r List.mem_cons_self) a2
        have := h _ c
        omega
    · rw [if_neg c] at hx
      exact h x hx
/-- the first meetings of what is made -/
def Lead (ws : List Wd) (k : Int) : Prop := ∃ v, Sp ws v ∧ v ≠ [] ∧ hd v = k
theorem lead_iff {rows ws : List Wd} (E : Ech rows) (h : ∀ v, Sp rows v ↔ Sp ws v) (k : Int) : k ∈ rows.map hd ↔ Lead ws k := by
  rw [List.mem_map]
  constructor
  · rintro ⟨r, hr, e⟩
    exact ⟨r, (h r).mp (.own hr (E.ris r hr)), E.ne r hr, e⟩
  · rintro ⟨v, hv, n, e⟩
    obtain ⟨r, hr, e2⟩ := sp_hd E ((h v).mpr hv) n
    exact ⟨r, hr, e2.trans e⟩
theorem hd_nodup {rows : List Wd} (E : Ech rows) : (rows.map hd).Nodup := by
  refine List.pairwise_map.mpr (List.Pairwise.imp_of_mem ?_ E.ap)
  intro a b ha hb hab e
  exact hab.1 (by rw [e]; exact hd_mem (E.ne b hb))
theorem rests_sp {ws os : List Wd} (hw : All ws) (ho : All os) {r : Wd} (h : Sp (ws.map (red (baseOf os))) r) : (∀ s ∈ baseOf os, ¬ hd s ∈ r) ∧ Sp (ws ++ os) r := by
  have E := bo_ech ho
  induction h with
  | zero => exact ⟨fun s _ z => absurd z List.not_mem_nil, .zero⟩
  | add hx _ ih =>
    obtain ⟨w, hw2, rfl⟩ := List.mem_map.mp hx
    obtain ⟨i1, i2⟩ := ih
    refine ⟨fun s hs z => ?_, i2.sum ?_⟩
    · have z := m_sym.mp z
      have n1 := red_no (e := w) E s hs
      exact i1 s hs (z.mpr n1)
    · have q : Sp os (symI w (red (baseOf os) w)) := (bo_sp ho _).mp (red_sp (fun x hx => .own hx (E.ris x hx)) (hw w hw2))
      have q2 : Sp (ws ++ os) (symI w (red (baseOf os) w)) := q.sub ho fun x hx => List.mem_append_right _ hx
      have q3 : Sp (ws ++ os) w := .own (List.mem_append_left _ hw2) (hw w hw2)
      have := q3.sum q2
      rwa [s_back (red_ris (hw w hw2))] at this
theorem all_app {a b : List Wd} (ha : All a) (hb : All b) : All (a ++ b) := fun x hx => by
  rcases List.mem_append.mp hx with y | y
  · exact ha x y
  · exact hb x y
theorem all_rests {ws os : List Wd} (hw : All ws) : All (ws.map (red (baseOf os))) := fun v hv => by
  obtain ⟨w, hw2, rfl⟩ := List.mem_map.mp hv
  exact red_ris (hw w hw2)
/-- what is made by both lots: without the others' first meetings it is made by the rests -/
theorem red_rests {ws os : List Wd} (hw : All ws) (ho : All os) {v : Wd} (h : Sp (ws ++ os) v) : Sp (ws.map (red (baseOf os))) (red (baseOf os) v) := by
  have E := bo_ech ho
  induction h with
  | zero => rw [red_nil]; exact .zero
  | add hx hv ih =>
    rename_i v x
    rw [red_lin]
    refine ih.sum ?_
    rcases List.mem_append.mp hx with y | y
    · exact .own (List.mem_map.mpr ⟨x, y, rfl⟩) (red_ris (hw x y))
    · rw [red_of_sp E ((bo_sp ho x).mpr (.own y (ho x y)))]; exact .zero
theorem rank_add {ws os : List Wd} (hw : All ws) (ho : All os) : (baseOf (ws ++ os)).length = (bynd ws os).length + (baseOf os).length := by
  have Eb := bo_ech ho
  have ar := all_rests (os := os) hw
  have Er : Ech (bynd ws os) := bo_ech ar
  have Ea := bo_ech (all_app hw ho)
  have hb := bo_sp ho
  have hr : ∀ v, Sp (bynd ws os) v ↔ Sp (ws.map (red (baseOf os))) v := bo_sp ar
  have ha := bo_sp (all_app hw ho)
  have p : ((baseOf (ws ++ os)).map hd).Perm ((bynd ws os).map hd ++ (baseOf os).map hd) := by
    refine (List.perm_ext_iff_of_nodup (hd_nodup Ea) (List.nodup_append.mpr ⟨hd_nodup Er, hd_nodup Eb, fun a h1 b h2 e => ?_⟩)).mpr fun k => ?_
    · obtain ⟨r, hr1, rfl⟩ := List.mem_map.mp h1
      obtain ⟨s, hs, e2⟩ := List.mem_map.mp h2
      have := (rests_sp hw ho ((hr r).mp (.own hr1 (Er.ris r hr1)))).1 s hs
      rw [e2, ← e] at this
      exact this (hd_mem (Er.ne r hr1))
    · rw [lead_iff Ea ha, List.mem_append, lead_iff Er hr, lead_iff Eb hb]
      constructor
      · rintro ⟨v, hv, n, rfl⟩
        by_cases c : hd v ∈ (baseOf os).map hd
        · exact .inr ((lead_iff Eb hb _).mp c)
        · refine .inl ⟨red (baseOf os) v, red_rests hw ho hv, ?_⟩
          have m1 := red_first (k := hd v) (rows := baseOf os) (e := v) (fun r hr => ⟨Eb.ris r hr, Eb.ne r hr, fun e => c (List.mem_map.mpr ⟨r, hr, e⟩)⟩) (hd_mem n) fun x hx => hd_le hv.ris hx
          have m2 : red (baseOf os) v ≠ [] := fun z => by rw [z] at m1; exact absurd m1 List.not_mem_nil
          refine ⟨m2, ?_⟩
          have g1 := red_ge (k := hd v) (rows := baseOf os) (e := v) Eb.ris (fun x hx => hd_le hv.ris hx) _ (hd_mem m2)
          have g2 := hd_le (red_ris hv.ris) m1
          omega
      · rintro (⟨v, hv, n, e⟩ | ⟨v, hv, n, e⟩)
        · exact ⟨v, (rests_sp hw ho hv).2, n, e⟩
        · exact ⟨v, hv.sub ho fun x hx => List.mem_append_right _ hx, n, e⟩
  have := p.length_eq
  rw [List.length_append, List.length_map, List.length_map, List.length_map] at this
  exact this
/-- with the others, the rests' base makes the same -/
theorem bynd_same {ws os : List Wd} (hw : All ws) (ho : All os) : baseOf (bynd ws os ++ os) = baseOf (ws ++ os) := by
  have ar := all_rests (os := os) hw
  have Er : Ech (bynd ws os) := bo_ech ar
  refine bo_eq (all_app Er.ris ho) (all_app hw ho) fun v => ⟨fun q => q.le fun x hx => ?_, fun q => q.le fun x hx => ?_⟩
  · rcases List.mem_append.mp hx with y | y
    · exact (rests_sp hw ho ((bo_sp ar x).mp (.own y (Er.ris x y)))).2
    · exact .own (List.mem_append_right _ y) (ho x y)
  · rcases List.mem_append.mp hx with y | y
    · have q1 : Sp (bynd ws os ++ os) (red (baseOf os) x) := ((bo_sp ar _).mpr (.own (List.mem_map.mpr ⟨x, y, rfl⟩) (red_ris (hw x y)))).sub Er.ris fun z hz => List.mem_append_left _ hz
      have q2 : Sp os (symI x (red (baseOf os) x)) := (bo_sp ho _).mp (red_sp (fun z hz => .own hz ((bo_ech ho).ris z hz)) (hw x y))
      have q3 := (q2.sub (T := bynd ws os ++ os) ho fun z hz => List.mem_append_right _ hz).sum q1
      rwa [s_back2 (hw x y)] at q3
    · exact .own (List.mem_append_right _ y) (ho x y)
theorem bo_self {ws : List Wd} (a : All ws) : baseOf (baseOf ws) = baseOf ws := bo_eq (bo_ech a).ris a (bo_sp a)
theorem bo_no {ws : List Wd} (a : All ws) {one : Wd} (h : one ∈ baseOf ws) : (baseOf ws).filter (fun o => !decide (o = one) && decide (hd one ∈ o)) = [] := by
  rw [List.filter_eq_nil_iff]
  intro o ho z
  rw [Bool.and_eq_true] at z
  have := ech_hd (bo_ech a) h ho (of_decide_eq_true z.2)
  rw [this] at z
  simp at z
theorem bo_lt {ws : List Wd} (a : All ws) : (baseOf ws).Pairwise (· < ·) := by
  have nd := ech_nodup (bo_ech a)
  have s := srt_sorted (baseL ws)
  refine (s.and nd).imp fun {x y} q => ?_
  obtain ⟨q1, q2⟩ := q
  apply Classical.byContradiction
  intro z
  exact q2 (List.le_antisymm q1 (List.not_lt.mp z))
theorem mk_base {ws : List Wd} (a : All ws) {w : Wd} (h : w ∈ baseOf ws) : mkB ws w = true := (mk_iff a ((bo_ech a).ris w h)).mpr ((bo_sp a w).mp (.own h ((bo_ech a).ris w h)))
theorem mk_by_base {ws : List Wd} (a : All ws) {w : Wd} (h : w ∈ ws) : mkB (baseOf ws) w = true := (mk_iff (bo_ech a).ris (a w h)).mpr ((bo_sp a w).mpr (.own h (a w h)))
theorem alike_iff {a b : List Wd} (ha : All a) (hb : All b) : ((∀ w ∈ a, mkB b w = true) ∧ ∀ w ∈ b, mkB a w = true) ↔ baseOf a = baseOf b := by
  constructor
  · rintro ⟨h1, h2⟩
    refine bo_eq ha hb fun v => ⟨fun q => q.le fun w hw => (mk_iff hb (ha w hw)).mp (h1 w hw), fun q => q.le fun w hw => (mk_iff ha (hb w hw)).mp (h2 w hw)⟩
  · intro e
    have : ∀ v, Sp a v ↔ Sp b v := fun v => by rw [← bo_sp ha, e, bo_sp hb]
    exact ⟨fun w hw => (mk_iff hb (ha w hw)).mpr ((this w).mp (.own hw (ha w hw))), fun w hw => (mk_iff ha (hb w hw)).mpr ((this w).mpr (.own hw (hb w hw)))⟩
theorem red_red {ws : List Wd} (a : All ws) (w : Wd) : red (baseOf ws) (red (baseOf ws) w) = red (baseOf ws) w := red_none fun r hr => red_no (bo_ech a) r hr
theorem mk_rest {ws : List Wd} (a : All ws) {w : Wd} (r : Rs w) : mkB ws (symI w (red (baseOf ws) w)) = true :=
  (mk_iff a (r_sym _ _)).mpr ((bo_sp a _).mp (red_sp (fun x hx => .own hx ((bo_ech a).ris x hx)) r))
theorem bo_rest {ws : List Wd} (a : All ws) {w : Wd} (r : Rs w) : baseOf (ws ++ [red (baseOf ws) w]) = baseOf (ws ++ [w]) := by
  have q2 : Sp ws (symI w (red (baseOf ws) w)) := (bo_sp a _).mp (red_sp (fun z hz => .own hz ((bo_ech a).ris z hz)) r)
  have s1 : All [red (baseOf ws) w] := fun x hx => by rw [List.mem_singleton.mp hx]; exact red_ris r
  have s2 : All [w] := fun x hx => by rw [List.mem_singleton.mp hx]; exact r
  refine bo_eq (all_app a s1) (all_app a s2) fun v => ⟨fun q => q.le fun x hx => ?_, fun q => q.le fun x hx => ?_⟩
  · rcases List.mem_append.mp hx with y | y
    · exact .own (List.mem_append_left _ y) (a x y)
    · rw [List.mem_singleton.mp y]
      have := (Sp.own (S := ws ++ [w]) (List.mem_append_right _ (List.mem_singleton.mpr rfl)) r).sum (q2.sub a fun z hz => List.mem_append_left _ hz)
      rwa [s_back (red_ris r)] at this
  · rcases List.mem_append.mp hx with y | y
    · exact .own (List.mem_append_left _ y) (a x y)
    · rw [List.mem_singleton.mp y]
      have := (q2.sub (T := ws ++ [red (baseOf ws) w]) a fun z hz => List.mem_append_left _ hz).sum (Sp.own (List.mem_append_right _ (List.mem_singleton.mpr rfl)) (red_ris r))
      rwa [s_back2 r] at this
/-- a word, another one added -/
theorem set_sp {f : List Wd} (a : All f) {i j : Nat} (hi : i < f.length) (hj : j < f.length) (ne : i ≠ j) (v : Wd) : Sp (f.set i (symI f[i] f[j])) v ↔ Sp f v := by
  have a2 : All (f.set i (symI f[i] f[j])) := fun x hx => by
    rcases List.mem_or_eq_of_mem_set hx with y | y
    · exact a x y
    · rw [y]; exact r_sym _ _
  have mi : f[i] ∈ f := List.getElem_mem hi
  have mj : f[j] ∈ f := List.getElem_mem hj
  have mj2 : f[j] ∈ f.set i (symI f[i] f[j]) := by
    have : (f.set i (symI f[i] f[j]))[j]? = some f[j] := by rw [List.getElem?_set_ne ne, List.getElem?_eq_getElem hj]
    exact List.mem_of_getElem? this
  have mi2 : symI f[i] f[j] ∈ f.set i (symI f[i] f[j]) := List.mem_set hi _
  constructor
  · refine fun q => q.le fun x hx => ?_
    rcases List.mem_or_eq_of_mem_set hx with y | y
    · exact .own y (a x y)
    · rw [y]; exact (Sp.own mi (a _ mi)).sum (.own mj (a _ mj))
  · refine fun q => q.le fun x hx => ?_
    obtain ⟨k, hk, rfl⟩ := List.getElem_of_mem hx
    by_cases c : i = k
    · subst c
      have := (Sp.own mi2 (r_sym _ _)).sum (Sp.own mj2 (a _ mj))
      rwa [s_back2 (a _ mi)] at this
    · refine .own ?_ (a _ hx)
      have : (f.set i (symI f[i] f[j]))[k]? = some f[k] := by rw [List.getElem?_set_ne c, List.getElem?_eq_getElem hk]
      exact List.mem_of_getElem? this
/-- a block in two parts -/
theorem sens_app {G : Gm} {X : Xt} {b : List MS} : ∀ {a : List MS} {e e1 : Ev.Env}, sens G X a e = .ok .nx e1 → sens G X (a ++ b) e = sens G X b e1
  | [], e, e1, h => by
    rw [z_nil] at h
    cases h
    rfl
  | s :: a, e, e1, h => by
    rw [z_cons] at h
    rw [List.cons_append, z_cons]
    cases hs : sen G X s e with
    | bad => rw [hs] at h; cases h
    | exc x e2 => rw [hs] at h; cases h
    | ok f e2 =>
      rw [hs] at h
      cases f with
      | nx => exact sens_app (a := a) h
      | br => cases h
      | ct => cases h
      | rt r => cases h
end Vs
set_option Elab.async false
set_option linter.all false
set_option maxRecDepth 10000
/-! Vs7: what two lots both make. -/
namespace Vs
open Ev PySem
abbrev Pr := Wd × Wd
/-- rows whose first meetings rise -/
structure Tri (vs : List Wd) : Prop where
  ris : ∀ r ∈ vs, Rs r
  ne : ∀ r ∈ vs, r ≠ []
  up : vs.Pairwise fun r s => hd r < hd s
theorem Tri.tail {r : Wd} {rs : List Wd} (h : Tri (r :: rs)) : Tri rs := ⟨fun x hx => h.ris x (List.mem_cons_of_mem _ hx), fun x hx => h.ne x (List.mem_cons_of_mem _ hx), (List.pairwise_cons.mp h.up).2⟩
theorem sp_cons {r : Wd} {rs : List Wd} (a : All (r :: rs)) {v : Wd} (rv : Rs v) : Sp (r :: rs) v ↔ Sp rs v ∨ Sp rs (symI r v) := by
  have a1 : All rs := fun x hx => a x (List.mem_cons_of_mem _ hx)
  have a2 : All (rs ++ [r]) := fun x hx => by
    rcases List.mem_append.mp hx with y | y
    · exact a1 x y
    · rw [List.mem_singleton.mp y]; exact a r List.mem_cons_self
  rw [sp_of_mem a a2 (fun w => by simp [or_comm]) v]
  exact sp_snoc a1 (a r List.mem_cons_self) rv
theorem tri_hd : ∀ {vs : List Wd}, Tri vs → ∀ {v : Wd}, Sp vs v → v ≠ [] → ∃ r ∈ vs, hd r = hd v
  | [], _, v, h, n => by
    cases h with
    | zero => exact absurd rfl n
    | add hw _ => exact absurd hw List.not_mem_nil
  | r :: rs, T, v, h, n => by
    have a : All (r :: rs) := T.ris
    rcases (sp_cons a h.ris).mp h with q | q
    · obtain ⟨s, hs, e⟩ := tri_hd T.tail q n
      exact ⟨s, List.mem_cons_of_mem _ hs, e⟩
    · refine ⟨r, List.mem_cons_self, ?_⟩
      have rr := T.ris r List.mem_cons_self
      have rn := T.ne r List.mem_cons_self
      by_cases c : symI r v = []
      · rw [s_eq rr h.ris c]
      · obtain ⟨s, hs, e⟩ := tri_hd T.tail q c
        have lt := (List.pairwise_cons.mp T.up).1 s hs
        rw [e] at lt
        -- v = r + u, all of u above hd r
        have hv : v = symI r (symI r v) := (s_back h.ris).symm
        have n1 : ¬ hd r ∈ symI r v := fun z => by have := hd_le (r_sym _ _) z; omega
        have m1 : hd r ∈ v := by
          rw [hv, m_sym]
          simp [hd_mem rn, n1]
        have l1 := hd_le h.ris m1
        have m2 := hd_mem n
        rw [hv] at m2
        have m2 := m_sym.mp m2
        rw [← hv] at m2
        by_cases d : hd v ∈ r
        · have := hd_le rr d
          omega
        · have d2 : hd v ∈ symI r v := by
            apply Classical.byContradiction
            intro z
            exact d (m2.mpr z)
          have := hd_le (r_sym _ _) d2
          omega
/-- a word led back, its marks along -/
def led (rows : List Pr) (p : Pr) : Pr := rows.foldl (fun p r => if hd r.1 ∈ p.1 then (symI p.1 r.1, symI p.2 r.2) else p) p
theorem led_cons (r : Pr) (rs : List Pr) (p : Pr) : led (r :: rs) p = led rs (if hd r.1 ∈ p.1 then (symI p.1 r.1, symI p.2 r.2) else p) := rfl
theorem led_ris : ∀ {rows : List Pr} {p : Pr}, Rs p.1 → Rs p.2 → Rs (led rows p).1 ∧ Rs (led rows p).2
  | [], _, h1, h2 => ⟨h1, h2⟩
  | r :: rs, p, h1, h2 => by
    rw [led_cons]
    split
    · exact led_ris (r_sym _ _) (r_sym _ _)
    · exact led_ris h1 h2
/-- what was added: the same rows in both -/
theorem led_sp {T M S : List Wd} : ∀ {rows : List Pr} {p : Pr}, (∀ r ∈ rows, Sp T r.1 ∧ Sp M r.2 ∧ Sp S (symI r.1 r.2)) → Rs p.1 → Rs p.2 →
    Sp T (symI p.1 (led rows p).1) ∧ Sp M (symI p.2 (led rows p).2) ∧ Sp S (symI (symI p.1 p.2) (symI (led rows p).1 (led rows p).2))
  | [], p, _, h1, h2 => by
    show Sp T (symI p.1 p.1) ∧ Sp M (symI p.2 p.2) ∧ Sp S (symI (symI p.1 p.2) (symI p.1 p.2))
    rw [s_self, s_self, s_self]
    exact ⟨.zero, .zero, .zero⟩
  | r :: rs, p, hr, h1, h2 => by
    obtain ⟨r1, r2, r3⟩ := hr r List.mem_cons_self
    have hr' := fun x hx => hr x (List.mem_cons_of_mem _ hx)
    rw [led_cons]
    split
    · obtain ⟨q1, q2, q3⟩ := led_sp (rows := rs) (p := (symI p.1 r.1, symI p.2 r.2)) hr' (r_sym _ _) (r_sym _ _)
      obtain ⟨l1, l2⟩ := led_ris (rows := rs) (p := (symI p.1 r.1, symI p.2 r.2)) (r_sym _ _) (r_sym _ _)
      generalize led rs (symI p.1 r.1, symI p.2 r.2) = z at *
      have e1 : symI p.1 z.1 = symI r.1 (symI (symI p.1 r.1) z.1) := ris_one (r_sym _ _) (r_sym _ _) fun k => by
        rw [m_sym, m_sym, m_sym, m_sym]
        by_cases a1 : k ∈ p.1 <;> by_cases a2 : k ∈ r.1 <;> by_cases a3 : k ∈ z.1 <;> simp [a1, a2, a3]
      have e2 : symI p.2 z.2 = symI r.2 (symI (symI p.2 r.2) z.2) := ris_one (r_sym _ _) (r_sym _ _) fun k => by
        rw [m_sym, m_sym, m_sym, m_sym]
        by_cases a1 : k ∈ p.2 <;> by_cases a2 : k ∈ r.2 <;> by_cases a3 : k ∈ z.2 <;> simp [a1, a2, a3]
      have e3 : symI (symI p.1 p.2) (symI z.1 z.2) = symI (symI r.1 r.2) (symI (symI (symI p.1 r.1) (symI p.2 r.2)) (symI z.1 z.2)) := ris_one (r_sym _ _) (r_sym _ _) fun k => by
        simp only [m_sym]
        by_cases a1 : k ∈ p.1 <;> by_cases a2 : k ∈ r.1 <;> by_cases a3 : k ∈ z.1 <;> by_cases b1 : k ∈ p.2 <;> by_cases b2 : k ∈ r.2 <;> by_cases b3 : k ∈ z.2 <;> simp [a1, a2, a3, b1, b2, b3]
      rw [e1, e2, e3]
      exact ⟨r1.sum q1, r2.sum q2, r3.sum q3⟩
    · exact led_sp (rows := rs) hr' h1 h2
theorem led_first : ∀ {rows : List Pr} {p : Pr}, Tri (rows.map Prod.fst) → (∀ r ∈ rows, ¬ hd r.1 ∈ (led rows p).1)
  | [], _, _, r, hr => absurd hr List.not_mem_nil
  | r :: rs, p, T, x, hx => by
    rw [List.map_cons] at T
    rw [led_cons]
    rcases List.mem_cons.mp hx with q | q
    · subst q
      have keep : ∀ {rs : List Pr} {p : Pr}, (∀ s ∈ rs, ¬ hd x.1 ∈ s.1) → ¬ hd x.1 ∈ p.1 → ¬ hd x.1 ∈ (led rs p).1 := by
        intro rs
        induction rs with
        | nil => exact fun _ h => h
        | cons s rs ih =>
          intro p h1 h2
          rw [led_cons]
          refine ih (fun y hy => h1 y (List.mem_cons_of_mem _ hy)) ?_
          split
          · show ¬ hd x.1 ∈ symI p.1 s.1
            rw [m_sym]
            simp [h2, h1 s List.mem_cons_self]
          · exact h2
      refine keep (fun s hs z => ?_) ?_
      · have lt := (List.pairwise_cons.mp T.up).1 s.1 (List.mem_map.mpr ⟨s, hs, rfl⟩)
        have := hd_le (T.ris s.1 (List.mem_cons_of_mem _ (List.mem_map.mpr ⟨s, hs, rfl⟩))) z
        omega
      · split
        · rename_i c
          show ¬ hd x.1 ∈ symI p.1 x.1
          rw [m_sym]
          simp [c, hd_mem (T.ne x.1 List.mem_cons_self)]
        · assumption
    · exact led_first T.tail x q
/-! sorting pairs -/
def ltP (a b : Pr) : Bool := if a.1 = b.1 then decide (a.2 < b.2) else decide (a.1 < b.1)
theorem leP_iff {a b : Pr} : (!ltP b a) = true ↔ (a.1 < b.1 ∨ (a.1 = b.1 ∧ a.2 ≤ b.2)) := by
  unfold ltP
  by_cases c : b.1 = a.1
  · rw [if_pos c]
    simp only [Bool.not_eq_true', decide_eq_false_iff_not, List.not_lt]
    constructor
    · exact fun h => .inr ⟨c.symm, h⟩
    · rintro (h | h)
      · rw [c] at h; exact absurd h (List.lt_irrefl _)
      · exact h.2
  · rw [if_neg c]
    simp only [Bool.not_eq_true', decide_eq_false_iff_not, List.not_lt]
    constructor
    · intro h
      rcases List.le_iff_lt_or_eq.mp h with q | q
      · exact .inl q
      · exact absurd q.symm c
    · rintro (h | h)
      · exact List.le_of_lt h
      · exact absurd h.1.symm c
def srtP (ls : List Pr) : List Pr := ls.mergeSort fun a b => !ltP b a
theorem srtP_perm (ls : List Pr) : (srtP ls).Perm ls := List.mergeSort_perm _ _
theorem srtP_sorted (ls : List Pr) : (srtP ls).Pairwise fun a b => a.1 ≤ b.1 := by
  have := List.pairwise_mergeSort (le := fun a b : Pr => !ltP b a) (fun a b c h1 h2 => by
    rw [leP_iff] at h1 h2 ⊢
    rcases h1 with h1 | h1 <;> rcases h2 with h2 | h2
    · exact .inl (List.lt_trans h1 h2)
    · exact .inl (by rw [← h2.1]; exact h1)
    · exact .inl (by rw [h1.1]; exact h2)
    · exact .inr ⟨h1.1.trans h2.1, List.le_trans h1.2 h2.2⟩) (fun a b => by
    rw [Bool.or_eq_true, leP_iff, leP_iff]
    by_cases c : a.1 = b.1
    · rcases List.le_total a.2 b.2 with h | h
      · exact .inl (.inr ⟨c, h⟩)
      · exact .inr (.inr ⟨c.symm, h⟩)
    · rcases List.le_total a.1 b.1 with h | h
      · exact .inl (.inl ((List.le_iff_lt_or_eq.mp h).resolve_right c))
      · exact .inr (.inl ((List.le_iff_lt_or_eq.mp h).resolve_right fun z => c z.symm))) ls
  refine this.imp fun {a b} h => ?_
  rcases leP_iff.mp h with q | q
  · exact List.le_of_lt q
  · rw [q.1]; exact List.le_refl _
theorem hd_mono {a b : Wd} (ha : a ≠ []) (hb : b ≠ []) (h : a ≤ b) : hd a ≤ hd b := by
  cases a with
  | nil => exact absurd rfl ha
  | cons x a =>
    cases b with
    | nil => exact absurd rfl hb
    | cons y b =>
      show x ≤ y
      apply Classical.byContradiction
      intro z
      have : (y :: b) < (x :: a) := List.Lex.rel (by omega)
      exact List.not_lt.mpr h this
/-- rows with one more -/
def trw (rows : List Pr) (e : Wd) : List Pr := if (led rows (e, [])).1 = [] then rows else srtP (rows ++ [led rows (e, [])])
def bmS (q : List Pr × List Wd) (e : Wd) : List Pr × List Wd := (trw q.1 e, if (led q.1 (e, [])).1 = [] then q.2 ++ [(led q.1 (e, [])).2] else q.2)
def bmF (a os : List Wd) : List Pr × List Wd := os.foldl bmS (a.map fun w => (w, w), [])
def bothW (a b : List Wd) : List Wd := baseOf (bmF (baseOf a) (baseOf b)).2
structure BmOk (A P : List Wd) (q : List Pr × List Wd) : Prop where
  tri : Tri (q.1.map Prod.fst)
  row : ∀ r ∈ q.1, Rs r.2 ∧ Sp A r.2 ∧ Sp P (symI r.1 r.2)
  all : ∀ v, Sp (q.1.map Prod.fst) v ↔ Sp (A ++ P) v
  fnd : All q.2
  eq : ∀ v, Sp q.2 v ↔ Sp A v ∧ Sp P v
theorem tri_nodup {rows : List Pr} (T : Tri (rows.map Prod.fst)) {r s : Pr} (hr : r ∈ rows) (hs : s ∈ rows) (h : hd r.1 = hd s.1) : r.1 = s.1 := by
  obtain ⟨i, hi, rfl⟩ := List.getElem_of_mem hr
  obtain ⟨j, hj, rfl⟩ := List.getElem_of_mem hs
  have up := List.pairwise_iff_getElem.mp T.up
  rcases Nat.lt_trichotomy i j with c | c | c
  · have := up i j (by simpa using hi) (by simpa using hj) c
    simp only [List.getElem_map] at this
    omega
  · subst c; rfl
  · have := up j i (by simpa using hj) (by simpa using hi) c
    simp only [List.getElem_map] at this
    omega
theorem bm_step {A P : List Wd} {q : List Pr × List Wd} {e : Wd} (h : BmOk A P q) (aA : All A) (aP : All P) (re : Rs e) : BmOk A (P ++ [e]) (bmS q e) := by
  obtain ⟨tri, row, all, fnd, eq⟩ := h
  have av : All (q.1.map Prod.fst) := tri.ris
  have rows : ∀ r ∈ q.1, Sp (q.1.map Prod.fst) r.1 ∧ Sp A r.2 ∧ Sp P (symI r.1 r.2) := fun r hr => ⟨.own (List.mem_map.mpr ⟨r, hr, rfl⟩) (av r.1 (List.mem_map.mpr ⟨r, hr, rfl⟩)), (row r hr).2.1, (row r hr).2.2⟩
  obtain ⟨s1, s2, s3⟩ := led_sp (p := (e, [])) rows re r_nil
  obtain ⟨l1, l2⟩ := led_ris (rows := q.1) (p := (e, [])) re r_nil
  have nof := led_first (rows := q.1) (p := (e, [])) tri
  have aPe : All (P ++ [e]) := fun x hx => by
    rcases List.mem_append.mp hx with y | y
    · exact aP x y
    · rw [List.mem_singleton.mp y]; exact re
  have he : Sp (P ++ [e]) e := .own (List.mem_append_right _ (List.mem_singleton.mpr rfl)) re
  have up : ∀ v, Sp P v → Sp (P ++ [e]) v := fun v hv => hv.sub aP fun x hx => List.mem_append_left _ hx
  generalize hz : led q.1 (e, []) = z at s1 s2 s3 l1 l2 nof
  have s1 : Sp (q.1.map Prod.fst) (symI e z.1) := s1
  have s2 : Sp A z.2 := by
    have s2 : Sp A (symI [] z.2) := s2
    rwa [nil_s l2] at s2
  have s3 : Sp P (symI e (symI z.1 z.2)) := by
    have s3 : Sp P (symI (symI e []) (symI z.1 z.2)) := s3
    rwa [s_nil re] at s3
  have s4 : Sp (P ++ [e]) (symI z.1 z.2) := by
    have := he.sum (up _ s3)
    rwa [s_back (r_sym _ _)] at this
  have mono : ∀ v, Sp A v ∧ Sp P v → Sp A v ∧ Sp (P ++ [e]) v := fun v hv => ⟨hv.1, up v hv.2⟩
  by_cases c : z.1 = []
  · have e1 : bmS q e = (q.1, q.2 ++ [z.2]) := by
      unfold bmS trw
      rw [hz, if_pos c, if_pos c]
    rw [e1]
    rw [c] at s1 s3 s4
    rw [nil_s l2] at s3 s4
    rw [s_nil re] at s1
    have af : All (q.2 ++ [z.2]) := fun x hx => by
      rcases List.mem_append.mp hx with y | y
      · exact fnd x y
      · rw [List.mem_singleton.mp y]; exact l2
    refine ⟨tri, fun r hr => ⟨(row r hr).1, (row r hr).2.1, up _ (row r hr).2.2⟩, fun v => ?_, af, fun v => ?_⟩
    · rw [all]
      refine ⟨fun w => w.sub (fun x hx => by
        rcases List.mem_append.mp hx with y | y
        · exact aA x y
        · exact aP x y) fun x hx => by
        rcases List.mem_append.mp hx with y | y
        · exact List.mem_append_left _ y
        · exact List.mem_append_right _ (List.mem_append_left _ y), fun w => w.le fun x hx => ?_⟩
      rcases List.mem_append.mp hx with y | y
      · exact .own (List.mem_append_left _ y) (aA x y)
      · rcases List.mem_append.mp y with y | y
        · exact .own (List.mem_append_right _ y) (aP x y)
        · rw [List.mem_singleton.mp y]; exact (all e).mp s1
    · constructor
      · intro w
        have : ∀ x ∈ q.2 ++ [z.2], Sp A x ∧ Sp (P ++ [e]) x := fun x hx => by
          rcases List.mem_append.mp hx with y | y
          · exact mono x ((eq x).mp (.own y (fnd x y)))
          · rw [List.mem_singleton.mp y]; exact ⟨s2, s4⟩
        exact ⟨w.le fun x hx => (this x hx).1, w.le fun x hx => (this x hx).2⟩
      · rintro ⟨w1, w2⟩
        have low : ∀ u, Sp q.2 u → Sp (q.2 ++ [z.2]) u := fun u hu => hu.sub fnd fun x hx => List.mem_append_left _ hx
        rcases (sp_snoc aP re w1.ris).mp w2 with y | y
        · exact low v ((eq v).mpr ⟨w1, y⟩)
        · have d1 : Sp P (symI v z.2) := by
            have := y.sum s3
            have e2 : symI (symI e v) (symI e z.2) = symI v z.2 := ris_one (r_sym _ _) (r_sym _ _) fun k => by
              rw [m_sym, m_sym, m_sym, m_sym]
              by_cases a1 : k ∈ e <;> by_cases a2 : k ∈ v <;> by_cases a3 : k ∈ z.2 <;> simp [a1, a2, a3]
            rwa [e2] at this
          have d2 := low _ ((eq (symI v z.2)).mpr ⟨w1.sum s2, d1⟩)
          have := d2.sum (Sp.own (S := q.2 ++ [z.2]) (List.mem_append_right _ (List.mem_singleton.mpr rfl)) l2)
          rwa [s_back2 w1.ris] at this
  · have e1 : bmS q e = (srtP (q.1 ++ [z]), q.2) := by
      unfold bmS trw
      rw [hz, if_neg c, if_neg c]
    rw [e1]
    have pm : ∀ r, r ∈ srtP (q.1 ++ [z]) ↔ r ∈ q.1 ∨ r = z := fun r => by rw [(srtP_perm _).mem_iff, List.mem_append, List.mem_singleton]
    have notV : ¬ Sp (A ++ P) e := fun w => by
      have w1 := (all e).mpr w
      have w2 := w1.sum s1
      rw [s_back l1] at w2
      obtain ⟨r, hr, e2⟩ := tri_hd tri w2 c
      obtain ⟨r', hr', rfl⟩ := List.mem_map.mp hr
      exact nof r' hr' (by rw [e2]; exact hd_mem c)
    have ne1 : ∀ r ∈ srtP (q.1 ++ [z]), r.1 ≠ [] ∧ Rs r.1 := fun r hr => by
      rcases (pm r).mp hr with y | y
      · exact ⟨tri.ne _ (List.mem_map.mpr ⟨r, y, rfl⟩), tri.ris _ (List.mem_map.mpr ⟨r, y, rfl⟩)⟩
      · rw [y]; exact ⟨c, l1⟩
    have nd : (q.1 ++ [z]).Pairwise fun r s => hd r.1 ≠ hd s.1 := by
      refine List.pairwise_append.mpr ⟨?_, List.pairwise_singleton _ _, fun r hr s hs => ?_⟩
      · exact (List.pairwise_map.mp tri.up).imp fun h => by omega
      · rw [List.mem_singleton.mp hs]
        intro z2
        exact nof r hr (by rw [z2]; exact hd_mem c)
    have nd2 : (srtP (q.1 ++ [z])).Pairwise fun r s => hd r.1 ≠ hd s.1 := ((srtP_perm _).pairwise_iff fun {x y} h => h.symm).mpr nd
    have tri2 : Tri ((srtP (q.1 ++ [z])).map Prod.fst) := by
      refine ⟨fun r hr => ?_, fun r hr => ?_, List.pairwise_map.mpr (List.Pairwise.imp_of_mem ?_ ((srtP_sorted _).and nd2))⟩
      · obtain ⟨r', hr', rfl⟩ := List.mem_map.mp hr
        exact (ne1 r' hr').2
      · obtain ⟨r', hr', rfl⟩ := List.mem_map.mp hr
        exact (ne1 r' hr').1
      · intro a b ha hb h
        have := hd_mono (ne1 a ha).1 (ne1 b hb).1 h.1
        have := h.2
        omega
    have e2 : ∀ v, Sp ((srtP (q.1 ++ [z])).map Prod.fst) v ↔ Sp (A ++ (P ++ [e])) v := fun v => by
      constructor
      · refine fun w => w.le fun x hx => ?_
        obtain ⟨r, hr, rfl⟩ := List.mem_map.mp hx
        have sub : ∀ u, Sp (A ++ P) u → Sp (A ++ (P ++ [e])) u := fun u hu => hu.sub (all_app aA aP) fun x hx => by
          rcases List.mem_append.mp hx with y | y
          · exact List.mem_append_left _ y
          · exact List.mem_append_right _ (List.mem_append_left _ y)
        rcases (pm r).mp hr with y | y
        · exact sub _ ((all r.1).mp (.own (List.mem_map.mpr ⟨r, y, rfl⟩) (av r.1 (List.mem_map.mpr ⟨r, y, rfl⟩))))
        · rw [y]
          have h1 : Sp (A ++ (P ++ [e])) e := .own (List.mem_append_right _ (List.mem_append_right _ (List.mem_singleton.mpr rfl))) re
          have := h1.sum (sub _ ((all _).mp s1))
          rwa [s_back l1] at this
      · refine fun w => w.le fun x hx => ?_
        have low : ∀ u, Sp (q.1.map Prod.fst) u → Sp ((srtP (q.1 ++ [z])).map Prod.fst) u := fun u hu => hu.sub av fun x hx => by
          obtain ⟨r, hr, rfl⟩ := List.mem_map.mp hx
          exact List.mem_map.mpr ⟨r, (pm r).mpr (.inl hr), rfl⟩
        rcases List.mem_append.mp hx with y | y
        · exact low x ((all x).mpr (.own (List.mem_append_left _ y) (aA x y)))
        · rcases List.mem_append.mp y with y | y
          · exact low x ((all x).mpr (.own (List.mem_append_right _ y) (aP x y)))
          · rw [List.mem_singleton.mp y]
            have h1 : Sp ((srtP (q.1 ++ [z])).map Prod.fst) z.1 := .own (List.mem_map.mpr ⟨z, (pm z).mpr (.inr rfl), rfl⟩) l1
            have := (low _ s1).sum h1
            rwa [s_back2 re] at this
    refine ⟨tri2, fun r hr => ?_, e2, fnd, fun v => ?_⟩
    · rcases (pm r).mp hr with y | y
      · exact ⟨(row r y).1, (row r y).2.1, up _ (row r y).2.2⟩
      · rw [y]; exact ⟨l2, s2, s4⟩
    · rw [eq]
      refine ⟨mono v, fun w => ⟨w.1, ?_⟩⟩
      rcases (sp_snoc aP re w.1.ris).mp w.2 with y | y
      · exact y
      · refine absurd ?_ notV
        have h1 : Sp (A ++ P) v := w.1.sub aA fun x hx => List.mem_append_left _ hx
        have h2 : Sp (A ++ P) (symI e v) := y.sub aP fun x hx => List.mem_append_right _ hx
        have := h2.sum h1
        rwa [s_back2 re] at this
theorem bm_fold {A : List Wd} (aA : All A) : ∀ (os P : List Wd) (q : List Pr × List Wd), BmOk A P q → All P → All os → BmOk A (P ++ os) (os.foldl bmS q)
  | [], P, q, h, _, _ => by rw [List.append_nil]; exact h
  | e :: os, P, q, h, aP, ao => by
    have re := ao e List.mem_cons_self
    have := bm_fold aA os (P ++ [e]) (bmS q e) (bm_step h aA aP re) (fun x hx => by
      rcases List.mem_append.mp hx with y | y
      · exact aP x y
      · rw [List.mem_singleton.mp y]; exact re) fun x hx => ao x (List.mem_cons_of_mem _ hx)
    rw [List.append_assoc] at this
    exact this
theorem bo_up {ws : List Wd} (a : All ws) : (baseOf ws).Pairwise fun r s => hd r < hd s := by
  have E := bo_ech a
  refine List.Pairwise.imp_of_mem ?_ ((bo_lt a).and E.ap)
  intro x y hx hy h
  have h1 := hd_mono (E.ne x hx) (E.ne y hy) (List.le_of_lt h.1)
  have h2 : hd x ≠ hd y := fun z => h.2.1 (by rw [z]; exact hd_mem (E.ne y hy))
  omega
theorem bm_start {ws : List Wd} (a : All ws) : BmOk (baseOf ws) [] ((baseOf ws).map fun w => (w, w), []) := by
  have E := bo_ech a
  have e1 : ((baseOf ws).map fun w => ((w, w) : Pr)).map Prod.fst = baseOf ws := by rw [List.map_map]; exact List.map_id _
  refine ⟨?_, fun r hr => ?_, fun v => ?_, fun _ h => absurd h List.not_mem_nil, fun v => ?_⟩
  · rw [e1]; exact ⟨E.ris, E.ne, bo_up a⟩
  · obtain ⟨w, hw, rfl⟩ := List.mem_map.mp hr
    exact ⟨E.ris w hw, .own hw (E.ris w hw), by show Sp [] (symI w w); rw [s_self]; exact .zero⟩
  · rw [e1, List.append_nil]
  · constructor
    · intro h
      cases h with
      | zero => exact ⟨.zero, .zero⟩
      | add h _ => exact absurd h List.not_mem_nil
    · exact fun h => h.2
theorem bm_ok {a b : List Wd} (ha : All a) (hb : All b) : BmOk (baseOf a) (baseOf b) (bmF (baseOf a) (baseOf b)) := by
  have := bm_fold (bo_ech ha).ris (baseOf b) [] _ (bm_start ha) (fun _ h => absurd h List.not_mem_nil) (bo_ech hb).ris
  exact this
theorem both_sp {a b : List Wd} (ha : All a) (hb : All b) (v : Wd) : Sp (bothW a b) v ↔ Sp a v ∧ Sp b v := by
  have h := bm_ok ha hb
  rw [show bothW a b = baseOf (bmF (baseOf a) (baseOf b)).2 from rfl, bo_sp h.fnd, h.eq, bo_sp ha, bo_sp hb]
theorem both_eq {a b I : List Wd} (ha : All a) (hb : All b) (hI : All I) (h : ∀ v, Sp I v ↔ Sp a v ∧ Sp b v) : bothW a b = baseOf I := by
  have q := bm_ok ha hb
  refine bo_eq q.fnd hI fun v => ?_
  rw [q.eq, bo_sp ha, bo_sp hb, h]
end Vs
set_option Elab.async false
set_option linter.all false
set_option maxRecDepth 10000
/-! Vs8: rows with marks as data; parameters handed in for good. -/
namespace Vs
open Ev PySem
section
variable {e : Ev.Env} {ms : List Mo} {rs : List R} {r : R} {d : D} {ls : List Nat}
@[simp] theorem z_escAf : escAll (.f :: ms) (r :: rs) e = (match esc e r with
  | .ok d e' => (escAll ms rs e').map fun q => (.val d :: q.1, q.2)
  | _ => none) := rfl
@[simp] theorem z_rAf : readAll e (.f :: ms) (.val d :: rs) = (readAll e ms rs).map fun q => (d :: q.1, q.2) := rfl
@[simp] theorem z_apF : apart ls (.f :: ms) (r :: rs) = apart ls ms rs := by cases r <;> rfl
end
def dPr (p : Pr) : D := .tuple [dW p.1, dW p.2]
def dR (ps : List Pr) : List D := ps.map dPr
@[simp] theorem dR_len {ps : List Pr} : (dR ps).length = ps.length := List.length_map _
theorem lt_pr (a b : Pr) : W.dataLt (dPr a) (dPr b) = ltP a b := by
  unfold dPr ltP
  rw [W.dataLt_pair (alike_w _ _) (alike_w _ _), eqv_w, eqv_w, lt_w, lt_w]
  by_cases h1 : a.1 = b.1 <;> by_cases h2 : a.2 = b.2 <;> simp [h1, h2, List.lt_irrefl]
theorem sortD_pr (ps : List Pr) : sortD (dR ps) = dR (srtP ps) := by
  unfold sortD srtP
  rw [dR, dR, List.map_mergeSort]
  intro a _ b _
  rw [lt_pr]
theorem sorted_pr (ps : List Pr) : bi .sorted [.list (dR ps)] = some (.fresh (.lst (dR (srtP ps)))) := by
  show (if allAlike (dR ps) = true ∧ sortable (dR ps) = true ∧ ((dR ps).all fun d => decide (d.depth ≤ 60)) = true then some (R.fresh (.lst (sortD (dR ps)))) else none) = _
  have a1 : allAlike (dR ps) = true := by
    unfold allAlike
    rw [List.all_eq_true]
    intro d hd
    obtain ⟨a, _, rfl⟩ := List.mem_map.mp hd
    rw [List.all_eq_true]
    intro e he
    obtain ⟨b, _, rfl⟩ := List.mem_map.mp he
    unfold dPr
    rw [W.alike, W.alikeAll, W.alikeAll, W.alikeAll, alike_w, alike_w]
    rfl
  have a2 : sortable (dR ps) = true := by
    unfold sortable
    rw [Bool.or_eq_true, Bool.or_eq_true]
    left
    left
    rw [List.all_eq_true]
    intro d hd
    obtain ⟨a, _, rfl⟩ := List.mem_map.mp hd
    rfl
  have a3 : ((dR ps).all fun d => decide (d.depth ≤ 60)) = true := by
    rw [List.all_eq_true]
    intro d hd
    obtain ⟨a, _, rfl⟩ := List.mem_map.mp hd
    have h1 := (lay_w a.1).2
    have h2 := (lay_w a.2).2
    unfold dPr
    refine decide_eq_true ?_
    simp only [PyData.depth, PyData.depthAll, h1, h2]
    decide
  rw [if_pos ⟨a1, a2, a3⟩, sortD_pr]
/-- rows that the walk can go through -/
def PW (ps : List Pr) : Prop := ∀ r ∈ ps, Wk r.1 ∧ Wk r.2 ∧ r.1 ≠ []
theorem wk_led : ∀ {rows : List Pr} {p : Pr}, PW rows → Wk p.1 → Wk p.2 → Wk (led rows p).1 ∧ Wk (led rows p).2
  | [], _, _, h1, h2 => ⟨h1, h2⟩
  | r :: rs, p, hr, h1, h2 => by
    obtain ⟨r1, r2, _⟩ := hr r List.mem_cons_self
    have hr' : PW rs := fun x hx => hr x (List.mem_cons_of_mem _ hx)
    rw [led_cons]
    split
    · exact wk_led hr' (h1.sum r1) (h2.sum r2)
    · exact wk_led hr' h1 h2
theorem pw_trw {rows : List Pr} {e : Wd} (h : PW rows) (he : Wk e) : PW (trw rows e) := by
  unfold trw
  split
  · exact h
  · rename_i c
    intro r hr
    rw [(srtP_perm _).mem_iff, List.mem_append, List.mem_singleton] at hr
    rcases hr with y | y
    · exact h r y
    · obtain ⟨q1, q2⟩ := wk_led (p := (e, [])) h he wk_nil
      rw [y]
      exact ⟨q1, q2, c⟩
theorem trw_len (rows : List Pr) (e : Wd) : (trw rows e).length ≤ rows.length + 1 := by
  unfold trw
  split
  · omega
  · rw [(srtP_perm _).length_eq, List.length_append]
    exact Nat.le_refl _
/-- a slot that holds a list: one's own, or for good -/
def lz (s : Sl) (ds : List D) : Prop := s = .mu false false (.lst ds) ∨ s = .fz (.list ds)
theorem ws_both {a b : List Wd} (ha : Ws a) (hb : Ws b) : Ws (bothW a b) := by
  have main : ∀ (os : List Wd) (q : List Pr × List Wd), Ws os → PW q.1 → Ws q.2 → Ws (os.foldl bmS q).2 := by
    intro os
    induction os with
    | nil => exact fun q _ _ h => h
    | cons e os ih =>
      intro q ho h1 h2
      have he := ho e List.mem_cons_self
      refine ih (bmS q e) (fun x hx => ho x (List.mem_cons_of_mem _ hx)) (pw_trw h1 he) ?_
      unfold bmS
      split
      · exact ws_app h2 (ws_cons' (wk_led (p := (e, [])) h1 he wk_nil).2 ws_nil')
      · exact h2
  have E := bo_ech ha.all
  exact ws_bo (main (baseOf b) _ (ws_bo hb) (fun r hr => by
    obtain ⟨w, hw, rfl⟩ := List.mem_map.mp hr
    exact ⟨ws_bo ha w hw, ws_bo ha w hw, E.ne w hw⟩) ws_nil')
end Vs
set_option Elab.async false
set_option linter.all false
set_option maxRecDepth 10000
/-! Vs9: how many are made; ranks of two lots. -/
namespace Vs
open Ev PySem
theorem nodup_le' {α : Type} [BEq α] [LawfulBEq α] {a b : List α} (h : a.Nodup) (hs : ∀ k ∈ a, k ∈ b) : a.length ≤ b.length := by
  induction a generalizing b with
  | nil => exact Nat.zero_le _
  | cons x a ih =>
    obtain ⟨h1, h2⟩ := List.nodup_cons.mp h
    have hx := hs x List.mem_cons_self
    have := ih (b := b.erase x) h2 fun k hk => by
      rw [List.mem_erase_of_ne]
      · exact hs k (List.mem_cons_of_mem _ hk)
      · intro e
        subst e
        exact h1 hk
    rw [List.length_erase_of_mem hx] at this
    have : 0 < b.length := List.length_pos_of_mem hx
    rw [List.length_cons]
    omega
theorem rank_pow {ws : List Wd} (a : All ws) : (allW ws).length = 2 ^ (baseOf ws).length := by rw [allW_len a, bo_len]
/-- each of B's sums comes of one of A's -/
theorem rank_le {A B : List Wd} (a : All A) (b : All B) (f : Wd → Wd) (h : ∀ v, Sp B v → ∃ u, Sp A u ∧ f u = v) : (baseOf B).length ≤ (baseOf A).length := by
  have h1 : (allW B).length ≤ ((allW A).map f).length := nodup_le' (all_ok b).nd fun v hv => by
    obtain ⟨u, hu, e⟩ := h v (((all_ok b).mem v).mp hv)
    exact List.mem_map.mpr ⟨u, ((all_ok a).mem u).mpr hu, e⟩
  rw [List.length_map, rank_pow a, rank_pow b] at h1
  exact (Nat.pow_le_pow_iff_right (by decide)).mp h1
/-- beyond more others: no more -/
theorem by_mono {ws os ts : List Wd} (hw : All ws) (ho : All os) (ht : All ts) (h : ∀ v, Sp os v → Sp ts v) : (bynd ws ts).length ≤ (bynd ws os).length := by
  have Et := bo_ech ht
  refine rank_le (all_rests (os := os) hw) (all_rests (os := ts) hw) (red (baseOf ts)) fun v hv => ?_
  induction hv with
  | zero => exact ⟨[], .zero, red_nil _⟩
  | add hx _ ih =>
    obtain ⟨u, hu, e⟩ := ih
    obtain ⟨w, hw2, rfl⟩ := List.mem_map.mp hx
    refine ⟨symI u (red (baseOf os) w), hu.sum (.own (List.mem_map.mpr ⟨w, hw2, rfl⟩) (red_ris (hw w hw2))), ?_⟩
    rw [red_lin, e]
    congr 1
    have q : Sp os (symI w (red (baseOf os) w)) := (bo_sp ho _).mp (red_sp (fun z hz => .own hz ((bo_ech ho).ris z hz)) (hw w hw2))
    have z := red_of_sp Et ((bo_sp ht _).mpr (h _ q))
    rw [red_lin] at z
    exact (s_eq (red_ris (hw w hw2)) (red_ris (red_ris (hw w hw2))) z).symm
/-- the ranks of both, of what both make -/
theorem rank_both {a b : List Wd} (ha : All a) (hb : All b) : (baseOf (a ++ b)).length + (bothW a b).length = (baseOf a).length + (baseOf b).length := by
  have hB := bm_ok ha hb
  have hX : All (bothW a b) := (bo_ech hB.fnd).ris
  have sp := both_sp ha hb
  have e1 := rank_add ha hb
  have e2 := rank_add (ws := a) (os := bothW a b) ha hX
  have e3 : baseOf (a ++ bothW a b) = baseOf a := bo_eq (all_app ha hX) ha fun v => ⟨fun q => q.le fun x hx => by
    rcases List.mem_append.mp hx with y | y
    · exact .own y (ha x y)
    · exact ((sp x).mp (.own y (hX x y))).1, fun q => q.sub ha fun x hx => List.mem_append_left _ hx⟩
  have e4 : baseOf (bothW a b) = bothW a b := bo_self hB.fnd
  rw [e3, e4] at e2
  have le1 := by_mono ha hX hb fun v hv => ((sp v).mp hv).2
  have le2 : (bynd a (bothW a b)).length ≤ (bynd a b).length := by
    -- the other way about: led by b's base, one of a kind
    have EX := bo_ech hX
    have h1 : ((allW (a.map (red (baseOf (bothW a b))))).map (red (baseOf b))).length ≤ (allW (a.map (red (baseOf b)))).length := by
      have ar := all_rests (os := bothW a b) ha
      have br := all_rests (os := b) ha
      refine nodup_le' (List.pairwise_map.mpr (List.Pairwise.imp_of_mem ?_ (all_ok ar).nd)) fun v hv => ?_
      · intro x y hx hy ne e
        have sx := ((all_ok ar).mem x).mp hx
        have sy := ((all_ok ar).mem y).mp hy
        have sd := sx.sum sy
        have d0 : red (baseOf b) (symI x y) = [] := by rw [red_lin, e, s_self]
        have inb : Sp b (symI x y) := (bo_sp hb _).mp ((red_iff (bo_ech hb) (r_sym _ _)).mp d0)
        obtain ⟨nl, ina⟩ := rests_sp ha hX sd
        have ina2 : Sp a (symI x y) := by
          rw [← bo_sp (all_app ha hX), e3, bo_sp ha] at ina
          exact ina
        have inX := (sp _).mpr ⟨ina2, inb⟩
        exact ne (s_eq sx.ris sy.ris (sp_none EX ((bo_sp hX _).mpr inX) nl))
      · obtain ⟨u, hu, rfl⟩ := List.mem_map.mp hv
        have su := ((all_ok ar).mem u).mp hu
        refine ((all_ok br).mem _).mpr ?_
        obtain ⟨_, ina⟩ := rests_sp ha hX su
        refine red_rests ha hb ?_
        rw [← bo_sp (all_app ha hX), e3, bo_sp ha] at ina
        exact ina.sub ha fun x hx => List.mem_append_left _ hx
    rw [List.length_map, rank_pow (all_rests ha), rank_pow (all_rests ha)] at h1
    exact (Nat.pow_le_pow_iff_right (by decide)).mp h1
  have : (bynd a (bothW a b)).length = (bynd a b).length := by
    have : (bynd a b).length ≤ (bynd a (bothW a b)).length := le1
    omega
  omega
/-- one word more -/
theorem rank_more {ws : List Wd} (a : All ws) {w : Wd} (r : Rs w) : (baseOf (ws ++ [w])).length = (baseOf ws).length + if mkB ws w = true then 0 else 1 := by
  rw [bo_len, bo_len]
  have e : baseL (ws ++ [w]) = ins (baseL ws) w := by unfold baseL; rw [List.foldl_append]; rfl
  rw [e]
  have h : mkB ws w = true ↔ red (baseL ws) w = [] := by rw [mk_iff a r, red_iff (base_ech a) r, base_sp a]
  unfold ins
  by_cases c : mkB ws w = true
  · rw [if_pos c, if_pos (h.mp c)]; rfl
  · rw [if_neg c, if_neg fun z => c (h.mpr z), List.length_append, List.length_map]
    rfl
/-! all that is made, rising -/
def madeW (ws : List Wd) : List Wd := srtW (allW (baseOf ws))
theorem made_mem {ws : List Wd} (a : All ws) (v : Wd) : v ∈ madeW ws ↔ Sp ws v := by
  unfold madeW
  rw [(srt_perm _).mem_iff, (all_ok (bo_ech a).ris).mem, bo_sp a]
theorem made_nd {ws : List Wd} (a : All ws) : (madeW ws).Nodup := (srt_perm _).nodup_iff.mpr (all_ok (bo_ech a).ris).nd
theorem made_len {ws : List Wd} (a : All ws) : (madeW ws).length = 2 ^ (baseOf ws).length := by
  unfold madeW
  rw [(srt_perm _).length_eq, rank_pow (bo_ech a).ris, bo_self a]
theorem made_sorted (ws : List Wd) : (madeW ws).Pairwise (· ≤ ·) := srt_sorted _
theorem sorted_one {a b : List Wd} (h1 : a.Pairwise (· ≤ ·)) (h2 : b.Pairwise (· ≤ ·)) (n1 : a.Nodup) (n2 : b.Nodup) (m : ∀ v, v ∈ a ↔ v ∈ b) : a = b :=
  List.Perm.eq_of_pairwise (le := (· ≤ ·)) (fun x y _ _ q1 q2 => List.le_antisymm q1 q2) h1 h2 ((List.perm_ext_iff_of_nodup n1 n2).mpr m)
theorem made_both {a b : List Wd} (ha : All a) (hb : All b) : madeW (bothW a b) = (madeW a).filter fun w => decide (w ∈ madeW b) := by
  have hX : All (bothW a b) := (bo_ech (bm_ok ha hb).fnd).ris
  refine sorted_one (made_sorted _) ((made_sorted a).filter _) (made_nd hX) ((made_nd ha).filter _) fun v => ?_
  rw [made_mem hX, both_sp ha hb, List.mem_filter, decide_eq_true_iff, made_mem ha, made_mem hb]
/-- no row of a base is made by those ahead of it -/
theorem base_new {P : List Wd} {w : Wd} {R : List Wd} (E : Ech (P ++ w :: R)) : ¬ w ∈ allW P := by
  obtain ⟨ri, ne, ap⟩ := E
  obtain ⟨p1, p2, p3⟩ := List.pairwise_append.mp ap
  have EP : Ech P := ⟨fun r hr => ri r (List.mem_append_left _ hr), fun r hr => ne r (List.mem_append_left _ hr), p1⟩
  have wn := ne w (List.mem_append_right _ List.mem_cons_self)
  intro h
  have hs := ((all_ok EP.ris).mem w).mp h
  obtain ⟨r, hr, e⟩ := sp_hd EP hs wn
  have := (p3 r hr w List.mem_cons_self).1
  rw [e] at this
  exact this (hd_mem wn)
theorem all_snoc (P : List Wd) (w : Wd) : allW (P ++ [w]) = allStep (allW P) w := by unfold allW; rw [List.foldl_append]; rfl
theorem all_head (ws : List Wd) : ∃ r, allW ws = [] :: r := by
  have main : ∀ (ws : List Wd) (f : List Wd), (∃ r, f = [] :: r) → ∃ r, ws.foldl allStep f = [] :: r := by
    intro ws
    induction ws with
    | nil => exact fun f h => h
    | cons w ws ih =>
      rintro f ⟨r, rfl⟩
      refine ih _ ?_
      unfold allStep
      split
      · exact ⟨r, rfl⟩
      · exact ⟨r ++ ([] :: r).map (symI w), rfl⟩
  exact main ws [[]] ⟨[], rfl⟩
theorem sortable0 {ws : List Wd} (h : ∃ r, ws = [] :: r) : sortable (dL ws) = true := by
  obtain ⟨r, rfl⟩ := h
  unfold sortable
  rw [Bool.or_eq_true]
  right
  show ((dL ([] :: r)).all fun d => match d with | .tuple _ => true | _ => false) = true
  rw [List.all_eq_true]
  intro d hd
  obtain ⟨w, _, rfl⟩ := mem_dL.mp hd
  rfl
theorem sorted_ws0 {ws : List Wd} (h : ∃ r, ws = [] :: r) : bi .sorted [.list (dL ws)] = some (.fresh (.lst (dL (srtW ws)))) := by
  show (if allAlike (dL ws) = true ∧ sortable (dL ws) = true ∧ ((dL ws).all fun d => decide (d.depth ≤ 60)) = true then some (R.fresh (.lst (sortD (dL ws)))) else none) = _
  rw [if_pos ⟨allAlike_ws ws, sortable0 h, depth_ws ws⟩, sortD_ws]
end Vs
set_option Elab.async false
set_option linter.all false
set_option maxRecDepth 10000
/-! Vs10: what both make beyond others. -/
namespace Vs
open Ev PySem
theorem bo_nil : baseOf [] = [] := srt_val (List.Perm.refl _) List.Pairwise.nil
theorem by_nil {ws : List Wd} : bynd ws [] = baseOf ws := by
  unfold bynd
  rw [bo_nil]
  have h : ∀ w : Wd, red [] w = w := fun _ => rfl
  rw [show red [] = id from funext h, List.map_id]
/-- what both make beyond others -/
def bbW (a b S : List Wd) : List Wd := bynd (bothW (a ++ S) (b ++ S)) S
section
variable {a b S : List Wd} (ha : Ws a) (hb : Ws b) (hS : Ws S)
include ha hb hS
theorem bb_X : Ws (bothW (a ++ S) (b ++ S)) := ws_both (ws_app ha hS) (ws_app hb hS)
theorem bb_self : baseOf (bothW (a ++ S) (b ++ S)) = bothW (a ++ S) (b ++ S) := bo_self (bm_ok (ws_app ha hS).all (ws_app hb hS).all).fnd
theorem bb_S {v : Wd} (h : Sp S v) : Sp (bothW (a ++ S) (b ++ S)) v :=
  (both_sp (ws_app ha hS).all (ws_app hb hS).all v).mpr ⟨h.sub hS.all fun x hx => List.mem_append_right _ hx, h.sub hS.all fun x hx => List.mem_append_right _ hx⟩
theorem bb_XS : baseOf (bothW (a ++ S) (b ++ S) ++ S) = bothW (a ++ S) (b ++ S) := by
  have hX := bb_X ha hb hS
  refine (bo_eq (ws_app hX hS).all hX.all fun v => ⟨fun q => q.le fun x hx => ?_, fun q => q.sub hX.all fun x hx => List.mem_append_left _ hx⟩).trans (bb_self ha hb hS)
  rcases List.mem_append.mp hx with y | y
  · exact .own y (hX x y).ris
  · exact bb_S ha hb hS (.own y (hS x y).ris)
theorem bb_ws : Ws (bbW a b S) := ws_bo (ws_rests (bb_X ha hb hS) hS)
theorem bb_ech : Ech (bbW a b S) := bo_ech (ws_rests (bb_X ha hb hS) hS).all
theorem bb_bo : baseOf (bbW a b S) = bbW a b S := bo_self (ws_rests (bb_X ha hb hS) hS).all
theorem bb_with : baseOf (bbW a b S ++ S) = bothW (a ++ S) (b ++ S) := (bynd_same (bb_X ha hb hS).all hS.all).trans (bb_XS ha hb hS)
theorem bb_sp {v : Wd} (h : Sp (bbW a b S) v) : Sp (bothW (a ++ S) (b ++ S)) v := by
  have hX := bb_X ha hb hS
  have := (rests_sp hX.all hS.all ((bo_sp (ws_rests hX hS).all v).mp h)).2
  rw [← bo_sp (ws_app hX hS).all, bb_XS ha hb hS] at this
  exact this
/-- how many -/
theorem bb_len : (bbW a b S).length + (baseOf (a ++ b ++ S)).length + (baseOf S).length = (baseOf (a ++ S)).length + (baseOf (b ++ S)).length := by
  have hA := ws_app ha hS
  have hB := ws_app hb hS
  have r1 := rank_both hA.all hB.all
  have r2 := rank_add (bb_X ha hb hS).all hS.all
  rw [bb_XS ha hb hS] at r2
  have e : baseOf (a ++ S ++ (b ++ S)) = baseOf (a ++ b ++ S) := bo_mem (ws_app hA hB).all (ws_app (ws_app ha hb) hS).all fun w => by
    simp only [List.mem_append]
    constructor
    · rintro ((h | h) | (h | h)) <;> simp [h]
    · rintro ((h | h) | h) <;> simp [h]
  rw [e] at r1
  have : (bbW a b S).length = (bynd (bothW (a ++ S) (b ++ S)) S).length := rfl
  omega
/-- each of them: made by either with the others, not by the others -/
theorem bb_each {w : Wd} (h : w ∈ bbW a b S) : mkB (a ++ S) w = true ∧ mkB (b ++ S) w = true ∧ mkB S w = false := by
  have hX := bb_X ha hb hS
  have E := bb_ech ha hb hS
  have rw' := E.ris w h
  have h1 := (both_sp (ws_app ha hS).all (ws_app hb hS).all w).mp (bb_sp ha hb hS (.own h rw'))
  refine ⟨(mk_iff (ws_app ha hS).all rw').mpr h1.1, (mk_iff (ws_app hb hS).all rw').mpr h1.2, ?_⟩
  cases hm : mkB S w with
  | false => rfl
  | true =>
    have h2 := (mk_iff hS.all rw').mp hm
    have nl := (rests_sp hX.all hS.all ((bo_sp (ws_rests hX hS).all w).mp (.own h rw'))).1
    exact absurd (sp_none (bo_ech hS.all) ((bo_sp hS.all w).mpr h2) nl) (E.ne w h)
end
theorem bb_nil {a b : List Wd} (ha : Ws a) (hb : Ws b) : bbW a b [] = bothW a b := by
  unfold bbW
  rw [List.append_nil, List.append_nil, by_nil]
  exact bo_self (bm_ok ha.all hb.all).fnd
/-- by how many a word more among the others turns it -/
def trn (a b S : List Wd) (w : Wd) : Int := if mkB S w = true then 0 else if mkB (a ++ S) w = true ∧ mkB (b ++ S) w = true then -1 else if mkB (a ++ S) w = false ∧ mkB (b ++ S) w = false ∧ mkB (a ++ b ++ S) w = true then 1 else 0
theorem mk_mono {A B : List Wd} (hA : Ws A) (hB : Ws B) {w : Wd} (hw : Wk w) (h : ∀ x ∈ A, x ∈ B) (m : mkB A w = true) : mkB B w = true :=
  (mk_iff hB.all hw.ris).mpr (((mk_iff hA.all hw.ris).mp m).sub hA.all h)
theorem bb_more {a b S : List Wd} (ha : Ws a) (hb : Ws b) (hS : Ws S) {w : Wd} (hw : Wk w) : ((bbW a b (S ++ [w])).length : Int) = (bbW a b S).length + trn a b S w := by
  have h1 : Ws [w] := ws_cons' hw ws_nil'
  have hSw := ws_app hS h1
  have l1 := bb_len ha hb hS
  have l2 := bb_len ha hb hSw
  have as : ∀ X : List Wd, X ++ (S ++ [w]) = X ++ S ++ [w] := fun X => (List.append_assoc _ _ _).symm
  rw [as, as, as] at l2
  have rA := rank_more (ws_app ha hS).all hw.ris
  have rB := rank_more (ws_app hb hS).all hw.ris
  have rC := rank_more (ws_app (ws_app ha hb) hS).all hw.ris
  have rS := rank_more hS.all hw.ris
  have m1 : mkB S w = true → mkB (a ++ S) w = true := mk_mono hS (ws_app ha hS) hw fun x hx => List.mem_append_right _ hx
  have m2 : mkB S w = true → mkB (b ++ S) w = true := mk_mono hS (ws_app hb hS) hw fun x hx => List.mem_append_right _ hx
  have m3 : mkB (a ++ S) w = true → mkB (a ++ b ++ S) w = true := mk_mono (ws_app ha hS) (ws_app (ws_app ha hb) hS) hw fun x hx => by
    rcases List.mem_append.mp hx with y | y <;> simp [y]
  have m4 : mkB (b ++ S) w = true → mkB (a ++ b ++ S) w = true := mk_mono (ws_app hb hS) (ws_app (ws_app ha hb) hS) hw fun x hx => by
    rcases List.mem_append.mp hx with y | y <;> simp [y]
  unfold trn
  generalize (baseOf (a ++ S ++ [w])).length = n1 at *
  generalize (baseOf (b ++ S ++ [w])).length = n2 at *
  generalize (baseOf (a ++ b ++ S ++ [w])).length = n3 at *
  generalize (baseOf (S ++ [w])).length = n4 at *
  generalize (bbW a b (S ++ [w])).length = n5 at *
  generalize (bbW a b S).length = n6 at *
  generalize (baseOf (a ++ S)).length = n7 at *
  generalize (baseOf (b ++ S)).length = n8 at *
  generalize (baseOf (a ++ b ++ S)).length = n9 at *
  generalize (baseOf S).length = n10 at *
  revert rA rB rC rS m1 m2 m3 m4
  cases mkB S w <;> cases mkB (a ++ S) w <;> cases mkB (b ++ S) w <;> cases mkB (a ++ b ++ S) w <;> simp <;> intros <;> omega
/-- more in the one takes nothing away -/
theorem bb_wider {a a' b S : List Wd} (ha : Ws a) (ha' : Ws a') (hb : Ws b) (hS : Ws S) (h : ∀ x ∈ a, x ∈ a') {w : Wd} (hw : w ∈ bbW a b S) : mkB (bbW a' b S ++ S) w = true := by
  have E := bb_ech ha hb hS
  have r := E.ris w hw
  have h1 := (both_sp (ws_app ha hS).all (ws_app hb hS).all w).mp (bb_sp ha hb hS (.own hw r))
  have hw2 := ws_app (bb_ws ha' hb hS) hS
  refine (mk_iff hw2.all r).mpr ?_
  rw [← bo_sp hw2.all, bb_with ha' hb hS, both_sp (ws_app ha' hS).all (ws_app hb hS).all]
  exact ⟨h1.1.sub (ws_app ha hS).all fun x hx => by
    rcases List.mem_append.mp hx with y | y
    · exact List.mem_append_left _ (h x y)
    · exact List.mem_append_right _ y, h1.2⟩
/-- words of it said: none more -/
theorem bb_said {a b S : List Wd} (ha : Ws a) (hb : Ws b) (hS : Ws S) {w : Wd} (hw : Wk w) (h1 : Sp (a ++ S) w) (h2 : Sp (b ++ S) w) : (bbW a b (S ++ [w])).length ≤ (bbW a b S).length := by
  have := bb_more ha hb hS hw
  have q1 := (mk_iff (ws_app ha hS).all hw.ris).mpr h1
  have q2 := (mk_iff (ws_app hb hS).all hw.ris).mpr h2
  unfold trn at this
  rw [if_pos (show mkB (a ++ S) w = true ∧ mkB (b ++ S) w = true from ⟨q1, q2⟩)] at this
  split at this <;> omega
/-- all said: none is left -/
theorem bb_all {a b S T : List Wd} (ha : Ws a) (hb : Ws b) (hS : Ws S) (hT : Ws T) (h1 : ∀ x ∈ T, Sp (bothW (a ++ S) (b ++ S)) x) (h2 : ∀ x ∈ bbW a b S, x ∈ T) : (bbW a b (S ++ T)).length = 0 := by
  have hST := ws_app hS hT
  have hX := bb_X ha hb hS
  have hA := ws_app ha hS
  have hB := ws_app hb hS
  have hC := ws_app (ws_app ha hb) hS
  have inA : ∀ x ∈ T, Sp (a ++ S) x := fun x hx => ((both_sp hA.all hB.all x).mp (h1 x hx)).1
  have inB : ∀ x ∈ T, Sp (b ++ S) x := fun x hx => ((both_sp hA.all hB.all x).mp (h1 x hx)).2
  have key : ∀ {Y : List Wd}, Ws Y → (∀ x ∈ T, Sp (Y ++ S) x) → baseOf (Y ++ (S ++ T)) = baseOf (Y ++ S) := fun {Y} hY hx => by
    rw [← List.append_assoc]
    have hYS := ws_app hY hS
    refine bo_eq (ws_app hYS hT).all hYS.all fun v => ⟨fun q => q.le fun x hx2 => ?_, fun q => q.sub hYS.all fun x hx2 => List.mem_append_left _ hx2⟩
    rcases List.mem_append.mp hx2 with y | y
    · exact .own y (hYS x y).ris
    · exact hx x y
  have k1 := key ha inA
  have k2 := key hb inB
  have k3 := key (ws_app ha hb) fun x hx => (inA x hx).sub hA.all fun y hy => by
    rcases List.mem_append.mp hy with z | z <;> simp [z]
  have l1 := bb_len ha hb hST
  rw [k1, k2, k3] at l1
  have r1 := rank_both hA.all hB.all
  have e : baseOf (a ++ S ++ (b ++ S)) = baseOf (a ++ b ++ S) := bo_mem (ws_app hA hB).all hC.all fun w => by
    simp only [List.mem_append]
    constructor
    · rintro ((h | h) | (h | h)) <;> simp [h]
    · rintro ((h | h) | h) <;> simp [h]
  rw [e] at r1
  have e2 : baseOf (S ++ T) = bothW (a ++ S) (b ++ S) := by
    rw [← bb_with ha hb hS]
    refine bo_eq hST.all (ws_app (bb_ws ha hb hS) hS).all fun v => ⟨fun q => ?_, fun q => q.le fun x hx => ?_⟩
    · rw [← bo_sp (ws_app (bb_ws ha hb hS) hS).all, bb_with ha hb hS]
      refine q.le fun x hx => ?_
      rcases List.mem_append.mp hx with y | y
      · exact bb_S ha hb hS (.own y (hS x y).ris)
      · exact h1 x y
    · rcases List.mem_append.mp hx with y | y
      · exact .own (List.mem_append_right _ (h2 x y)) ((bb_ws ha hb hS) x y).ris
      · exact .own (List.mem_append_left _ y) (hS x y).ris
  rw [e2] at l1
  omega
end Vs
set_option Elab.async false
set_option linter.all false
/-! Vs11: parities of what two words have in common; how many rows, how many turns. -/
namespace Vs
open Ev
/-- an odd number of letters in common -/
def od (a t : Wd) : Bool := decide ((a.filter fun k => decide (k ∈ t)).length % 2 = 1)
theorem od_nil (t : Wd) : od [] t = false := rfl
theorem od_nil2 (a : Wd) : od a [] = false := by
  unfold od
  rw [List.filter_eq_nil_iff.mpr (fun k _ => by simp)]
  rfl
theorem od_cons (k : Int) (a t : Wd) : od (k :: a) t = (decide (k ∈ t) ^^ od a t) := by
  unfold od
  rw [List.filter_cons]
  generalize a.filter (fun k => decide (k ∈ t)) = l
  by_cases h : k ∈ t
  · rw [if_pos (by simpa using h), List.length_cons, decide_eq_true h, Bool.true_xor, ← decide_not]
    exact decide_eq_decide.mpr (by omega)
  · rw [if_neg (by simpa using h), decide_eq_false h, Bool.false_xor]
/-- linear in what it is asked of -/
theorem od_sym2 (a : Wd) (t s : Wd) : od a (symI t s) = (od a t ^^ od a s) := by
  induction a with
  | nil => rfl
  | cons k a ih =>
    rw [od_cons, od_cons, od_cons, ih]
    have m : decide (k ∈ symI t s) = (decide (k ∈ t) ^^ decide (k ∈ s)) := by
      have := m_sym (a := t) (b := s) (j := k)
      by_cases h1 : k ∈ t <;> by_cases h2 : k ∈ s <;> simp [this, h1, h2]
    rw [m]
    cases decide (k ∈ t) <;> cases decide (k ∈ s) <;> cases od a t <;> cases od a s <;> rfl
theorem od_comm {a t : Wd} (ha : Rs a) (ht : Rs t) : od a t = od t a := by
  unfold od
  have e : (a.filter fun k => decide (k ∈ t)) = t.filter fun k => decide (k ∈ a) := ris_one (ha.filter _) (ht.filter _) fun k => by
    simp only [List.mem_filter, decide_eq_true_eq]
    exact And.comm
  rw [e]
theorem od_sym {a b t : Wd} (ha : Rs a) (hb : Rs b) (ht : Rs t) : od (symI a b) t = (od a t ^^ od b t) := by
  rw [od_comm (r_sym a b) ht, od_sym2, od_comm ht ha, od_comm ht hb]
/-- what is even with all is even with what they make -/
theorem od_made {S : List Wd} (hS : All S) {t : Wd} (ht : Rs t) (h : ∀ s ∈ S, od s t = false) {v : Wd} (hv : Sp S v) : od v t = false := by
  induction hv with
  | zero => rfl
  | @add v w hw hv ih => rw [od_sym hv.ris (hS w hw) ht, ih, h w hw]; rfl
/-- the turn that parts: a letter of the rest, and the first letters of the rows that have it -/
def part (B : List Wd) (s : Int) : Wd := (s :: (B.filter fun b => decide (s ∈ b)).map hd).foldr insI []
theorem part_mem {B : List Wd} {s k : Int} : k ∈ part B s ↔ k = s ∨ ∃ b ∈ B, s ∈ b ∧ hd b = k := by
  unfold part
  rw [mem_fold, List.mem_cons, List.mem_map]
  simp only [List.mem_filter, decide_eq_true_eq]
  constructor
  · rintro (h | ⟨b, ⟨h1, h2⟩, h3⟩)
    · exact .inl h
    · exact .inr ⟨b, h1, h2, h3⟩
  · rintro (h | ⟨b, h1, h2, h3⟩)
    · exact .inl h
    · exact .inr ⟨b, ⟨h1, h2⟩, h3⟩
theorem part_ris {B : List Wd} {s : Int} : Rs (part B s) := fold_ris _
/-- of a rising list two letters alone -/
theorem two_of {l : List Int} (h : Rs l) {x y : Int} (hxy : x ≠ y) (m : ∀ k, k ∈ l ↔ k = x ∨ k = y) : l.length = 2 := by
  have h1 : l.length ≤ [x, y].length := nodup_le (ris_nodup h) fun k hk => by
    rcases (m k).mp hk with rfl | rfl <;> simp
  have h2 : [x, y].length ≤ l.length := nodup_le (by simp [hxy]) fun k hk => (m k).mpr (by simpa using hk)
  simp at h1 h2
  omega
theorem one_of {l : List Int} (h : Rs l) {x : Int} (m : ∀ k, k ∈ l ↔ k = x) : l.length = 1 := by
  have h1 : l.length ≤ [x].length := nodup_le (ris_nodup h) fun k hk => by
    rw [(m k).mp hk]
    simp
  have h2 : [x].length ≤ l.length := nodup_le (by simp) fun k hk => (m k).mpr (by simpa using hk)
  simp at h1 h2
  omega
/-- even with every row -/
theorem part_row {B : List Wd} (E : Ech B) {s : Int} (hs : ∀ b ∈ B, hd b ≠ s) {b : Wd} (hb : b ∈ B) : od b (part B s) = false := by
  unfold od
  have r := (E.ris b hb)
  have ne := E.ne b hb
  have mem : ∀ k, k ∈ (b.filter fun k => decide (k ∈ part B s)) ↔ k ∈ b ∧ (k = s ∨ ∃ c ∈ B, s ∈ c ∧ hd c = k) := fun k => by
    rw [List.mem_filter, decide_eq_true_eq, part_mem]
  by_cases h : s ∈ b
  · have e : (b.filter fun k => decide (k ∈ part B s)).length = 2 := two_of (r.filter _) (x := s) (y := hd b) (fun z => hs b hb z.symm) fun k => by
      rw [mem]
      constructor
      · rintro ⟨h1, h2 | ⟨c, hc, _, rfl⟩⟩
        · exact .inl h2
        · right
          rw [ech_hd E hc hb h1]
      · rintro (rfl | rfl)
        · exact ⟨h, .inl rfl⟩
        · exact ⟨hd_mem ne, .inr ⟨b, hb, h, rfl⟩⟩
    rw [e]
    rfl
  · have e : (b.filter fun k => decide (k ∈ part B s)) = [] := List.eq_nil_iff_forall_not_mem.mpr fun k hk => by
      obtain ⟨h1, h2 | ⟨c, hc, hsc, rfl⟩⟩ := (mem k).mp hk
      · exact h (h2 ▸ h1)
      · rw [ech_hd E hc hb h1] at hsc
        exact h hsc
    rw [e]
    rfl
/-- odd with a rest that has the letter and no row's first one -/
theorem part_rest {B : List Wd} {s : Int} {v : Wd} (rv : Rs v) (hs : s ∈ v) (hv : ∀ b ∈ B, ¬ hd b ∈ v) : od v (part B s) = true := by
  unfold od
  have e : (v.filter fun k => decide (k ∈ part B s)).length = 1 := one_of (rv.filter _) (x := s) fun k => by
    rw [List.mem_filter, decide_eq_true_eq, part_mem]
    constructor
    · rintro ⟨h1, h2 | ⟨c, hc, _, rfl⟩⟩
      · exact h2
      · exact (hv c hc h1).elim
    · rintro rfl
      exact ⟨hs, .inl rfl⟩
  rw [e]
  rfl
/-- where a word isn't made there is a turn that parts -/
theorem part_ok {ws : List Wd} (a : All ws) {w : Wd} (rw' : Rs w) (hn : red (baseOf ws) w ≠ []) :
    (∀ b ∈ ws, od b (part (baseOf ws) (hd (red (baseOf ws) w))) = false) ∧ od w (part (baseOf ws) (hd (red (baseOf ws) w))) = true := by
  have E := bo_ech a
  have hno := red_no E (e := w)
  have hmem := hd_mem hn
  have hs : ∀ b ∈ baseOf ws, hd b ≠ hd (red (baseOf ws) w) := fun b hb z => hno b hb (z ▸ hmem)
  have rows : ∀ b ∈ baseOf ws, od b (part (baseOf ws) (hd (red (baseOf ws) w))) = false := fun b hb => part_row E hs hb
  have rr : Rs (red (baseOf ws) w) := red_ris rw'
  refine ⟨fun b hb => od_made E.ris part_ris rows ((bo_sp a b).mpr (.own hb (a b hb))), ?_⟩
  have h1 : Sp (baseOf ws) (symI w (red (baseOf ws) w)) := red_sp (fun r hr => .own hr (E.ris r hr)) rw'
  have h2 := od_made E.ris part_ris rows h1
  rw [od_sym rw' rr part_ris, part_rest rr hmem hno] at h2
  cases h : od w (part (baseOf ws) (hd (red (baseOf ws) w))) with
  | true => rfl
  | false => rw [h] at h2; cases h2
end Vs
set_option Elab.async false
set_option linter.all false
/-! Vs12: how many turns are even with all; how many rows of places make a word. -/
namespace Vs
open Ev
theorem sp_let {p : Int → Prop} {S : List Wd} (h : ∀ w ∈ S, ∀ k ∈ w, p k) {v : Wd} (hv : Sp S v) : ∀ k ∈ v, p k := by
  induction hv with
  | zero => exact fun k hk => absurd hk List.not_mem_nil
  | @add v w hw _ ih =>
    intro k hk
    rw [m_sym] at hk
    by_cases c : k ∈ v
    · exact ih k c
    · exact h w hw k (by
        apply Classical.byContradiction
        intro z
        exact c (hk.mpr z))
def singles (m : Nat) : List Wd := (List.range m).map fun (k : Nat) => [(k : Int)]
theorem all_singles (m : Nat) : All (singles m) := fun w hw => by
  obtain ⟨k, _, rfl⟩ := List.mem_map.mp hw
  exact List.pairwise_singleton _ _
/-- all words of the letters below m -/
def Lw (m : Nat) (v : Wd) : Prop := Rs v ∧ ∀ k ∈ v, 0 ≤ k ∧ k < m
theorem lw_sym {m : Nat} {a b : Wd} (ha : Lw m a) (hb : Lw m b) : Lw m (symI a b) := ⟨r_sym _ _, fun k hk => by
  rw [m_sym] at hk
  by_cases c : k ∈ a
  · exact ha.2 k c
  · exact hb.2 k (by
      apply Classical.byContradiction
      intro z
      exact c (hk.mpr z))⟩
theorem sp_singles {m : Nat} {v : Wd} : Sp (singles m) v ↔ Lw m v := by
  constructor
  · intro h
    refine ⟨h.ris, sp_let (p := fun k => 0 ≤ k ∧ k < m) (fun w hw k hk => ?_) h⟩
    obtain ⟨j, hj, rfl⟩ := List.mem_map.mp hw
    rw [List.mem_singleton.mp hk]
    have := List.mem_range.mp hj
    omega
  · rintro ⟨r, h⟩
    induction v with
    | nil => exact .zero
    | cons k v ih =>
      have h1 := ih (List.pairwise_cons.mp r).2 fun j hj => h j (List.mem_cons_of_mem _ hj)
      obtain ⟨k0, k1⟩ := h k List.mem_cons_self
      have hm : [k] ∈ singles m := List.mem_map.mpr ⟨k.toNat, List.mem_range.mpr (by omega), by
        rw [show ((k.toNat : Nat) : Int) = k by omega]⟩
      have e : symI [k] v = k :: v := ris_one (r_sym _ _) r fun j => by
        rw [m_sym, List.mem_singleton, List.mem_cons]
        by_cases c : j = k
        · subst c
          simp only [true_iff, true_or, iff_true]
          intro z
          have := (List.pairwise_cons.mp r).1 j z
          omega
        · simp [c]
      rw [← e]
      exact (Sp.own hm (List.pairwise_singleton _ _)).sum h1
def turnsW (m : Nat) : List Wd := madeW (singles m)
theorem turns_mem {m : Nat} {v : Wd} : v ∈ turnsW m ↔ Lw m v := (made_mem (all_singles m) v).trans sp_singles
theorem turns_nd (m : Nat) : (turnsW m).Nodup := made_nd (all_singles m)
theorem turns_len {m : Nat} (h : m ≤ 6) : (turnsW m).length = 2 ^ m := by
  unfold turnsW
  rw [made_len (all_singles m), bo_len]
  have : m = 0 ∨ m = 1 ∨ m = 2 ∨ m = 3 ∨ m = 4 ∨ m = 5 ∨ m = 6 := by omega
  rcases this with rfl | rfl | rfl | rfl | rfl | rfl | rfl <;> decide +kernel
theorem split_len {α : Type} (p : α → Bool) : ∀ l : List α, l.length = (l.filter p).length + (l.filter fun a => !p a).length
  | [] => rfl
  | a :: l => by
    rw [List.length_cons, split_len p l, List.filter_cons, List.filter_cons]
    cases h : p a
    · simp
      omega
    · simp
      omega
/-- put over by a turn: as many there as here -/
theorem over_le {A B : List Wd} (nA : A.Nodup) (hA : All A) {t : Wd} (h : ∀ v ∈ A, symI v t ∈ B) : A.length ≤ B.length := by
  have nd : (A.map fun v => symI v t).Nodup := by
    unfold List.Nodup
    rw [List.pairwise_map]
    refine List.Pairwise.imp_of_mem (fun {x y} hx hy hne z => hne ?_) nA
    have z : symI x t = symI y t := z
    have := s_back2 (a := x) (b := t) (hA x hx)
    rw [z, s_back2 (hA y hy)] at this
    exact this.symm
  have := nodup_le' nd fun k hk => by
    obtain ⟨v, hv, rfl⟩ := List.mem_map.mp hk
    exact h v hv
  rwa [List.length_map] at this
def evens (S : List Wd) (U : List Wd) : List Wd := U.filter fun t => S.all fun s => !od s t
theorem ev_mem' {S U : List Wd} {t : Wd} : t ∈ evens S U ↔ t ∈ U ∧ ∀ s ∈ S, od s t = false := by
  unfold evens
  rw [List.mem_filter, List.all_eq_true]
  simp
theorem evens_snoc (S U : List Wd) (w : Wd) : evens (S ++ [w]) U = (evens S U).filter fun t => !od w t := by
  unfold evens
  rw [List.filter_filter]
  congr 1
  funext t
  rw [List.all_append, Bool.and_comm]
  simp
/-- half of them -/
theorem half {m : Nat} {S : List Wd} (hS : ∀ s ∈ S, Lw m s) {w : Wd} (hw : Lw m w) (hn : mkB S w = false) : ((evens S (turnsW m)).filter fun t => !od w t).length = ((evens S (turnsW m)).filter fun t => od w t).length := by
  have aS : All S := fun s hs => (hS s hs).1
  have hr : red (baseOf S) w ≠ [] := fun z => by
    unfold mkB at hn
    rw [z] at hn
    cases hn
  obtain ⟨p1, p2⟩ := part_ok aS hw.1 hr
  have rr : Rs (red (baseOf S) w) := red_ris hw.1
  have lb : ∀ b ∈ baseOf S, Lw m b := fun b hb => ⟨(bo_ech aS).ris b hb, sp_let (p := fun k => 0 ≤ k ∧ k < m) (fun w hw => (hS w hw).2) ((bo_sp aS b).mp (.own hb ((bo_ech aS).ris b hb)))⟩
  have lr : ∀ k ∈ red (baseOf S) w, 0 ≤ k ∧ k < m := by
    have h1 : Sp (baseOf S ++ [w]) (red (baseOf S) w) := by
      have h2 : Sp (baseOf S) (symI w (red (baseOf S) w)) := red_sp (fun r hr => .own hr ((bo_ech aS).ris r hr)) hw.1
      have e : red (baseOf S) w = symI w (symI w (red (baseOf S) w)) := (s_back rr).symm
      rw [e]
      refine (Sp.own (List.mem_append_right _ List.mem_cons_self) hw.1).sum (h2.le fun x hx => .own (List.mem_append_left _ hx) ((bo_ech aS).ris x hx))
    refine sp_let (p := fun k => 0 ≤ k ∧ k < m) (fun x hx => ?_) h1
    rcases List.mem_append.mp hx with h | h
    · exact (lb x h).2
    · rw [List.mem_singleton.mp h]
      exact hw.2
  generalize hT : part (baseOf S) (hd (red (baseOf S) w)) = T at p1 p2
  have lT : Lw m T := by
    rw [← hT]
    refine ⟨part_ris, fun k hk => ?_⟩
    rcases part_mem.mp hk with h | ⟨b, hb, _, rfl⟩
    · rw [h]
      exact lr _ (hd_mem hr)
    · exact (lb b hb).2 _ (hd_mem ((bo_ech aS).ne b hb))
  have nd : (evens S (turnsW m)).Nodup := (turns_nd m).filter _
  have allE : ∀ v ∈ evens S (turnsW m), Rs v := fun v hv => (turns_mem.mp (ev_mem'.mp hv).1).1
  have step : ∀ v ∈ evens S (turnsW m), symI v T ∈ evens S (turnsW m) ∧ od w (symI v T) = !od w v := fun v hv => by
    obtain ⟨h1, h2⟩ := ev_mem'.mp hv
    refine ⟨ev_mem'.mpr ⟨turns_mem.mpr (lw_sym (turns_mem.mp h1) lT), fun s hs => by rw [od_sym2, h2 s hs, p1 s hs]; rfl⟩, ?_⟩
    rw [od_sym2, p2]
    cases od w v <;> rfl
  apply Nat.le_antisymm
  · refine over_le (t := T) (nd.filter _) (fun v hv => allE v ((List.mem_filter.mp hv).1)) fun v hv => ?_
    obtain ⟨h1, h2⟩ := List.mem_filter.mp hv
    obtain ⟨h3, h4⟩ := step v h1
    exact List.mem_filter.mpr ⟨h3, by rw [h4]; exact h2⟩
  · refine over_le (t := T) (nd.filter _) (fun v hv => allE v ((List.mem_filter.mp hv).1)) fun v hv => ?_
    obtain ⟨h1, h2⟩ := List.mem_filter.mp hv
    obtain ⟨h3, h4⟩ := step v h1
    exact List.mem_filter.mpr ⟨h3, by rw [h4, Bool.not_not]; exact h2⟩
theorem evens_count {m : Nat} (hm : m ≤ 6) : ∀ (n : Nat) (S : List Wd), S.length = n → (∀ s ∈ S, Lw m s) → (evens S (turnsW m)).length * 2 ^ (baseOf S).length = 2 ^ m
  | 0, S, hl, _ => by
    have : S = [] := List.length_eq_zero_iff.mp hl
    subst this
    have e : evens [] (turnsW m) = turnsW m := by unfold evens; simp
    rw [e, turns_len hm]
    have : (baseOf []).length = 0 := by rw [bo_len]; rfl
    rw [this, Nat.pow_zero, Nat.mul_one]
  | n + 1, S, hl, hS => by
    rcases List.eq_nil_or_concat S with rfl | ⟨T, w, rfl⟩
    · cases hl
    rw [List.concat_eq_append] at *
    have hT : ∀ s ∈ T, Lw m s := fun s hs => hS s (List.mem_append_left _ hs)
    have hw := hS w (List.mem_append_right _ List.mem_cons_self)
    have aT : All T := fun s hs => (hT s hs).1
    have ih := evens_count hm n T (by rw [List.length_append] at hl; simp at hl; exact hl) hT
    rw [evens_snoc, rank_more aT hw.1]
    cases hk : mkB T w with
    | true =>
      have e : ((evens T (turnsW m)).filter fun t => !od w t) = evens T (turnsW m) := List.filter_eq_self.mpr fun t ht => by
        obtain ⟨h1, h2⟩ := ev_mem'.mp ht
        rw [od_made aT (turns_mem.mp h1).1 h2 ((mk_iff aT hw.1).mp hk)]
        rfl
      rw [e, if_pos rfl, Nat.add_zero]
      exact ih
    | false =>
      have h1 := half hT hw hk
      have h2 := split_len (fun t => od w t) (evens T (turnsW m))
      rw [if_neg (by simp), Nat.pow_succ, ← ih]
      have h2' : (evens T (turnsW m)).length = ((evens T (turnsW m)).filter fun t => od w t).length + ((evens T (turnsW m)).filter fun t => !od w t).length := h2
      rw [h2', ← h1]
      generalize ((evens T (turnsW m)).filter fun t => !od w t).length = x
      generalize 2 ^ (baseOf T).length = y
      rw [← Nat.mul_assoc, Nat.mul_comm (x * y) 2, ← Nat.mul_assoc, Nat.two_mul]
/-- how many turns part a word that isn't made -/
theorem frees_count {m : Nat} (hm : m ≤ 6) {S : List Wd} (hS : ∀ s ∈ S, Lw m s) {w : Wd} (hw : Lw m w) (hn : mkB S w = false) : ((evens S (turnsW m)).filter fun t => od w t).length * 2 ^ ((baseOf S).length + 1) = 2 ^ m := by
  have aS : All S := fun s hs => (hS s hs).1
  have h1 := evens_count hm (S ++ [w]).length (S ++ [w]) rfl fun s hs => by
    rcases List.mem_append.mp hs with h | h
    · exact hS s h
    · rw [List.mem_singleton.mp h]; exact hw
  rw [evens_snoc, rank_more aS hw.1, hn, if_neg (by simp), half hS hw hn] at h1
  exact h1
theorem frees_none {m : Nat} {S : List Wd} (aS : All S) {w : Wd} (hw : Rs w) (hn : mkB S w = true) : ((evens S (turnsW m)).filter fun t => od w t) = [] := by
  refine List.filter_eq_nil_iff.mpr fun t ht => ?_
  obtain ⟨h1, h2⟩ := ev_mem'.mp ht
  rw [od_made aS (turns_mem.mp h1).1 h2 ((mk_iff aS hw).mp hn)]
  simp
end Vs
set_option Elab.async false
set_option linter.all false
/-! Vs13: sums of places. -/
namespace Vs
open Ev
def atP (ws : List Wd) (p : Int) : Wd := ws.getD p.toNat []
def sumsW (ws : List Wd) : Wd := ws.foldl symI []
/-- the sum of the words at some places -/
def sumAt (ws : List Wd) (own : Wd) : Wd := sumsW (own.map (atP ws))
/-- the places of the words that have a letter -/
def havers (ws : List Wd) (k : Int) : Wd := ((List.range ws.length).map fun (p : Nat) => (p : Int)).filter fun p => decide (k ∈ atP ws p)
theorem havers_ris (ws : List Wd) (k : Int) : Rs (havers ws k) := by
  refine List.Pairwise.filter _ ?_
  rw [List.pairwise_map]
  exact List.pairwise_lt_range.imp fun h => by omega
theorem havers_mem {ws : List Wd} {k p : Int} : p ∈ havers ws k ↔ (0 ≤ p ∧ p < ws.length) ∧ k ∈ atP ws p := by
  unfold havers
  rw [List.mem_filter, List.mem_map, decide_eq_true_eq]
  constructor
  · rintro ⟨⟨q, hq, rfl⟩, h⟩
    have := List.mem_range.mp hq
    exact ⟨by omega, h⟩
  · rintro ⟨⟨h0, h1⟩, h⟩
    exact ⟨⟨p.toNat, List.mem_range.mpr (by omega), by omega⟩, h⟩
theorem sums_mem (k : Int) : ∀ (vs : List Wd) (a : Wd), k ∈ vs.foldl symI a ↔ (decide (k ∈ a) ^^ decide ((vs.filter fun w => decide (k ∈ w)).length % 2 = 1)) = true
  | [], a => by simp
  | w :: vs, a => by
    rw [List.foldl_cons, sums_mem k vs (symI a w), List.filter_cons]
    generalize (vs.filter fun w => decide (k ∈ w)) = l
    have m : decide (k ∈ symI a w) = (decide (k ∈ a) ^^ decide (k ∈ w)) := by
      have := m_sym (a := a) (b := w) (j := k)
      by_cases h1 : k ∈ a <;> by_cases h2 : k ∈ w <;> simp [this, h1, h2]
    rw [m]
    by_cases h : k ∈ w
    · rw [if_pos (by simpa using h), List.length_cons]
      have e : decide ((l.length + 1) % 2 = 1) = !decide (l.length % 2 = 1) := by
        rw [← decide_not]
        exact decide_eq_decide.mpr (by omega)
      rw [e, decide_eq_true h]
      cases decide (k ∈ a) <;> cases decide (l.length % 2 = 1) <;> rfl
    · rw [if_neg (by simpa using h), decide_eq_false h]
      cases decide (k ∈ a) <;> rfl
theorem sumsW_ris (vs : List Wd) : Rs (sumsW vs) := by
  unfold sumsW
  rcases List.eq_nil_or_concat vs with rfl | ⟨l, w, rfl⟩
  · exact r_nil
  · rw [List.concat_eq_append, List.foldl_append]
    exact r_sym _ _
theorem sumAt_mem {ws : List Wd} {own : Wd} (ho : ∀ p ∈ own, 0 ≤ p ∧ p < ws.length) {k : Int} : k ∈ sumAt ws own ↔ od own (havers ws k) = true := by
  unfold sumAt sumsW
  rw [sums_mem, List.filter_map, List.length_map]
  have e : (own.filter ((fun w => decide (k ∈ w)) ∘ atP ws)) = own.filter fun p => decide (p ∈ havers ws k) := List.filter_congr fun p hp => by
    show decide (k ∈ atP ws p) = _
    exact decide_eq_decide.mpr ⟨fun h => havers_mem.mpr ⟨ho p hp, h⟩, fun h => (havers_mem.mp h).2⟩
  rw [e]
  unfold od
  simp
theorem sumAt_lin {ws : List Wd} {a b : Wd} (ha : Lw ws.length a) (hb : Lw ws.length b) : sumAt ws (symI a b) = symI (sumAt ws a) (sumAt ws b) := by
  refine ris_one (sumsW_ris _) (r_sym _ _) fun k => ?_
  rw [sumAt_mem (lw_sym ha hb).2, od_sym ha.1 hb.1 (havers_ris ws k), m_sym, sumAt_mem ha.2, sumAt_mem hb.2]
  cases od a (havers ws k) <;> cases od b (havers ws k) <;> simp
theorem atP_mem {ws : List Wd} {p : Int} (h0 : 0 ≤ p) (h1 : p < ws.length) : atP ws p ∈ ws := by
  unfold atP
  rw [List.getD, List.getElem?_eq_getElem (by omega)]
  exact List.getElem_mem _
theorem sumsW_sp {S : List Wd} : ∀ {vs : List Wd} {a : Wd}, (∀ v ∈ vs, Sp S v) → Sp S a → Sp S (vs.foldl symI a)
  | [], _, _, ha => ha
  | v :: vs, a, h, ha => sumsW_sp (vs := vs) (fun x hx => h x (List.mem_cons_of_mem _ hx)) (ha.sum (h v List.mem_cons_self))
theorem sumAt_sp {ws : List Wd} (a : All ws) {own : Wd} (ho : ∀ p ∈ own, 0 ≤ p ∧ p < ws.length) : Sp ws (sumAt ws own) := by
  unfold sumAt sumsW
  refine sumsW_sp (fun v hv => ?_) .zero
  obtain ⟨p, hp, rfl⟩ := List.mem_map.mp hv
  have hm := atP_mem (ho p hp).1 (ho p hp).2
  exact .own hm (a _ hm)
/-- each word that is made is the sum of some places -/
theorem sp_sumAt {ws : List Wd} (a : All ws) {v : Wd} (h : Sp ws v) : ∃ own, Lw ws.length own ∧ sumAt ws own = v := by
  induction h with
  | zero => exact ⟨[], ⟨r_nil, fun _ h => absurd h List.not_mem_nil⟩, rfl⟩
  | @add v w hw _ ih =>
    obtain ⟨own, h1, h2⟩ := ih
    obtain ⟨i, hi⟩ := List.mem_iff_getElem?.mp hw
    have hlt := (List.getElem?_eq_some_iff.mp hi).1
    have h3 : Lw ws.length [(i : Int)] := ⟨List.pairwise_singleton _ _, fun k hk => by
      rw [List.mem_singleton.mp hk]
      omega⟩
    refine ⟨symI own [(i : Int)], lw_sym h1 h3, ?_⟩
    rw [sumAt_lin h1 h3, h2]
    have e : sumAt ws [(i : Int)] = w := by
      show symI [] (atP ws (i : Int)) = w
      have e1 : atP ws (i : Int) = w := by
        unfold atP
        rw [show ((i : Int)).toNat = i by omega, List.getD, hi]
        rfl
      rw [e1, nil_s (a w hw)]
    rw [e]
/-- the rows of places whose words come to a word -/
def waysW (ws : List Wd) (w : Wd) : List Wd := (turnsW ws.length).filter fun own => decide (sumAt ws own = w)
theorem ways_mem {ws : List Wd} {w own : Wd} : own ∈ waysW ws w ↔ Lw ws.length own ∧ sumAt ws own = w := by
  unfold waysW
  rw [List.mem_filter, turns_mem, decide_eq_true_eq]
theorem ways_le {ws : List Wd} (a : All ws) {v w : Wd} (hv : Sp ws v) (hw : Sp ws w) : (waysW ws v).length ≤ (waysW ws w).length := by
  obtain ⟨x, hx, ex⟩ := sp_sumAt a hv
  obtain ⟨y, hy, ey⟩ := sp_sumAt a hw
  refine over_le (t := symI x y) ((turns_nd _).filter _) (fun u hu => (ways_mem.mp hu).1.1) fun u hu => ?_
  obtain ⟨h1, h2⟩ := ways_mem.mp hu
  refine ways_mem.mpr ⟨lw_sym h1 (lw_sym hx hy), ?_⟩
  rw [sumAt_lin h1 (lw_sym hx hy), sumAt_lin hx hy, h2, ex, ey, s_back hw.ris]
theorem fib_len {α β : Type} [DecidableEq β] (f : α → β) (K : Nat) : ∀ (M : List β) (l : List α), M.Nodup → (∀ a ∈ l, f a ∈ M) → (∀ b ∈ M, (l.filter fun a => decide (f a = b)).length = K) → l.length = M.length * K
  | [], l, _, h, _ => by
    have : l = [] := List.eq_nil_iff_forall_not_mem.mpr fun a ha => absurd (h a ha) List.not_mem_nil
    rw [this]
    simp
  | b :: M, l, nd, h, hk => by
    obtain ⟨hb, nd⟩ := List.nodup_cons.mp nd
    have ih := fib_len f K M (l.filter fun a => !decide (f a = b)) nd (fun a ha => by
      obtain ⟨h1, h2⟩ := List.mem_filter.mp ha
      rcases List.mem_cons.mp (h a h1) with z | z
      · rw [z] at h2
        simp at h2
      · exact z) fun c hc => by
        rw [List.filter_filter, ← hk c (List.mem_cons_of_mem _ hc)]
        congr 1
        refine List.filter_congr fun a _ => ?_
        by_cases e : f a = c
        · have : f a ≠ b := fun z => hb (by rw [← z, e]; exact hc)
          simp [e, this]
          intro z
          exact this (e.trans z)
        · simp [e]
    have h1 := split_len (fun a => decide (f a = b)) l
    rw [hk b List.mem_cons_self] at h1
    rw [h1, ih, List.length_cons, Nat.succ_mul, Nat.add_comm]
/-- as many ways as two to the power of the words less the rank -/
theorem ways_count {ws : List Wd} (a : All ws) (hl : ws.length ≤ 6) {w : Wd} (hw : Sp ws w) : 2 ^ (baseOf ws).length * (waysW ws w).length = 2 ^ ws.length := by
  rw [← turns_len hl, ← made_len a]
  refine (fib_len (sumAt ws) _ (madeW ws) (turnsW ws.length) (made_nd a) (fun own ho => (made_mem a _).mpr (sumAt_sp a (turns_mem.mp ho).2)) fun v hv => ?_).symm
  have hv := (made_mem a v).mp hv
  exact Nat.le_antisymm (ways_le a hv hw) (ways_le a hw hv)
theorem ways_none {ws : List Wd} (a : All ws) {w : Wd} (hw : ¬ Sp ws w) : waysW ws w = [] :=
  List.eq_nil_iff_forall_not_mem.mpr fun own ho => by
    obtain ⟨h1, h2⟩ := ways_mem.mp ho
    exact hw (h2 ▸ sumAt_sp a h1.2)
end Vs
set_option Elab.async false
set_option linter.all false
/-! Vs14: rows with their places, and what they tell of a word. -/
namespace Vs
open Ev
def trK (rows : List Pr) (e m : Wd) : List Pr := if (led rows (e, m)).1 = [] then rows else srtP (rows ++ [led rows (e, m)])
theorem led_sub {rows : List Pr} (rr : ∀ r ∈ rows, Rs r.1 ∧ Rs r.2) {e m : Wd} (re : Rs e) (rm : Rs m) : Sp (rows.map Prod.fst) (symI e (led rows (e, m)).1) :=
  (led_sp (T := rows.map Prod.fst) (M := rows.map Prod.snd) (S := rows.map fun r => symI r.1 r.2) (p := (e, m)) (fun r hr => ⟨.own (List.mem_map.mpr ⟨r, hr, rfl⟩) (rr r hr).1, .own (List.mem_map.mpr ⟨r, hr, rfl⟩) (rr r hr).2, .own (List.mem_map.mpr ⟨r, hr, rfl⟩) (r_sym _ _)⟩) re rm).1
/-- nothing is left just where the rows make it -/
theorem led_nil {rows : List Pr} (tri : Tri (rows.map Prod.fst)) (rr : ∀ r ∈ rows, Rs r.2) {e m : Wd} (re : Rs e) (rm : Rs m) : (led rows (e, m)).1 = [] ↔ Sp (rows.map Prod.fst) e := by
  have r2 : ∀ r ∈ rows, Rs r.1 ∧ Rs r.2 := fun r hr => ⟨tri.ris _ (List.mem_map.mpr ⟨r, hr, rfl⟩), rr r hr⟩
  have h1 := led_sub r2 re rm
  obtain ⟨l1, l2⟩ := led_ris (rows := rows) (p := (e, m)) re rm
  have nof := led_first (rows := rows) (p := (e, m)) tri
  generalize led rows (e, m) = z at *
  constructor
  · intro h
    rwa [h, s_nil re] at h1
  · intro h
    apply Classical.byContradiction
    intro c
    have h2 := h.sum h1
    rw [s_back l1] at h2
    obtain ⟨r, hr, e2⟩ := tri_hd tri h2 c
    obtain ⟨r', hr', rfl⟩ := List.mem_map.mp hr
    exact nof r' hr' (by rw [e2]; exact hd_mem c)
theorem tr_first {rows : List Pr} {P : List Wd} {e m : Wd} (tri : Tri (rows.map Prod.fst)) (rr : ∀ r ∈ rows, Rs r.2) (all : ∀ v, Sp (rows.map Prod.fst) v ↔ Sp P v) (aP : All P) (re : Rs e) (rm : Rs m) :
    Tri ((trK rows e m).map Prod.fst) ∧ ∀ v, Sp ((trK rows e m).map Prod.fst) v ↔ Sp (P ++ [e]) v := by
  have av : All (rows.map Prod.fst) := tri.ris
  have r2 : ∀ r ∈ rows, Rs r.1 ∧ Rs r.2 := fun r hr => ⟨tri.ris _ (List.mem_map.mpr ⟨r, hr, rfl⟩), rr r hr⟩
  have s1 := led_sub r2 re rm
  obtain ⟨l1, l2⟩ := led_ris (rows := rows) (p := (e, m)) re rm
  have nof := led_first (rows := rows) (p := (e, m)) tri
  have hnil := led_nil tri rr re rm
  have he : Sp (P ++ [e]) e := .own (List.mem_append_right _ (List.mem_singleton.mpr rfl)) re
  have up : ∀ v, Sp P v → Sp (P ++ [e]) v := fun v hv => hv.sub aP fun x hx => List.mem_append_left _ hx
  unfold trK
  by_cases c : (led rows (e, m)).1 = []
  · rw [if_pos c]
    refine ⟨tri, fun v => ⟨fun w => up v ((all v).mp w), fun w => w.le fun x hx => ?_⟩⟩
    rcases List.mem_append.mp hx with y | y
    · exact (all x).mpr (.own y (aP x y))
    · rw [List.mem_singleton.mp y]
      exact hnil.mp c
  · rw [if_neg c]
    generalize led rows (e, m) = z at *
    have pm : ∀ r, r ∈ srtP (rows ++ [z]) ↔ r ∈ rows ∨ r = z := fun r => by
      rw [(srtP_perm _).mem_iff, List.mem_append, List.mem_singleton]
    have ne1 : ∀ r ∈ srtP (rows ++ [z]), r.1 ≠ [] ∧ Rs r.1 := fun r hr => by
      rcases (pm r).mp hr with y | y
      · exact ⟨tri.ne _ (List.mem_map.mpr ⟨r, y, rfl⟩), tri.ris _ (List.mem_map.mpr ⟨r, y, rfl⟩)⟩
      · rw [y]; exact ⟨c, l1⟩
    have nd : (rows ++ [z]).Pairwise fun r s => hd r.1 ≠ hd s.1 := by
      refine List.pairwise_append.mpr ⟨?_, List.pairwise_singleton _ _, fun r hr s hs => ?_⟩
      · exact (List.pairwise_map.mp tri.up).imp fun h => by omega
      · rw [List.mem_singleton.mp hs]
        intro z2
        exact nof r hr (by rw [z2]; exact hd_mem c)
    have nd2 : (srtP (rows ++ [z])).Pairwise fun r s => hd r.1 ≠ hd s.1 := ((srtP_perm _).pairwise_iff fun {x y} h => h.symm).mpr nd
    refine ⟨⟨fun r hr => ?_, fun r hr => ?_, List.pairwise_map.mpr (List.Pairwise.imp_of_mem ?_ ((srtP_sorted _).and nd2))⟩, fun v => ⟨fun w => w.le fun x hx => ?_, fun w => w.le fun x hx => ?_⟩⟩
    · obtain ⟨r', hr', rfl⟩ := List.mem_map.mp hr
      exact (ne1 r' hr').2
    · obtain ⟨r', hr', rfl⟩ := List.mem_map.mp hr
      exact (ne1 r' hr').1
    · intro a b ha hb h
      have := hd_mono (ne1 a ha).1 (ne1 b hb).1 h.1
      have := h.2
      omega
    · obtain ⟨r, hr, rfl⟩ := List.mem_map.mp hx
      rcases (pm r).mp hr with y | y
      · exact up _ ((all r.1).mp (.own (List.mem_map.mpr ⟨r, y, rfl⟩) (av r.1 (List.mem_map.mpr ⟨r, y, rfl⟩))))
      · rw [y]
        have := he.sum (up _ ((all _).mp s1))
        rwa [s_back l1] at this
    · have low : ∀ u, Sp (rows.map Prod.fst) u → Sp ((srtP (rows ++ [z])).map Prod.fst) u := fun u hu => hu.sub av fun x hx => by
        obtain ⟨r, hr, rfl⟩ := List.mem_map.mp hx
        exact List.mem_map.mpr ⟨r, (pm r).mpr (.inl hr), rfl⟩
      rcases List.mem_append.mp hx with y | y
      · exact low x ((all x).mpr (.own y (aP x y)))
      · rw [List.mem_singleton.mp y]
        have h1 : Sp ((srtP (rows ++ [z])).map Prod.fst) z.1 := .own (List.mem_map.mpr ⟨z, (pm z).mpr (.inr rfl), rfl⟩) l1
        have := (low _ s1).sum h1
        rwa [s_back2 re] at this
theorem sumAt_ris (ws : List Wd) (own : Wd) : Rs (sumAt ws own) := sumsW_ris _
/-- what is taken off a word is the sum of what is put to its places -/
theorem led_at {WS : List Wd} : ∀ {rows : List Pr} {p : Pr}, (∀ r ∈ rows, Lw WS.length r.2 ∧ sumAt WS r.2 = r.1) → Lw WS.length p.2 →
    Lw WS.length (led rows p).2 ∧ symI p.1 (led rows p).1 = symI (sumAt WS p.2) (sumAt WS (led rows p).2)
  | [], p, _, h => by
    refine ⟨h, ?_⟩
    show symI p.1 p.1 = symI (sumAt WS p.2) (sumAt WS p.2)
    rw [s_self, s_self]
  | r :: rs, p, hr, h => by
    obtain ⟨h1, h2⟩ := hr r List.mem_cons_self
    have hr' := fun x hx => hr x (List.mem_cons_of_mem _ hx)
    rw [led_cons]
    split
    · obtain ⟨q1, q2⟩ := led_at (rows := rs) (p := (symI p.1 r.1, symI p.2 r.2)) hr' (lw_sym h h1)
      refine ⟨q1, ?_⟩
      have q2 : symI (symI p.1 r.1) (led rs (symI p.1 r.1, symI p.2 r.2)).1 = symI (sumAt WS (symI p.2 r.2)) (sumAt WS (led rs (symI p.1 r.1, symI p.2 r.2)).2) := q2
      rw [sumAt_lin h h1, h2] at q2
      generalize led rs (symI p.1 r.1, symI p.2 r.2) = z at *
      refine ris_one (r_sym _ _) (r_sym _ _) fun k => ?_
      have m : k ∈ symI (symI p.1 r.1) z.1 ↔ k ∈ symI (symI (sumAt WS p.2) r.1) (sumAt WS z.2) := by rw [q2]
      simp only [m_sym] at m ⊢
      by_cases a1 : k ∈ p.1 <;> by_cases a2 : k ∈ r.1 <;> by_cases a3 : k ∈ z.1 <;> by_cases a4 : k ∈ sumAt WS p.2 <;> by_cases a5 : k ∈ sumAt WS z.2 <;> simp [a1, a2, a3, a4, a5] at m ⊢
    · exact led_at (rows := rs) hr' h
structure KpOk (WS P : List Wd) (rows : List Pr) : Prop where
  tri : Tri (rows.map Prod.fst)
  row : ∀ r ∈ rows, Lw WS.length r.2 ∧ sumAt WS r.2 = r.1
  all : ∀ v, Sp (rows.map Prod.fst) v ↔ Sp P v
theorem at_one {WS : List Wd} {i : Nat} {e : Wd} (hi : WS[i]? = some e) (re : Rs e) : Lw WS.length [(i : Int)] ∧ sumAt WS [(i : Int)] = e := by
  have hlt := (List.getElem?_eq_some_iff.mp hi).1
  refine ⟨⟨List.pairwise_singleton _ _, fun k hk => by
    rw [List.mem_singleton.mp hk]
    omega⟩, ?_⟩
  show symI [] (atP WS (i : Int)) = e
  have e1 : atP WS (i : Int) = e := by
    unfold atP
    rw [show ((i : Int)).toNat = i by omega, List.getD, hi]
    rfl
  rw [e1, nil_s re]
theorem kp_step {WS P : List Wd} {rows : List Pr} {e : Wd} {i : Nat} (h : KpOk WS P rows) (aP : All P) (hi : WS[i]? = some e) (re : Rs e) : KpOk WS (P ++ [e]) (trK rows e [(i : Int)]) := by
  obtain ⟨tri, row, all⟩ := h
  have rr : ∀ r ∈ rows, Rs r.2 := fun r hr => (row r hr).1.1
  obtain ⟨t1, t2⟩ := tr_first (e := e) (m := [(i : Int)]) tri rr all aP re (List.pairwise_singleton _ _)
  refine ⟨t1, fun r hr => ?_, t2⟩
  unfold trK at hr
  split at hr
  · exact row r hr
  · rcases List.mem_append.mp ((srtP_perm _).mem_iff.mp hr) with y | y
    · exact row r y
    · rw [List.mem_singleton.mp y]
      obtain ⟨o1, o2⟩ := at_one hi re
      obtain ⟨q1, q2⟩ := led_at (WS := WS) (rows := rows) (p := (e, [(i : Int)])) row o1
      refine ⟨q1, ?_⟩
      have q2 : symI e (led rows (e, [(i : Int)])).1 = symI (sumAt WS [(i : Int)]) (sumAt WS (led rows (e, [(i : Int)])).2) := q2
      rw [o2] at q2
      have l1 := (led_ris (rows := rows) (p := (e, [(i : Int)])) re (List.pairwise_singleton _ _)).1
      have := congrArg (symI e) q2
      rw [s_back l1, s_back (sumAt_ris _ _)] at this
      exact this.symm
/-- the rows of all words -/
def kpRows (ws : List Wd) : List Pr := ws.zipIdx.foldl (fun rows p => trK rows p.1 [(p.2 : Int)]) []
theorem kp_fold {WS : List Wd} (a : All WS) : ∀ (R : List Wd) (i : Nat) (rows : List Pr), WS.drop i = R → KpOk WS (WS.take i) rows → KpOk WS WS ((R.zipIdx i).foldl (fun rows p => trK rows p.1 [(p.2 : Int)]) rows)
  | [], i, rows, hd, h => by
    have : WS.take i = WS := List.take_of_length_le (List.drop_eq_nil_iff.mp hd)
    rw [this] at h
    exact h
  | e :: R, i, rows, hd, h => by
    have hi : WS[i]? = some e := by
      rw [← List.head?_drop, hd]
      rfl
    have hlt := (List.getElem?_eq_some_iff.mp hi).1
    have re := a e (List.mem_of_getElem? hi)
    have aP : All (WS.take i) := fun x hx => a x (List.mem_of_mem_take hx)
    have e1 : WS.take i ++ [e] = WS.take (i + 1) := by
      rw [List.take_succ, hi]
      rfl
    have h2 := kp_step h aP hi re
    rw [e1] at h2
    rw [List.zipIdx_cons, List.foldl_cons]
    refine kp_fold a R (i + 1) _ ?_ h2
    rw [← List.drop_drop, hd]
    rfl
theorem kp_ok {ws : List Wd} (a : All ws) : KpOk ws ws (kpRows ws) := by
  refine kp_fold a ws 0 [] rfl ⟨⟨fun _ h => absurd h List.not_mem_nil, fun _ h => absurd h List.not_mem_nil, List.Pairwise.nil⟩, fun _ h => absurd h List.not_mem_nil, fun v => Iff.rfl⟩
/-- the places that known_paper tells come to the word -/
theorem kp_places {ws : List Wd} (a : All ws) {w : Wd} (rw' : Rs w) : ((led (kpRows ws) (w, [])).1 = [] ↔ Sp ws w) ∧ Lw ws.length (led (kpRows ws) (w, [])).2 ∧ (Sp ws w → sumAt ws (led (kpRows ws) (w, [])).2 = w) := by
  obtain ⟨tri, row, all⟩ := kp_ok a
  have rr : ∀ r ∈ kpRows ws, Rs r.2 := fun r hr => (row r hr).1.1
  have h1 := led_nil tri rr rw' r_nil
  rw [all w] at h1
  obtain ⟨q1, q2⟩ := led_at (WS := ws) (rows := kpRows ws) (p := (w, [])) row ⟨r_nil, fun _ h => absurd h List.not_mem_nil⟩
  refine ⟨h1, q1, fun hs => ?_⟩
  have q2 : symI w (led (kpRows ws) (w, [])).1 = symI [] (sumAt ws (led (kpRows ws) (w, [])).2) := q2
  rw [h1.mpr hs, s_nil rw', nil_s (sumAt_ris _ _)] at q2
  exact q2.symm
end Vs
set_option Elab.async false
set_option linter.all false
set_option maxRecDepth 100000
namespace K10
open Ev PySem
def top (i : Nat) : PySem.Stmt := PySem.Challenge.pw_metbefore_k10_whole_just_one_is_let_by.main.body.getD i (.Pass ⟨0, 0, 0, 0⟩)
def dsum_two : Df := ⟨"sum_two", ["one", "other"], [.b, .b], ["one", "other"],
  [.ret (.sx (.var 0) (.var 1))], []⟩
def dsum_of : Df := ⟨"sum_of", ["words"], [.b], ["words", "found", "entry"],
  [.asg 1 (.tup []), .fr [2] false (.var 0) [.asg 1 (.cal "sum_two" [.var 1, .var 2])], .ret (.var 1)], []⟩
def dsign_of : Df := ⟨"sign_of", ["word", "signs"], [.b, .b], ["word", "signs", "meeting"],
  [.fr [2] false (.var 0) [.ite (.cmp .GtE (.var 2) (.bif .len [.var 1])) [.nev] []], .ret (.bin .Mod (.bif .sum [.lc [("meeting",
    2)] [2] false (.var 0) none (.idx (.var 1) (.var 2))]) (.con (.int 2)))], []⟩
def dreduced : Df := ⟨"reduced", ["rows", "entry"], [.b, .b], ["rows", "entry", "own"],
  [.fr [2] false (.var 0) [.ite (.cmp .In (.idx (.var 2) (.con (.int 0))) (.var 1)) [.asg 1 (.cal "sum_two" [.var 1, .var 2])] []], .ret (.var 1)], []⟩
def dbase_of : Df := ⟨"base_of", ["words"], [.b], ["words", "found", "entry", "rest", "own"],
  [.asg 1 (.lst []), .fr [2] false (.var 0) [.asg 3 (.cal "reduced" [.var 1, .var 2]), .ite (.cmp .NotEq (.var 3) (.tup [])) [.asg 1 (.bin .Add (.lc [("own",
    4)] [4] false (.var 1) none (.ite (.cmp .In (.idx (.var 3) (.con (.int 0))) (.var 4)) (.cal "sum_two" [.var 4, .var 3]) (.var 4))) (.lst [.var 3]))] []],
    .ret (.bif .tuple [.bif .sorted [.var 1]])], []⟩
def dmakes : Df := ⟨"makes", ["words", "word"], [.b, .b], ["words", "word"],
  [.ret (.cmp .Eq (.cal "reduced" [.cal "base_of" [.var 0], .var 1]) (.tup []))], []⟩
def dled_back : Df := ⟨"led_back", ["rows", "entry", "marks"], [.b, .b, .b], ["rows", "entry", "marks", "own", "own_marks"],
  [.fr [3, 4] true (.var 0) [.ite (.cmp .In (.idx (.var 3) (.con (.int 0))) (.var 1)) [.par 1 2 (.cal "sum_two" [.var 1, .var 3]) (.cal "sum_two" [.var 2, .var 4])] []],
    .ret (.tup [.var 1, .var 2])], []⟩
def dwith_traced : Df := ⟨"with_traced", ["rows", "entry", "marks"], [.f, .b, .b], ["rows", "entry", "marks", "rest", "left"],
  [.unp [3, 4] (.cal "led_back" [.var 0, .var 1, .var 2]), .ret (.ite (.cmp .NotEq (.var 3) (.tup [])) (.bif .sorted [.bin .Add (.var 0) (.lst [.tup [.var 3, .var 4]])]) (.var 0))], []⟩
def dparting_turn : Df := ⟨"parting_turn", ["rows", "rest"], [.b, .b], ["rows", "rest", "spot", "own"],
  [.asg 2 (.idx (.var 1) (.con (.int 0))), .ret (.bif .tuple [.bif .sorted [.bin .Add (.lst [.var 2]) (.lc [("own",
    3)] [3] false (.var 0) (some (.cmp .In (.var 2) (.var 3))) (.idx (.var 3) (.con (.int 0))))]])], []⟩
def dknown_paper : Df := ⟨"known_paper", ["words", "word"], [.b, .b], ["words", "word", "rows", "k", "entry", "rest", "places", "least"],
  [.asg 2 (.lst []), .fr [3, 4] true (.en (.var 0)) [.asg 2 (.cal "with_traced" [.var 2, .var 4, .tup [.var 3]])], .unp [5, 6] (.cal "led_back" [.var 2, .var 1, .tup []]),
    .ite (.cmp .Eq (.var 5) (.tup [])) [.ret (.tup [.con (.str (T "known")), .var 6])] [], .asg 7 (.cal "base_of" [.var 0]), .ret (.tup [.con (.str (T "free")),
    .cal "parting_turn" [.var 7, .cal "reduced" [.var 7, .var 1]]])], []⟩
def dis_meeting : Df := ⟨"is_meeting", ["thing"], [.b], ["thing"],
  [.ret (.and (.isi (.var 0) "int") (.and (.not (.isi (.var 0) "bool")) (.cmp .GtE (.var 0) (.con (.int 0)))))], []⟩
def drises : Df := ⟨"rises", ["some"], [.b], ["some", "one", "other"],
  [.ret (.bif .all [.lc [("one", 1), ("other", 2)] [1, 2] true (.zp (.var 0) (.fz (.sli (.var 0) (some (.con (.int 1))) none))) none (.cmp .Lt (.var 1) (.var 2))])], []⟩
def dis_word : Df := ⟨"is_word", ["thing"], [.b], ["thing", "one"],
  [.ret (.and (.isi (.var 0) "tuple") (.and (.bif .all [.lc [("one", 1)] [1] false (.var 0) none (.cal "is_meeting" [.var 1])]) (.cal "rises" [.var 0])))], []⟩
def dneed : Df := ⟨"need", ["truth", "word", "at"], [.b, .b, .b], ["truth", "word", "at"],
  [.ite (.not (.var 0)) [.rai "NoPaper" [.var 1, .var 2]] []], []⟩
def dis_odd_with : Df := ⟨"is_odd_with", ["one", "other"], [.b, .b], ["one", "other", "spot"],
  [.ret (.cmp .Eq (.bin .Mod (.bif .len [.lc [("spot", 2)] [2] false (.var 0) (some (.cmp .In (.var 2) (.var 1))) (.var 2)]) (.con (.int 2))) (.con (.int 1)))], []⟩
def dis_shaped : Df := ⟨"is_shaped", ["thing"], [.b], ["thing", "one"],
  
    [.ite (.or (.not (.isi (.var 0) "tuple")) (.or (.cmp .NotEq (.bif .len [.var 0]) (.con (.int 2))) (.not (.isi (.idx (.var 0) (.con (.int 0))) "str")))) [.ret (.con (.bool false))] [],
    .ite (.cmp .Eq (.idx (.var 0) (.con (.int 0))) (.con (.str (T "known")))) [.ret (.and (.isi (.idx (.var 0) (.con (.int 1))) "tuple") (.bif .all [.lc [("one",
    1)] [1] false (.fz (.idx (.var 0) (.con (.int 1)))) none (.cal "is_meeting" [.var 1])]))] [],
    .ret (.and (.cmp .Eq (.idx (.var 0) (.con (.int 0))) (.con (.str (T "free")))) (.cal "is_word" [.idx (.var 0) (.con (.int 1))]))], []⟩
def dlook_at_places : Df := ⟨"look_at_places", ["words", "word", "places"], [.b, .b, .b], ["words", "word", "places", "k", "spot"],
  [.fr [3,
    4] true (.en (.var 2)) [.exp (.cal "need" [.and (.cmp .Lt (.var 4) (.bif .len [.var 0])) (.or (.cmp .Eq (.var 3) (.con (.int 0))) (.cmp .Lt (.idx (.var 2) (.bin .Sub (.var 3) (.con (.int 1)))) (.var 4))),
    .con (.str (T "place")), .var 3])], .exp (.cal "need" [.cmp .Eq (.cal "sum_of" [.lc [("spot", 4)] [4] false (.var 2) none (.idx (.var 0) (.var 4))]) (.var 1),
    .con (.str (T "sum")), .neg (.con (.int 1))])], []⟩
def dlook_at_turn : Df := ⟨"look_at_turn", ["words", "word", "turn"], [.b, .b, .b], ["words", "word", "turn", "k", "entry"],
  [.fr [3, 4] true (.en (.var 0)) [.exp (.cal "need" [.not (.cal "is_odd_with" [.var 4, .var 2]), .con (.str (T "even")), .var 3])], .exp (.cal "need" [.cal "is_odd_with" [.var 1,
    .var 2], .con (.str (T "odd")), .neg (.con (.int 1))])], []⟩
def dlets_known : Df := ⟨"lets_known", ["words", "word", "thing"], [.b, .b, .b], ["words", "word", "thing"],
  [.exp (.cal "need" [.cal "is_shaped" [.var 2], .con (.str (T "shape")), .neg (.con (.int 1))]),
    .ite (.cmp .Eq (.idx (.var 2) (.con (.int 0))) (.con (.str (T "known")))) [.exp (.cal "look_at_places" [.var 0, .var 1,
    .idx (.var 2) (.con (.int 1))])] [.exp (.cal "look_at_turn" [.var 0, .var 1, .idx (.var 2) (.con (.int 1))])], .ret (.idx (.var 2) (.con (.int 0)))], []⟩
def dall_made : Df := ⟨"all_made", ["words", "most"], [.b, .b], ["words", "most", "found", "own", "one"],
  [.asg 2 (.lst [.tup []]), .fr [3] false (.fz (.cal "base_of" [.var 0])) [.ite (.cmp .Gt (.bin .Mult (.con (.int 2)) (.bif .len [.var 2])) (.var 1)) [.nev] [],
    .asg 2 (.bin .Add (.var 2) (.lc [("one", 4)] [4] false (.var 2) none (.cal "sum_two" [.var 4, .var 3])))], .ite (.cmp .Gt (.bif .len [.var 2]) (.var 1)) [.nev] [],
    .ret (.bif .tuple [.bif .sorted [.var 2]])], [(.int 4096)]⟩
def drank_of : Df := ⟨"rank_of", ["words"], [.b], ["words"],
  [.ret (.bif .len [.cal "base_of" [.var 0]])], []⟩
def d_law_feed : Df := ⟨"_law_feed", ["_law_script"], [.b], ["_law_script"],
  [.ret (.lst [.sli (.var 0) none (some (.con (.int 63))), .con (.int 0), .con (.int 0), .con (.int 0)])], []⟩
def d_law_draw : Df := ⟨"_law_draw", ["_law_feed_here", "_law_many"], [.l, .b], ["_law_feed_here", "_law_many", "_law_found", "_law_cell", "_law_mixed"],
  [.sto 0 (.con (.int 3)) (.bin .Add (.idx (.var 0) (.con (.int 3))) (.con (.int 1))),
    .ite (.cmp .Gt (.idx (.var 0) (.con (.int 2))) (.con (.int 0))) [.asg 2 (.bin .Mod (.idx (.var 0) (.con (.int 2))) (.var 1)),
    .sto 0 (.con (.int 2)) (.bin .FloorDiv (.idx (.var 0) (.con (.int 2))) (.var 1)), .ret (.var 2)] [], .asg 3 (.con (.int 5)),
    .ite (.cmp .NotEq (.idx (.var 0) (.con (.int 0))) (.lst [])) [.asg 3 (.idx (.idx (.var 0) (.con (.int 0))) (.bin .Mod (.idx (.var 0) (.con (.int 1))) (.bif .len [.idx (.var 0) (.con (.int 0))])))] [],
    .sto 0 (.con (.int 1)) (.bin .Add (.idx (.var 0) (.con (.int 1))) (.con (.int 1))),
    .ite (.and (.cmp .GtE (.var 3) (.bin .Pow (.con (.int 10)) (.con (.int 18)))) (.cmp .LtE (.idx (.var 0) (.con (.int 1))) (.bif .len [.idx (.var 0) (.con (.int 0))]))) [.sto 0 (.con (.int 2)) (.bin .FloorDiv (.var 3) (.var 1)),
    .ret (.bin .Mod (.var 3) (.var 1))] [],
    .asg 4 (.bin .Mod (.bin .Pow (.bin .Add (.bin .Add (.bin .Mod (.var 3) (.con (.int 2147483629))) (.bin .Mult (.con (.int 7919)) (.idx (.var 0) (.con (.int 3))))) (.con (.int 1))) (.con (.int 5))) (.con (.int 2147483647))),
    .ret (.bin .Mod (.bin .FloorDiv (.bin .Mod (.bin .Pow (.bin .Add (.var 4) (.bin .Mult (.con (.int 104729)) (.idx (.var 0) (.con (.int 3))))) (.con (.int 5))) (.con (.int 2147483587))) (.con (.int 64))) (.var 1))], []⟩
def d_law_plus : Df := ⟨"_law_plus", ["_law_one", "_law_other"], [.b, .b], ["_law_one", "_law_other", "_law_m"],
  [.ret (.bif .tuple [.bif .sorted [.bin .Add (.lc [("_law_m", 2)] [2] false (.var 0) (some (.cmp .NotIn (.var 2) (.var 1))) (.var 2)) (.lc [("_law_m",
    2)] [2] false (.var 1) (some (.cmp .NotIn (.var 2) (.var 0))) (.var 2))]])], []⟩
def d_law_word : Df := ⟨"_law_word", ["_law_feed_here", "_law_many"], [.l, .b], ["_law_feed_here", "_law_many", "_law_way", "_law_m"],
  [.asg 2 (.cal "_law_draw" [.var 0, .con (.int 4)]), .ret (.bif .tuple [.lc [("_law_m", 3)] [3] false (.rg1 (.var 1)) (some (.cmp .Eq (.cal "_law_draw" [.var 0,
    .bin .Add (.con (.int 2)) (.var 2)]) (.con (.int 0)))) (.var 3)])], []⟩
def d_law_lot : Df := ⟨"_law_lot", ["_law_feed_here", "_law_many", "_law_most"], [.l, .b, .b], ["_law_feed_here", "_law_many", "_law_most", "_law_found", "_law_k", "_law_way", "_law_one"],
  [.asg 3 (.lst []), .fr [4] false (.rg1 (.cal "_law_draw" [.var 0, .bin .Add (.var 2) (.con (.int 1))])) [.asg 5 (.cal "_law_draw" [.var 0, .con (.int 6)]),
    .asg 6 (.cal "_law_word" [.var 0, .var 1]),
    .ite (.and (.cmp .Eq (.var 5) (.con (.int 0))) (.cmp .Gt (.bif .len [.var 3]) (.con (.int 1)))) [.asg 6 (.cal "_law_plus" [.idx (.var 3) (.neg (.con (.int 1))),
    .idx (.var 3) (.neg (.con (.int 2)))])] [], .ite (.and (.cmp .Eq (.var 5) (.con (.int 1))) (.cmp .NotEq (.var 3) (.lst []))) [.asg 6 (.idx (.var 3) (.cal "_law_draw" [.var 0,
    .bif .len [.var 3]]))] [], .app 3 (.var 6)], .ret (.bif .tuple [.var 3])], []⟩
def d_law_let : Df := ⟨"_law_let", ["_law_some", "_law_word_here", "_law_thing"], [.b, .b, .b], ["_law_some", "_law_word_here", "_law_thing", "_law_found"],
  [.asg 3 (.con .none), .tro ["NoPaper"] [.asg 3 (.cal "lets_known" [.var 0, .var 1, .var 2])] [.asg 3 (.con .none)], .ret (.var 3)], []⟩
def d_law_size : Df := ⟨"_law_size", ["_law_rank"], [.b], ["_law_rank", "_law_found", "_law_k"],
  [.asg 1 (.con (.int 1)), .fr [2] false (.rg1 (.var 0)) [.asg 1 (.bin .Mult (.con (.int 2)) (.var 1))], .ret (.var 1)], []⟩
def d_law_turn_right : Df := ⟨"_law_turn_right", ["_law_some", "_law_word_here", "_law_many", "_law_own"], [.b, .b, .b, .b], ["_law_some", "_law_word_here", "_law_many", "_law_own", "_law_signs", "_law_other", "_law_m", "_law_one"],
  [.fr [4] false (.fz (.tup [.bin .Mult (.tup [.con (.int 0)]) (.var 2), .bif .tuple [.lc [("_law_m",
    6)] [6] false (.rg1 (.var 2)) none (.bin .Mod (.var 6) (.con (.int 2)))]])) [.asg 5 (.bif .tuple [.lc [("_law_m",
    6)] [6] false (.rg1 (.var 2)) none (.ite (.cmp .In (.var 6) (.var 3)) (.bin .Sub (.con (.int 1)) (.idx (.var 4) (.var 6))) (.idx (.var 4) (.var 6)))]),
    .ite (.cmp .Eq (.cal "sign_of" [.var 1, .var 5]) (.cal "sign_of" [.var 1, .var 4])) [.ret (.con (.bool false))] [], .ite (.cmp .NotEq (.lc [("_law_one",
    7)] [7] false (.fz (.cal "all_made" [.var 0])) (some (.cmp .NotEq (.cal "sign_of" [.var 7, .var 5]) (.cal "sign_of" [.var 7,
    .var 4]))) (.var 7)) (.lst [])) [.ret (.con (.bool false))] []], .ret (.con (.bool true))], []⟩
def d_law_is_right : Df := ⟨"_law_is_right", ["_law_some", "_law_word_here", "_law_many"], [.b, .b, .b], ["_law_some", "_law_word_here", "_law_many", "_law_rows", "_law_turns", "_law_ways", "_law_frees", "_law_paper", "_law_rank", "_law_is_made", "_law_own", "_law_both", "_law_own_turn", "_law_k", "_law_m", "_law_place", "_law_one"],
  [.asg 3 (.cal "all_made" [.bif .tuple [.lc [("_law_k", 13)] [13] false (.rg1 (.bif .len [.var 0])) none (.tup [.var 13])]]), .asg 4 (.cal "all_made" [.bif .tuple [.lc [("_law_m",
    14)] [14] false (.rg1 (.var 2)) none (.tup [.var 14])]]), .asg 5 (.lc [("_law_own", 10)] [10] false (.var 3) (some (.cmp .IsNot (.cal "_law_let" [.var 0, .var 1,
    .tup [.con (.str (T "known")), .var 10]]) (.con .none))) (.var 10)), .asg 6 (.lc [("_law_own", 10)] [10] false (.var 4) (some (.cmp .IsNot (.cal "_law_let" [.var 0, .var 1,
    .tup [.con (.str (T "free")), .var 10]]) (.con .none))) (.var 10)), .par3 7 8 9 (.cal "known_paper" [.var 0, .var 1]) (.cal "rank_of" [.var 0]) (.cal "makes" [.var 0,
    .var 1]), .ite (.or (.cmp .NotEq (.idx (.var 7) (.con (.int 0))) (.idx (.lst [.con (.str (T "free")),
    .con (.str (T "known"))]) (.bif .intB [.var 9]))) (.cmp .NotEq (.cal "_law_let" [.var 0, .var 1, .var 7]) (.idx (.var 7) (.con (.int 0))))) [.ret (.con (.bool false))] [],
    .ite (.cmp .NotEq (.lst [.cmp .Gt (.bif .len [.var 5]) (.con (.int 0)), .cmp .Gt (.bif .len [.var 6]) (.con (.int 0))]) (.lst [.var 9,
    .not (.var 9)])) [.ret (.con (.bool false))] [],
    .ite (.var 9) [.ite (.or (.cmp .NotEq (.bif .len [.var 5]) (.cal "_law_size" [.bin .Sub (.bif .len [.var 0]) (.var 8)])) (.cmp .NotIn (.idx (.var 7) (.con (.int 1))) (.var 5))) [.ret (.con (.bool false))] [],
    .fr [10] false (.fz (.sli (.var 5) none (some (.con (.int 4))))) [.asg 11 (.cal "sum_of" [.tup [.var 10, .idx (.var 5) (.neg (.con (.int 1)))]]),
    .ite (.cmp .NotEq (.cal "sum_of" [.bif .tuple [.lc [("_law_place", 15)] [15] false (.var 11) none (.idx (.var 0) (.var 15))]]) (.tup [])) [.ret (.con (.bool false))] []],
    .ret (.cmp .Eq (.cal "_law_let" [.bin .Add (.var 0) (.tup [.var 1]), .var 1, .var 7]) (.con (.str (T "known"))))] [], .asg 12 (.bif .tuple [.lc [("_law_m",
    14)] [14] false (.fz (.idx (.var 7) (.con (.int 1)))) (some (.cmp .Lt (.var 14) (.var 2))) (.var 14)]),
    .ite (.or (.cmp .NotEq (.bif .len [.var 6]) (.cal "_law_size" [.bin .Sub (.bin .Sub (.var 2) (.var 8)) (.con (.int 1))])) (.cmp .NotIn (.var 12) (.var 6))) [.ret (.con (.bool false))] [],
    .fr [10] false (.fz (.sli (.var 6) none (some (.con (.int 4))))) [.ite (.not (.cal "_law_turn_right" [.var 0, .var 1, .var 2, .var 10])) [.ret (.con (.bool false))] [],
    .asg 11 (.cal "sum_of" [.tup [.var 10, .idx (.var 6) (.neg (.con (.int 1)))]]), .ite (.cmp .NotEq (.lc [("_law_one",
    16)] [16] false (.fz (.bin .Add (.var 0) (.tup [.var 1]))) (some (.cmp .Eq (.bin .Mod (.bif .len [.lc [("_law_m",
    14)] [14] false (.var 16) (some (.cmp .In (.var 14) (.var 11))) (.var 14)]) (.con (.int 2))) (.con (.int 1)))) (.var 16)) (.lst [])) [.ret (.con (.bool false))] []],
    .ret (.cmp .Is (.cal "_law_let" [.bin .Add (.var 0) (.tup [.var 1]), .var 1, .var 7]) (.con .none))], []⟩
def dlaw : Df := ⟨"law", ["_law_script"], [.b], ["_law_script", "_law_feed_here", "_law_turn", "_law_many", "_law_some", "_law_word_here", "_law_k"],
  [.asg 1 (.cal "_law_feed" [.var 0]), .fr [2] false (.rg1 (.con (.int 4))) [.asg 3 (.bin .Add (.con (.int 3)) (.cal "_law_draw" [.var 1, .con (.int 4)])),
    .asg 4 (.cal "_law_lot" [.var 1, .var 3, .con (.int 5)]), .fr [5] false (.fz (.bin .Add (.lc [("_law_k", 6)] [6] false (.rg1 (.con (.int 3))) none (.cal "_law_word" [.var 1,
    .var 3])) (.lst [.tup [], .cal "sum_of" [.var 4], .rt1 false (.var 3)]))) [.ite (.not (.cal "_law_is_right" [.var 4, .var 5, .var 3])) [.ret (.con (.bool false))] []]],
    .ret (.con (.bool true))], []⟩
def defs : List Df := [dsum_two, dsum_of, dsign_of, dreduced, dbase_of, dmakes, dled_back, dwith_traced, dparting_turn, dknown_paper, dis_meeting, drises, dis_word, dneed, dis_odd_with, dis_shaped, dlook_at_places, dlook_at_turn, dlets_known, dall_made, drank_of, d_law_feed, d_law_draw, d_law_plus, d_law_word, d_law_lot, d_law_let, d_law_size, d_law_turn_right, d_law_is_right, dlaw]
def BN : List String := ["all", "bool", "enumerate", "int", "isinstance", "len", "range", "set", "sorted", "str", "sum", "tuple", "zip"]
def GL : List (String × D) := []
def KB : List KbE := []
def xsX : List (String × List Str) := [("NoPaper", [T "word", T "at"])]
def ssX : List ((Str × String) × Bool) := [((T "NoPaper", "NoPaper"), true)]
def fsX : List (Str × String) := [(T "NoPaper", "word"), (T "NoPaper", "at")]
def knX : List String := ["NoPaper"]
def XF : Xt := mkX xsX ssX fsX knX
@[simp] theorem xc_NoPaper : XF.xc "NoPaper" = [T "word", T "at"] := by decide +kernel
@[simp] theorem sb_NoPaper_NoPaper : XF.sub (T "NoPaper") "NoPaper" = some true := by decide +kernel
@[simp] theorem fl_NoPaper_word : XF.fld (T "NoPaper") "word" = true := by decide +kernel
@[simp] theorem fl_NoPaper_at : XF.fld (T "NoPaper") "at" = true := by decide +kernel
@[simp] theorem kn_X : XF.kn = knX := rfl
@[simp] theorem nmsum_two : dsum_two.name = "sum_two" := rfl
@[simp] theorem nmsum_of : dsum_of.name = "sum_of" := rfl
@[simp] theorem nmsign_of : dsign_of.name = "sign_of" := rfl
@[simp] theorem nmreduced : dreduced.name = "reduced" := rfl
@[simp] theorem nmbase_of : dbase_of.name = "base_of" := rfl
@[simp] theorem nmmakes : dmakes.name = "makes" := rfl
@[simp] theorem nmled_back : dled_back.name = "led_back" := rfl
@[simp] theorem nmwith_traced : dwith_traced.name = "with_traced" := rfl
@[simp] theorem nmparting_turn : dparting_turn.name = "parting_turn" := rfl
@[simp] theorem nmknown_paper : dknown_paper.name = "known_paper" := rfl
@[simp] theorem nmis_meeting : dis_meeting.name = "is_meeting" := rfl
@[simp] theorem nmrises : drises.name = "rises" := rfl
@[simp] theorem nmis_word : dis_word.name = "is_word" := rfl
@[simp] theorem nmneed : dneed.name = "need" := rfl
@[simp] theorem nmis_odd_with : dis_odd_with.name = "is_odd_with" := rfl
@[simp] theorem nmis_shaped : dis_shaped.name = "is_shaped" := rfl
@[simp] theorem nmlook_at_places : dlook_at_places.name = "look_at_places" := rfl
@[simp] theorem nmlook_at_turn : dlook_at_turn.name = "look_at_turn" := rfl
@[simp] theorem nmlets_known : dlets_known.name = "lets_known" := rfl
@[simp] theorem nmall_made : dall_made.name = "all_made" := rfl
@[simp] theorem nmrank_of : drank_of.name = "rank_of" := rfl
@[simp] theorem nm_law_feed : d_law_feed.name = "_law_feed" := rfl
@[simp] theorem nm_law_draw : d_law_draw.name = "_law_draw" := rfl
@[simp] theorem nm_law_plus : d_law_plus.name = "_law_plus" := rfl
@[simp] theorem nm_law_word : d_law_word.name = "_law_word" := rfl
@[simp] theorem nm_law_lot : d_law_lot.name = "_law_lot" := rfl
@[simp] theorem nm_law_let : d_law_let.name = "_law_let" := rfl
@[simp] theorem nm_law_size : d_law_size.name = "_law_size" := rfl
@[simp] theorem nm_law_turn_right : d_law_turn_right.name = "_law_turn_right" := rfl
@[simp] theorem nm_law_is_right : d_law_is_right.name = "_law_is_right" := rfl
@[simp] theorem nmlaw : dlaw.name = "law" := rfl
theorem fdsum_two : (defs.find? fun d => d.name == "sum_two") = some dsum_two := by simp [defs]
@[simp] theorem fnsum_two (k : Nat) : (gm defs XF (k + 1)).fn "sum_two" = some ([.b, .b], runD (gm defs XF k) XF dsum_two) := gm_fn fdsum_two
theorem fdsum_of : (defs.find? fun d => d.name == "sum_of") = some dsum_of := by simp [defs]
@[simp] theorem fnsum_of (k : Nat) : (gm defs XF (k + 1)).fn "sum_of" = some ([.b], runD (gm defs XF k) XF dsum_of) := gm_fn fdsum_of
theorem fdsign_of : (defs.find? fun d => d.name == "sign_of") = some dsign_of := by simp [defs]
@[simp] theorem fnsign_of (k : Nat) : (gm defs XF (k + 1)).fn "sign_of" = some ([.b, .b], runD (gm defs XF k) XF dsign_of) := gm_fn fdsign_of
theorem fdreduced : (defs.find? fun d => d.name == "reduced") = some dreduced := by simp [defs]
@[simp] theorem fnreduced (k : Nat) : (gm defs XF (k + 1)).fn "reduced" = some ([.b, .b], runD (gm defs XF k) XF dreduced) := gm_fn fdreduced
theorem fdbase_of : (defs.find? fun d => d.name == "base_of") = some dbase_of := by simp [defs]
@[simp] theorem fnbase_of (k : Nat) : (gm defs XF (k + 1)).fn "base_of" = some ([.b], runD (gm defs XF k) XF dbase_of) := gm_fn fdbase_of
theorem fdmakes : (defs.find? fun d => d.name == "makes") = some dmakes := by simp [defs]
@[simp] theorem fnmakes (k : Nat) : (gm defs XF (k + 1)).fn "makes" = some ([.b, .b], runD (gm defs XF k) XF dmakes) := gm_fn fdmakes
theorem fdled_back : (defs.find? fun d => d.name == "led_back") = some dled_back := by simp [defs]
@[simp] theorem fnled_back (k : Nat) : (gm defs XF (k + 1)).fn "led_back" = some ([.b, .b, .b], runD (gm defs XF k) XF dled_back) := gm_fn fdled_back
theorem fdwith_traced : (defs.find? fun d => d.name == "with_traced") = some dwith_traced := by simp [defs]
@[simp] theorem fnwith_traced (k : Nat) : (gm defs XF (k + 1)).fn "with_traced" = some ([.f, .b, .b], runD (gm defs XF k) XF dwith_traced) := gm_fn fdwith_traced
theorem fdparting_turn : (defs.find? fun d => d.name == "parting_turn") = some dparting_turn := by simp [defs]
@[simp] theorem fnparting_turn (k : Nat) : (gm defs XF (k + 1)).fn "parting_turn" = some ([.b, .b], runD (gm defs XF k) XF dparting_turn) := gm_fn fdparting_turn
theorem fdknown_paper : (defs.find? fun d => d.name == "known_paper") = some dknown_paper := by simp [defs]
@[simp] theorem fnknown_paper (k : Nat) : (gm defs XF (k + 1)).fn "known_paper" = some ([.b, .b], runD (gm defs XF k) XF dknown_paper) := gm_fn fdknown_paper
theorem fdis_meeting : (defs.find? fun d => d.name == "is_meeting") = some dis_meeting := by simp [defs]
@[simp] theorem fnis_meeting (k : Nat) : (gm defs XF (k + 1)).fn "is_meeting" = some ([.b], runD (gm defs XF k) XF dis_meeting) := gm_fn fdis_meeting
theorem fdrises : (defs.find? fun d => d.name == "rises") = some drises := by simp [defs]
@[simp] theorem fnrises (k : Nat) : (gm defs XF (k + 1)).fn "rises" = some ([.b], runD (gm defs XF k) XF drises) := gm_fn fdrises
theorem fdis_word : (defs.find? fun d => d.name == "is_word") = some dis_word := by simp [defs]
@[simp] theorem fnis_word (k : Nat) : (gm defs XF (k + 1)).fn "is_word" = some ([.b], runD (gm defs XF k) XF dis_word) := gm_fn fdis_word
theorem fdneed : (defs.find? fun d => d.name == "need") = some dneed := by simp [defs]
@[simp] theorem fnneed (k : Nat) : (gm defs XF (k + 1)).fn "need" = some ([.b, .b, .b], runD (gm defs XF k) XF dneed) := gm_fn fdneed
theorem fdis_odd_with : (defs.find? fun d => d.name == "is_odd_with") = some dis_odd_with := by simp [defs]
@[simp] theorem fnis_odd_with (k : Nat) : (gm defs XF (k + 1)).fn "is_odd_with" = some ([.b, .b], runD (gm defs XF k) XF dis_odd_with) := gm_fn fdis_odd_with
theorem fdis_shaped : (defs.find? fun d => d.name == "is_shaped") = some dis_shaped := by simp [defs]
@[simp] theorem fnis_shaped (k : Nat) : (gm defs XF (k + 1)).fn "is_shaped" = some ([.b], runD (gm defs XF k) XF dis_shaped) := gm_fn fdis_shaped
theorem fdlook_at_places : (defs.find? fun d => d.name == "look_at_places") = some dlook_at_places := by simp [defs]
@[simp] theorem fnlook_at_places (k : Nat) : (gm defs XF (k + 1)).fn "look_at_places" = some ([.b, .b, .b], runD (gm defs XF k) XF dlook_at_places) := gm_fn fdlook_at_places
theorem fdlook_at_turn : (defs.find? fun d => d.name == "look_at_turn") = some dlook_at_turn := by simp [defs]
@[simp] theorem fnlook_at_turn (k : Nat) : (gm defs XF (k + 1)).fn "look_at_turn" = some ([.b, .b, .b], runD (gm defs XF k) XF dlook_at_turn) := gm_fn fdlook_at_turn
theorem fdlets_known : (defs.find? fun d => d.name == "lets_known") = some dlets_known := by simp [defs]
@[simp] theorem fnlets_known (k : Nat) : (gm defs XF (k + 1)).fn "lets_known" = some ([.b, .b, .b], runD (gm defs XF k) XF dlets_known) := gm_fn fdlets_known
theorem fdall_made : (defs.find? fun d => d.name == "all_made") = some dall_made := by simp [defs]
@[simp] theorem fnall_made (k : Nat) : (gm defs XF (k + 1)).fn "all_made" = some ([.b], fun ds => runD (gm defs XF k) XF dall_made (ds ++ dall_made.df)) := gm_fnD fdall_made
theorem fdrank_of : (defs.find? fun d => d.name == "rank_of") = some drank_of := by simp [defs]
@[simp] theorem fnrank_of (k : Nat) : (gm defs XF (k + 1)).fn "rank_of" = some ([.b], runD (gm defs XF k) XF drank_of) := gm_fn fdrank_of
theorem fd_law_feed : (defs.find? fun d => d.name == "_law_feed") = some d_law_feed := by simp [defs]
@[simp] theorem fn_law_feed (k : Nat) : (gm defs XF (k + 1)).fn "_law_feed" = some ([.b], runD (gm defs XF k) XF d_law_feed) := gm_fn fd_law_feed
theorem fd_law_draw : (defs.find? fun d => d.name == "_law_draw") = some d_law_draw := by simp [defs]
@[simp] theorem fn_law_draw (k : Nat) : (gm defs XF (k + 1)).fn "_law_draw" = some ([.l, .b], runD (gm defs XF k) XF d_law_draw) := gm_fn fd_law_draw
theorem fd_law_plus : (defs.find? fun d => d.name == "_law_plus") = some d_law_plus := by simp [defs]
@[simp] theorem fn_law_plus (k : Nat) : (gm defs XF (k + 1)).fn "_law_plus" = some ([.b, .b], runD (gm defs XF k) XF d_law_plus) := gm_fn fd_law_plus
theorem fd_law_word : (defs.find? fun d => d.name == "_law_word") = some d_law_word := by simp [defs]
@[simp] theorem fn_law_word (k : Nat) : (gm defs XF (k + 1)).fn "_law_word" = some ([.l, .b], runD (gm defs XF k) XF d_law_word) := gm_fn fd_law_word
theorem fd_law_lot : (defs.find? fun d => d.name == "_law_lot") = some d_law_lot := by simp [defs]
@[simp] theorem fn_law_lot (k : Nat) : (gm defs XF (k + 1)).fn "_law_lot" = some ([.l, .b, .b], runD (gm defs XF k) XF d_law_lot) := gm_fn fd_law_lot
theorem fd_law_let : (defs.find? fun d => d.name == "_law_let") = some d_law_let := by simp [defs]
@[simp] theorem fn_law_let (k : Nat) : (gm defs XF (k + 1)).fn "_law_let" = some ([.b, .b, .b], runD (gm defs XF k) XF d_law_let) := gm_fn fd_law_let
theorem fd_law_size : (defs.find? fun d => d.name == "_law_size") = some d_law_size := by simp [defs]
@[simp] theorem fn_law_size (k : Nat) : (gm defs XF (k + 1)).fn "_law_size" = some ([.b], runD (gm defs XF k) XF d_law_size) := gm_fn fd_law_size
theorem fd_law_turn_right : (defs.find? fun d => d.name == "_law_turn_right") = some d_law_turn_right := by simp [defs]
@[simp] theorem fn_law_turn_right (k : Nat) : (gm defs XF (k + 1)).fn "_law_turn_right" = some ([.b, .b, .b, .b], runD (gm defs XF k) XF d_law_turn_right) := gm_fn fd_law_turn_right
theorem fd_law_is_right : (defs.find? fun d => d.name == "_law_is_right") = some d_law_is_right := by simp [defs]
@[simp] theorem fn_law_is_right (k : Nat) : (gm defs XF (k + 1)).fn "_law_is_right" = some ([.b, .b, .b], runD (gm defs XF k) XF d_law_is_right) := gm_fn fd_law_is_right
theorem fdlaw : (defs.find? fun d => d.name == "law") = some dlaw := by simp [defs]
@[simp] theorem fnlaw (k : Nat) : (gm defs XF (k + 1)).fn "law" = some ([.b], runD (gm defs XF k) XF dlaw) := gm_fn fdlaw
theorem oksum_two : dfOk BN GL KB dsum_two (top 7) = true := by decide +kernel
theorem oksum_of : dfOk BN GL KB dsum_of (top 8) = true := by decide +kernel
theorem oksign_of : dfOk BN GL KB dsign_of (top 9) = true := by decide +kernel
theorem okreduced : dfOk BN GL KB dreduced (top 11) = true := by decide +kernel
theorem okbase_of : dfOk BN GL KB dbase_of (top 12) = true := by decide +kernel
theorem okmakes : dfOk BN GL KB dmakes (top 13) = true := by decide +kernel
theorem okled_back : dfOk BN GL KB dled_back (top 15) = true := by decide +kernel
theorem okwith_traced : dfOk BN GL KB dwith_traced (top 16) = true := by decide +kernel
theorem okparting_turn : dfOk BN GL KB dparting_turn (top 18) = true := by decide +kernel
theorem okknown_paper : dfOk BN GL KB dknown_paper (top 19) = true := by decide +kernel
theorem okis_meeting : dfOk BN GL KB dis_meeting (top 21) = true := by decide +kernel
theorem okrises : dfOk BN GL KB drises (top 22) = true := by decide +kernel
theorem okis_word : dfOk BN GL KB dis_word (top 23) = true := by decide +kernel
theorem okneed : dfOk BN GL KB dneed (top 25) = true := by decide +kernel
theorem okis_odd_with : dfOk BN GL KB dis_odd_with (top 26) = true := by decide +kernel
theorem okis_shaped : dfOk BN GL KB dis_shaped (top 27) = true := by decide +kernel
theorem oklook_at_places : dfOk BN GL KB dlook_at_places (top 28) = true := by decide +kernel
theorem oklook_at_turn : dfOk BN GL KB dlook_at_turn (top 29) = true := by decide +kernel
theorem oklets_known : dfOk BN GL KB dlets_known (top 30) = true := by decide +kernel
theorem okall_made : dfOk BN GL KB dall_made (top 33) = true := by decide +kernel
theorem okrank_of : dfOk BN GL KB drank_of (top 35) = true := by decide +kernel
theorem ok_law_feed : dfOk BN GL KB d_law_feed (top 37) = true := by decide +kernel
theorem ok_law_draw : dfOk BN GL KB d_law_draw (top 38) = true := by decide +kernel
theorem ok_law_plus : dfOk BN GL KB d_law_plus (top 39) = true := by decide +kernel
theorem ok_law_word : dfOk BN GL KB d_law_word (top 40) = true := by decide +kernel
theorem ok_law_lot : dfOk BN GL KB d_law_lot (top 41) = true := by decide +kernel
theorem ok_law_let : dfOk BN GL KB d_law_let (top 42) = true := by decide +kernel
theorem ok_law_size : dfOk BN GL KB d_law_size (top 43) = true := by decide +kernel
theorem ok_law_turn_right : dfOk BN GL KB d_law_turn_right (top 44) = true := by decide +kernel
theorem ok_law_is_right : dfOk BN GL KB d_law_is_right (top 45) = true := by decide +kernel
theorem oklaw : dfOk BN GL KB dlaw (top 46) = true := by decide +kernel
end K10
set_option Elab.async false
set_option linter.all false
set_option maxRecDepth 100000
set_option maxHeartbeats 4000000
set_option exponentiation.threshold 9000
namespace K10
open Ev PySem Vs
theorem c_sum (g : Gm) {a b : Wd} (ha : Wk a) (hb : Wk b) : runD g XF dsum_two [dW a, dW b] = .ret (dW (symI a b)) [] := by
  rw [z_run (e0 := [.bo (dW a), .bo (dW b)]) rfl]
  have la := ha.len
  have lb := hb.len
  have i1 := ints_w (w := a) (by omega)
  have i2 := ints_w (w := b) (by omega)
  have i3 : a.length + b.length < 64 := by omega
  simp [dsum_two, i1, i2, i3]
  rfl
abbrev redB : List MS := [.ite (.cmp .In (.idx (.var 2) (.con (.int 0))) (.var 1)) [.asg 1 (.cal "sum_two" [.var 1, .var 2])] []]
theorem red_turn (k : Nat) {r e : Wd} (hr : Wk r) (he : Wk e) (hn : r ≠ []) {R s1 s2 : Sl} (n1 : vl s1 (dW e)) (n2 : nm s2) :
    ∃ y1, vl y1 (dW (st r e)) ∧ frTurn [2] false (sens (gm defs XF (k + 1)) XF redB) (dW r) [R, s1, s2] = .ok .nx [R, y1, .fz (dW r)] := by
  have e1 := c_sum (gm defs XF k) he hr
  have e2 : iop (dW r) (.int 0) = some (.int (hd r)) := at_hd hn
  have e3 : cop .In (.int (hd r)) (dW e) = some (decide (hd r ∈ e)) := in_w _ _
  have e4 : ∀ e' : Ev.Env, slR 1 e' (some s1) = .ok (.val (dW e)) e' := fun e' => vl_sl n1 rfl
  by_cases c : hd r ∈ e
  · refine ⟨.fz (dW (st r e)), vl_fz, ?_⟩
    have e5 : st r e = symI e r := if_pos c
    rw [e5]
    have n3 := vl_nm n1
    simp [e1, e2, e3, e4, c, nm_slP n2, nm_slP n3]
  · refine ⟨s1, ?_, ?_⟩
    · have e5 : st r e = e := if_neg c
      rw [e5]; exact n1
    · simp [e1, e2, e3, e4, c, nm_slP n2]
theorem red_go (k : Nat) {R : Sl} : ∀ {rows : List Wd} {e : Wd} {s1 s2 : Sl}, Ws rows → (∀ r ∈ rows, r ≠ []) → Wk e → vl s1 (dW e) → nm s2 →
    ∃ y1 y2, vl y1 (dW (red rows e)) ∧ frGo (frTurn [2] false (sens (gm defs XF (k + 1)) XF redB)) (dL rows) [R, s1, s2] = .ok .nx [R, y1, y2]
  | [], e, s1, s2, _, _, _, n1, n2 => ⟨s1, s2, n1, rfl⟩
  | r :: rows, e, s1, s2, hw, hn, he, n1, n2 => by
    have hr := hw r List.mem_cons_self
    obtain ⟨y1, m1, h1⟩ := red_turn k hr he (hn r List.mem_cons_self) (R := R) n1 n2
    obtain ⟨z1, z2, m2, h2⟩ := red_go k (rows := rows) (e := st r e) (fun x hx => hw x (List.mem_cons_of_mem _ hx)) (fun x hx => hn x (List.mem_cons_of_mem _ hx)) (wk_st hr he) m1 (nm_fz (d := dW r))
    refine ⟨z1, z2, m2, ?_⟩
    show frGo _ (dW r :: dL rows) _ = _
    unfold frGo
    rw [h1, bind_ok]
    exact h2
theorem c_red (k : Nat) {rows : List Wd} {e : Wd} (hw : Ws rows) (hn : ∀ r ∈ rows, r ≠ []) (he : Wk e) : runD (gm defs XF (k + 1)) XF dreduced [.tuple (dL rows), dW e] = .ret (dW (red rows e)) [] := by
  rw [z_run (e0 := [.bo (.tuple (dL rows)), .bo (dW e)]) rfl]
  obtain ⟨y1, y2, m, h⟩ := red_go k (R := .bo (.tuple (dL rows))) hw hn he (vl_bo (d := dW e)) nm_un
  have e4 : ∀ e' : Ev.Env, slR 1 e' (some y1) = .ok (.val (dW (red rows e))) e' := fun e' => vl_sl m rfl
  generalize hX : frTurn [2] false (sens (gm defs XF (k + 1)) XF redB) = tL at h
  simp [dreduced, hX, h, e4]
theorem c_redL (k : Nat) {rows : List Wd} {e : Wd} (hw : Ws rows) (hn : ∀ r ∈ rows, r ≠ []) (he : Wk e) : runD (gm defs XF (k + 1)) XF dreduced [.list (dL rows), dW e] = .ret (dW (red rows e)) [] := by
  rw [z_run (e0 := [.bo (.list (dL rows)), .bo (dW e)]) rfl]
  obtain ⟨y1, y2, m, h⟩ := red_go k (R := .bo (.list (dL rows))) hw hn he (vl_bo (d := dW e)) nm_un
  have e4 : ∀ e' : Ev.Env, slR 1 e' (some y1) = .ok (.val (dW (red rows e))) e' := fun e' => vl_sl m rfl
  generalize hX : frTurn [2] false (sens (gm defs XF (k + 1)) XF redB) = tL at h
  simp [dreduced, hX, h, e4]
/-! base_of -/
abbrev boX : ME := .ite (.cmp .In (.idx (.var 3) (.con (.int 0))) (.var 4)) (.cal "sum_two" [.var 4, .var 3]) (.var 4)
abbrev boB : List MS := [.asg 3 (.cal "reduced" [.var 1, .var 2]), .ite (.cmp .NotEq (.var 3) (.tup [])) [.asg 1 (.bin .Add (.lc [("own", 4)] [4] false (.var 1) none boX) (.lst [.var 3]))] []]
theorem bo_lc (k : Nat) {rows : List Wd} {q : Wd} (hw : Ws rows) (hq : Wk q) (hn : q ≠ []) (hl : rows.length < 1000) {R s2 : Sl} :
    lcRun [4] (lcTurn [4] [4] false (denT (gm defs XF (k + 1)) none) (den (gm defs XF (k + 1)) boX).v) (.slot 1 false) [R, .mu false false (.lst (dL rows)), s2, .fz (dW q), .un] =
      .ok (dL (rows.map fun own => if hd q ∈ own then symI own q else own)) [R, .mu false false (.lst (dL rows)), s2, .fz (dW q), .un] := by
  refine lcR_slot (e1 := [R, .mu false true (.lst (dL rows)), s2, .fz (dW q), .un]) (e2 := [R, .mu false true (.lst (dL rows)), s2, .fz (dW q), .un]) (e3 := [R, .mu false true (.lst (dL rows)), s2, .fz (dW q), .un]) rfl rfl ?_ rfl
  have e0 : dL (rows.map fun own => if hd q ∈ own then symI own q else own) = rows.filterMap fun own => some (dW (if hd q ∈ own then symI own q else own)) := by
    rw [filterMap_some, dL, List.map_map]
    rfl
  rw [e0]
  refine lcN_pure (l := rows) (enc := dW) (t := false) (i := 1) (e := [R, .mu false true (.lst (dL rows)), s2, .fz (dW q), .un]) rfl (by omega) fun own ho => ?_
  have e1 := c_sum (gm defs XF k) (hw own ho) hq
  have e2 : iop (dW q) (.int 0) = some (.int (hd q)) := at_hd hn
  have e3 : cop .In (.int (hd q)) (dW own) = some (decide (hd q ∈ own)) := in_w _ _
  by_cases c : hd q ∈ own
  · simp [e1, e2, e3, c]
  · simp [e1, e2, e3, c]
theorem bo_turn (k : Nat) {rows : List Wd} {e : Wd} (hw : Ws rows) (hn : ∀ r ∈ rows, r ≠ []) (he : Wk e) (hl : rows.length < 1000) {R s2 s3 : Sl} (n2 : nm s2) (n3 : nm s3) :
    ∃ y3, nm y3 ∧ frTurn [2] false (sens (gm defs XF (k + 2)) XF boB) (dW e) [R, .mu false false (.lst (dL rows)), s2, s3, .un] = .ok .nx [R, .mu false false (.lst (dL (ins rows e))), .fz (dW e), y3, .un] := by
  have e1 := c_redL k hw hn he
  have hq := wk_red hw he
  have e2 := eq_w0 (red rows e)
  refine ⟨.fz (dW (red rows e)), nm_fz, ?_⟩
  by_cases c : red rows e = []
  · have e3 : ins rows e = rows := if_pos c
    rw [e3]
    have e5 : (red rows e).isEmpty = true := by rw [c]; rfl
    simp only [e1, e2, e5, nm_slP n2, nm_slP n3, Ev.z_frT, Ev.z_putT]
    simp [e1, e2, e5, nm_slP n2, nm_slP n3]
  · have e3 : ins rows e = rows.map (fun own => if hd (red rows e) ∈ own then symI own (red rows e) else own) ++ [red rows e] := if_neg c
    have e4 := bo_lc (k + 1) hw hq c hl (R := R) (s2 := .fz (dW e))
    have e5 : (red rows e).isEmpty = false := by cases h : red rows e <;> first | exact absurd h c | rfl
    have e6 : bop .Add (.list (dL (rows.map (fun own => if hd (red rows e) ∈ own then symI own (red rows e) else own)))) (.list [dW (red rows e)]) = some (.fresh (.lst (dL (ins rows e)))) := by
      rw [cat_l (by simp [big]; omega), e3, dL_app]
      rfl
    simp [e1, e2, e4, e5, e6, nm_slP n2, nm_slP n3]
theorem bo_go (k : Nat) {R : Sl} : ∀ {ws rows : List Wd} {s2 s3 : Sl}, Ech rows → Ws rows → Ws ws → nm s2 → nm s3 →
    ∃ y2 y3, frGo (frTurn [2] false (sens (gm defs XF (k + 2)) XF boB)) (dL ws) [R, .mu false false (.lst (dL rows)), s2, s3, .un] = .ok .nx [R, .mu false false (.lst (dL (ws.foldl ins rows))), y2, y3, .un]
  | [], rows, s2, s3, _, _, _, _, _ => ⟨s2, s3, rfl⟩
  | w :: ws, rows, s2, s3, E, hr, hw, n2, n3 => by
    have h0 := hw w List.mem_cons_self
    have hl := ech_len E hr
    obtain ⟨y3, m3, h1⟩ := bo_turn k hr E.ne h0 (by omega) (R := R) n2 n3
    obtain ⟨z2, z3, h2⟩ := bo_go k (R := R) (ws := ws) (ins_ech E h0.ris) (ws_ins hr h0) (fun x hx => hw x (List.mem_cons_of_mem _ hx)) (nm_fz (d := dW w)) m3
    refine ⟨z2, z3, ?_⟩
    show frGo _ (dW w :: dL ws) _ = _
    unfold frGo
    rw [h1, bind_ok]
    exact h2
theorem c_bo (k : Nat) {ws : List Wd} (hw : Ws ws) : runD (gm defs XF (k + 2)) XF dbase_of [.tuple (dL ws)] = .ret (.tuple (dL (baseOf ws))) [] := by
  rw [z_run (e0 := [.bo (.tuple (dL ws))]) rfl]
  obtain ⟨y2, y3, h⟩ := bo_go k (R := .bo (.tuple (dL ws))) (rows := []) ech_nil (fun _ h => absurd h List.not_mem_nil) hw nm_un nm_un
  have h5 := sorted_ws (base_ech hw.all).ne
  generalize hX : frTurn [2] false (sens (gm defs XF (k + 2)) XF boB) = tL at h
  have h' : frGo tL (dL ws) [.bo (.tuple (dL ws)), .mu false false (.lst []), .un, .un, .un] = .ok .nx [.bo (.tuple (dL ws)), .mu false false (.lst (dL (baseL ws))), y2, y3, .un] := h
  simp [dbase_of, hX, h', h5]
  rfl
theorem c_boL (k : Nat) {ws : List Wd} (hw : Ws ws) : runD (gm defs XF (k + 2)) XF dbase_of [.list (dL ws)] = .ret (.tuple (dL (baseOf ws))) [] := by
  rw [z_run (e0 := [.bo (.list (dL ws))]) rfl]
  obtain ⟨y2, y3, h⟩ := bo_go k (R := .bo (.list (dL ws))) (rows := []) ech_nil (fun _ h => absurd h List.not_mem_nil) hw nm_un nm_un
  have h5 := sorted_ws (base_ech hw.all).ne
  generalize hX : frTurn [2] false (sens (gm defs XF (k + 2)) XF boB) = tL at h
  have h' : frGo tL (dL ws) [.bo (.list (dL ws)), .mu false false (.lst []), .un, .un, .un] = .ok .nx [.bo (.list (dL ws)), .mu false false (.lst (dL (baseL ws))), y2, y3, .un] := h
  simp [dbase_of, hX, h', h5]
  rfl
end K10
set_option Elab.async false
set_option linter.all false
set_option maxRecDepth 100000
set_option maxHeartbeats 4000000
set_option exponentiation.threshold 9000
namespace K10
open Ev PySem Vs
theorem small_log {n : Nat} (h : n < 2 ^ 8000) : n.log2 < 9000 := Nat.lt_trans (log2_lt h (by decide)) (by decide)
def FL (ns : List Int) (s o a : Int) : List D := [.list (ns.map .int), .int s, .int o, .int a]
abbrev FS (ns : List Int) (s o a : Int) : C := .lst (FL ns s o a)
section
variable {ns : List Int} {s o a x : Int}
theorem f_at {n : Nat} {d : D} (h : (FL ns s o a)[n]? = some d) : L2.atI (FL ns s o a) (n : Int) = some d := L2.atI_nat h
@[simp] theorem f0 : L2.atI (FL ns s o a) 0 = some (.list (ns.map .int)) := f_at (n := 0) rfl
@[simp] theorem f1 : L2.atI (FL ns s o a) 1 = some (.int s) := f_at (n := 1) rfl
@[simp] theorem f2 : L2.atI (FL ns s o a) 2 = some (.int o) := f_at (n := 2) rfl
@[simp] theorem f3 : L2.atI (FL ns s o a) 3 = some (.int a) := f_at (n := 3) rfl
@[simp] theorem g1 : stoD (FS ns s o a) (.int 1) (.int x) = some (FS ns x o a) := rfl
@[simp] theorem g2 : stoD (FS ns s o a) (.int 2) (.int x) = some (FS ns s x a) := rfl
@[simp] theorem g3 : stoD (FS ns s o a) (.int 3) (.int x) = some (FS ns s o x) := rfl
end
theorem cut63 {xs : List D} (h : xs.length ≤ 63) : cutD xs none (some 63) = xs := by
  unfold cutD
  have e1 : HT.sIx xs.length 0 none = 0 := rfl
  have e2 : HT.sIx xs.length xs.length (some 63) = xs.length := by
    show (if (63 : Int) < 0 then ((63 : Int) + xs.length).toNat else min (63 : Int).toNat xs.length) = xs.length
    rw [if_neg (by omega)]
    have : (63 : Int).toNat = 63 := rfl
    omega
  rw [e1, e2]
  simp
theorem c_feed (g : Gm) (ns : List Int) (h : ns.length ≤ 63) : runD g XF d_law_feed [.list (ns.map .int)] = .fresh (FS ns 0 0 0) [] := by
  rw [z_run (e0 := [.bo (.list (ns.map .int))]) rfl]
  have h1 : sop (.list (ns.map .int)) none (some 63) = some (.fresh (.lst (ns.map .int))) := by
    show some (R.fresh (.lst (cutD (ns.map .int) none (some 63)))) = _
    rw [cut63 (by simpa using h)]
  simp [d_law_feed, h1]
  rfl
theorem st_l1 {F : C} {d : D} : startE [.l, .b] [F.d, d] = some [.mu true false F, .bo d] := by
  unfold startE startE startE
  rw [slOf_l]
  rfl
theorem st_l2 {F : C} {d d2 : D} : startE [.l, .b, .b] [F.d, d, d2] = some [.mu true false F, .bo d, .bo d2] := by
  unfold startE startE startE startE
  rw [slOf_l]
  rfl
theorem at_ints {ns : List Int} {i : Int} (h0 : 0 ≤ i) (h1 : i < ns.length) : L2.atI (ns.map PyData.int) i = some (.int (ns.getD i.toNat 0)) := by
  obtain ⟨k, rfl⟩ : ∃ k : Nat, i = (k : Int) := ⟨i.toNat, by omega⟩
  have hk : k < ns.length := by omega
  refine L2.atI_nat (v := PyData.int (ns.getD (k : Int).toNat 0)) ?_
  rw [List.getElem?_map, List.getElem?_eq_getElem hk]
  simp [List.getD, List.getElem?_eq_getElem hk]
theorem c_draw0 (g : Gm) (ns : List Int) (s o a m : Int) (hs : 0 ≤ s) (ho : 0 ≤ o) (ha : 0 ≤ a) (ha2 : a < 2 ^ 40) (hm : 0 < m) (hm2 : m < 2 ^ 63) :
    ∃ v s' o', runD g XF d_law_draw [(FS ns s o a).d, .int m] = .ret (.int v) [FS ns s' o' (a + 1)] ∧ 0 ≤ v ∧ v < m ∧ 0 ≤ s' ∧ 0 ≤ o' := by
  rw [z_run (e0 := [.mu true false (FS ns s o a), .bo (.int m)]) st_l1]
  have mm := fun x => o_mod (a := x) hm
  have dd := fun x => o_div (a := x) hm (small_log (by omega))
  by_cases h1 : 0 < o
  · refine ⟨o % m, s, o / m, ?_, Int.emod_nonneg _ (by omega), Int.emod_lt_of_pos _ hm, hs, Int.ediv_nonneg ho (by omega)⟩
    simp [d_law_draw, mm, dd, h1]
  · have m1 := fun x => o_mod (a := x) (b := 2147483587) (by decide)
    have m2 := fun x => o_mod (a := x) (b := 2147483629) (by decide)
    have m3 := fun x => o_mod (a := x) (b := 2147483647) (by decide)
    have d1 := fun x => o_div (a := x) (b := 64) (by decide) (by decide)
    have u1 := fun x => o_mul (a := 7919) (b := x) (.inl (by decide))
    have u2 := fun x => o_mul (a := 104729) (b := x) (.inl (by decide))
    have t18 : bop .Pow (.int 10) (.int 18) = some (.val (.int (10 ^ 18))) := o_pow (by decide)
    have w1 : ∀ c : Int, bop .Pow (.int (c % 2147483629 + 7919 * (a + 1) + 1)) (.int 5) = some (.val (.int ((c % 2147483629 + 7919 * (a + 1) + 1) ^ 5))) := fun c => by
      have := Int.emod_nonneg c (show (2147483629 : Int) ≠ 0 by decide)
      have := Int.emod_lt_of_pos c (show (0 : Int) < 2147483629 by decide)
      exact o_pow ⟨by decide, by decide, by omega⟩
    have w2 : ∀ c : Int, bop .Pow (.int (c % 2147483647 + 104729 * (a + 1))) (.int 5) = some (.val (.int ((c % 2147483647 + 104729 * (a + 1)) ^ 5))) := fun c => by
      have := Int.emod_nonneg c (show (2147483647 : Int) ≠ 0 by decide)
      have := Int.emod_lt_of_pos c (show (0 : Int) < 2147483647 by decide)
      exact o_pow ⟨by decide, by decide, by omega⟩
    by_cases h2 : ns = []
    · subst h2
      have w0 : bop .Pow (.int (5 + 7919 * (a + 1) + 1)) (.int 5) = some (.val (.int ((5 + 7919 * (a + 1) + 1) ^ 5))) := by simpa using w1 5
      have nn : eqD (.list []) (.list []) = some true := eq_i0 []
      refine ⟨_, s + 1, o, by simp [d_law_draw, mm, dd, h1, m1, m2, m3, d1, u1, u2, w0, w2, t18, nn]; rfl, Int.emod_nonneg _ (by omega), Int.emod_lt_of_pos _ hm, by omega, ho⟩
    · have hl : 0 < ns.length := List.length_pos_iff.mpr h2
      have hl2 : (0 : Int) < ns.length := by omega
      have ml := fun x => o_mod (a := x) hl2
      have i0 := Int.emod_nonneg s (show (ns.length : Int) ≠ 0 by omega)
      have i1 := Int.emod_lt_of_pos s hl2
      have hat := at_ints i0 i1
      have he : ns.isEmpty = false := by cases ns <;> first | rfl | exact absurd rfl h2
      generalize ns.getD (s % ns.length).toNat 0 = cell at hat
      by_cases h3 : 1000000000000000000 ≤ cell ∧ s < ns.length
      · refine ⟨cell % m, s + 1, cell / m, ?_, Int.emod_nonneg _ (by omega), Int.emod_lt_of_pos _ hm, by omega, Int.ediv_nonneg (by omega) (by omega)⟩
        obtain ⟨h3, h4⟩ := h3
        have h4 : s + 1 ≤ (ns.length : Int) := by omega
        simp [d_law_draw, mm, dd, h1, ml, hat, eq_i0, he, t18, h3, h4]
      · have h5 : ¬ (1000000000000000000 ≤ cell) ∨ (1000000000000000000 ≤ cell ∧ ¬ s < ns.length) := by
          by_cases q : 1000000000000000000 ≤ cell
          · exact .inr ⟨q, fun z => h3 ⟨q, z⟩⟩
          · exact .inl q
        rcases h5 with h5 | ⟨h5, h6⟩
        · refine ⟨_, s + 1, o, by simp [d_law_draw, mm, dd, h1, ml, hat, eq_i0, he, t18, h5, m1, m2, m3, d1, u1, u2, w1, w2]; rfl, Int.emod_nonneg _ (by omega), Int.emod_lt_of_pos _ hm, by omega, ho⟩
        · have h6 : ¬ (s + 1 ≤ (ns.length : Int)) := by omega
          refine ⟨_, s + 1, o, by simp [d_law_draw, mm, dd, h1, ml, hat, eq_i0, he, t18, h5, h6, m1, m2, m3, d1, u1, u2, w1, w2]; rfl, Int.emod_nonneg _ (by omega), Int.emod_lt_of_pos _ hm, by omega, ho⟩
/-- a feed that was asked at most n times -/
def Fd (ns : List Int) (n : Nat) (F : C) : Prop := ∃ s o a : Int, F = FS ns s o a ∧ 0 ≤ s ∧ 0 ≤ o ∧ 0 ≤ a ∧ a ≤ n
theorem Fd.mono {ns : List Int} {n m : Nat} {F : C} (h : Fd ns n F) (l : n ≤ m) : Fd ns m F := by
  obtain ⟨s, o, a, e, h1, h2, h3, h4⟩ := h
  exact ⟨s, o, a, e, h1, h2, h3, by omega⟩
theorem c_draw (g : Gm) {ns : List Int} {n : Nat} {F : C} (h : Fd ns n F) (hn : n < 2 ^ 30) {m : Int} (hm : 0 < m) (hm2 : m < 2 ^ 63) :
    ∃ v F', runD g XF d_law_draw [F.d, .int m] = .ret (.int v) [F'] ∧ 0 ≤ v ∧ v < m ∧ Fd ns (n + 1) F' := by
  obtain ⟨s, o, a, rfl, h1, h2, h3, h4⟩ := h
  obtain ⟨v, s', o', e, q1, q2, q3, q4⟩ := c_draw0 g ns s o a m h1 h2 h3 (by omega) hm hm2
  exact ⟨v, _, e, q1, q2, s', o', a + 1, rfl, q3, q4, by omega, by omega⟩
theorem it_w {w : Wd} : itemsD (dW w) = some (w.map .int) := rfl
theorem nin_w {k : Int} {w : Wd} : cop .NotIn (.int k) (dW w) = some (!decide (k ∈ w)) := by
  show (inD (.int k) (dW w)).map (!·) = _
  rw [in_w]
  rfl
theorem c_plus (g : Gm) {a b : Wd} (ha : Wk a) (hb : Wk b) : runD g XF d_law_plus [dW a, dW b] = .ret (dW (symI a b)) [] := by
  rw [z_run (e0 := [.bo (dW a), .bo (dW b)]) rfl]
  have la := ha.len
  have lb := hb.len
  have h1 : lcGo (lcTurn [2] [2] false (denT g (some (.cmp .NotIn (.var 2) (.var 1)))) (den g (.var 2)).v) (a.map .int) [.bo (dW a), .bo (dW b), .un] = .ok ((a.filter fun k => !b.contains k).map .int) [.bo (dW a), .bo (dW b), .un] := by
    rw [← filterMap_if]
    refine lc_pure fun k hk => ?_
    have e1 := nin_w (k := k) (w := b)
    by_cases c : k ∈ b <;> simp [e1, c]
  have h2 : lcGo (lcTurn [2] [2] false (denT g (some (.cmp .NotIn (.var 2) (.var 0)))) (den g (.var 2)).v) (b.map .int) [.bo (dW a), .bo (dW b), .un] = .ok ((b.filter fun k => !a.contains k).map .int) [.bo (dW a), .bo (dW b), .un] := by
    rw [← filterMap_if]
    refine lc_pure fun k hk => ?_
    have e1 := nin_w (k := k) (w := a)
    by_cases c : k ∈ a <;> simp [e1, c]
  have h3 : bi .sorted [.list (((a.filter fun k => !b.contains k) ++ b.filter fun k => !a.contains k).map .int)] = some (.fresh (.lst ((symI a b).map .int))) := sorted_ints (sym_app ha.ris hb.ris)
  have b1 : a.length < big := by simp [big]; omega
  have b2 : b.length < big := by simp [big]; omega
  have h4 : bop .Add (.list ((a.filter fun k => !b.contains k).map .int)) (.list ((b.filter fun k => !a.contains k).map .int)) = some (.fresh (.lst (((a.filter fun k => !b.contains k) ++ b.filter fun k => !a.contains k).map .int))) := by
    rw [cat_l, List.map_append]
    have := List.length_filter_le (fun k => !b.contains k) a
    have := List.length_filter_le (fun k => !a.contains k) b
    simp only [List.length_map, big]
    omega
  generalize hX : lcTurn [2] [2] false (denT g (some (.cmp .NotIn (.var 2) (.var 1)))) (den g (.var 2)).v = t1 at h1
  generalize hY : lcTurn [2] [2] false (denT g (some (.cmp .NotIn (.var 2) (.var 0)))) (den g (.var 2)).v = t2 at h2
  generalize hA : (a.filter fun k => !b.contains k).map PyData.int = A at h1 h4
  generalize hB : (b.filter fun k => !a.contains k).map PyData.int = B at h2 h4
  generalize hS : ((a.filter fun k => !b.contains k) ++ b.filter fun k => !a.contains k).map PyData.int = S at h3 h4
  simp [d_law_plus, hX, hY, it_w, h1, h2, h3, h4, b1, b2]
  rfl
theorem c_word (k : Nat) {ns : List Int} {n : Nat} {F : C} (h : Fd ns n F) (hn : n < 2 ^ 29) {m : Nat} (hm : m ≤ 12) :
    ∃ w F', runD (gm defs XF (k + 1)) XF d_law_word [F.d, .int m] = .ret (dW w) [F'] ∧ Fd ns (n + 13) F' ∧ Wk w ∧ (∀ x ∈ w, 0 ≤ x ∧ x < m) := by
  rw [z_run (e0 := [.mu true false F, .bo (.int m)]) st_l1]
  obtain ⟨v, F1, e1, v0, v1, h1⟩ := c_draw (gm defs XF k) h (by omega) (m := 4) (by decide) (by decide)
  have lc := lc_inv (turn := lcTurn [3] [3] false (denT (gm defs XF (k + 1)) (some (.cmp .Eq (.cal "_law_draw" [.var 0, .bin .Add (.con (.int 2)) (.var 2)]) (.con (.int 0))))) (den (gm defs XF (k + 1)) (.var 3)).v) (ds := rngD 0 m)
    (fun j e acc => ∃ F' w, e = [.mu true false F', .bo (.int m), .fz (.int v), .un] ∧ Fd ns (n + 1 + j) F' ∧ acc = w.map .int ∧ Rs w ∧ ∀ x ∈ w, 0 ≤ x ∧ x < j) (by
      rintro j d e acc hd ⟨F', w, rfl, hF, rfl, hw, hx⟩
      unfold rngD at hd
      rw [List.getElem?_map] at hd
      have hj : j < m := by
        apply Classical.byContradiction
        intro z
        rw [List.getElem?_eq_none (by rw [List.length_range]; omega)] at hd
        cases hd
      rw [List.getElem?_eq_getElem (by rw [List.length_range]; exact hj), List.getElem_range] at hd
      cases hd
      obtain ⟨u, F2, e2, u0, u1, h2⟩ := c_draw (gm defs XF k) hF (by omega) (m := 2 + v) (by omega) (by omega)
      by_cases c : u = 0
      · refine ⟨some (.int j), [.mu true false F2, .bo (.int m), .fz (.int v), .un], ?_, F2, w ++ [(j : Int)], rfl, h2, by simp, ?_, fun x hx' => ?_⟩
        · simp [e2, c]
        · refine List.pairwise_append.mpr ⟨hw, List.pairwise_singleton _ _, fun x hx' y hy => ?_⟩
          rw [List.mem_singleton.mp hy]
          exact (hx x hx').2
        · rcases List.mem_append.mp hx' with q | q
          · have := hx x q
            omega
          · rw [List.mem_singleton.mp q]
            omega
      · refine ⟨none, [.mu true false F2, .bo (.int m), .fz (.int v), .un], ?_, F2, w, rfl, h2, by simp, hw, fun x hx' => ?_⟩
        · simp [e2, c]
        · have := hx x hx'
          omega)
    (e := [.mu true false F1, .bo (.int m), .fz (.int v), .un]) (acc := []) ⟨F1, [], rfl, h1, rfl, r_nil, fun _ z => absurd z List.not_mem_nil⟩
  obtain ⟨r, e', hr, F', w, rfl, hF, hacc, hw, hx⟩ := lc
  rw [List.nil_append] at hacc
  subst hacc
  have hlen : (rngD 0 m).length = m := by simp [rngD]
  rw [hlen] at hF hx
  refine ⟨w, F', ?_, hF.mono (by omega), ⟨hw, fun x h => ?_⟩, hx⟩
  · have hb1 : -(big : Int) ≤ m ∧ (m : Int) ≤ (big : Int) := by simp [big]; omega
    have hb2 : m < big := by simp [big]; omega
    generalize hX : lcTurn [3] [3] false (denT (gm defs XF (k + 1)) (some (.cmp .Eq (.cal "_law_draw" [.var 0, .bin .Add (.con (.int 2)) (.var 2)]) (.con (.int 0))))) (den (gm defs XF (k + 1)) (.var 3)).v = tL at hr
    simp [d_law_word, e1, hX, hr, hb1, hb2, hlen]
    rfl
  · have := hx x h
    have e : x = 0 ∨ x = 1 ∨ x = 2 ∨ x = 3 ∨ x = 4 ∨ x = 5 ∨ x = 6 ∨ x = 7 ∨ x = 8 ∨ x = 9 ∨ x = 10 ∨ x = 11 := by omega
    unfold U13
    simp only [List.mem_cons]
    omega
end K10
set_option Elab.async false
set_option linter.all false
set_option maxRecDepth 100000
set_option maxHeartbeats 4000000
set_option exponentiation.threshold 9000
namespace K10
open Ev PySem Vs
/-! makes, rank_of -/
theorem c_mk (k : Nat) {ws : List Wd} {w : Wd} (hw : Ws ws) (h : Wk w) : runD (gm defs XF (k + 3)) XF dmakes [.tuple (dL ws), dW w] = .ret (.bool (mkB ws w)) [] := by
  rw [z_run (e0 := [.bo (.tuple (dL ws)), .bo (dW w)]) rfl]
  have e1 := c_bo k hw
  have e2 := c_red (k + 1) (ws_bo hw) (bo_ech hw.all).ne h
  have e3 := eq_w0 (red (baseOf ws) w)
  have e4 : (red (baseOf ws) w).isEmpty = mkB ws w := rfl
  rw [e4] at e3
  simp [dmakes, e1, e2, e3]
end K10
set_option Elab.async false
set_option linter.all false
set_option maxRecDepth 100000
set_option maxHeartbeats 4000000
set_option exponentiation.threshold 9000
namespace K10
open Ev PySem Vs
theorem c_rank (k : Nat) {ws : List Wd} (hw : Ws ws) : runD (gm defs XF (k + 3)) XF drank_of [.tuple (dL ws)] = .ret (.int (baseOf ws).length) [] := by
  rw [z_run (e0 := [.bo (.tuple (dL ws))]) rfl]
  have e1 := c_bo k hw
  simp [drank_of, e1]
end K10
set_option Elab.async false
set_option linter.all false
set_option maxRecDepth 100000
set_option maxHeartbeats 4000000
set_option exponentiation.threshold 9000
namespace K10
open Ev PySem Vs
theorem at_neg {xs : List Wd} {n : Nat} (h0 : 0 < n) (h : n ≤ xs.length) : ∃ w ∈ xs, L2.atI (dL xs) (-(n : Int)) = some (dW w) := by
  have hk : xs.length - n < xs.length := by omega
  refine ⟨xs[xs.length - n], List.getElem_mem hk, ?_⟩
  unfold L2.atI L2.ixN
  rw [if_neg (by omega), if_pos (by rw [dL_len]; omega)]
  have e : (-(n : Int) + (dL xs).length).toNat = xs.length - n := by rw [dL_len]; omega
  show (dL xs)[(-(n : Int) + (dL xs).length).toNat]? = _
  rw [e, dL, List.getElem?_map, List.getElem?_eq_getElem hk]
  rfl
theorem at_pos {xs : List Wd} {i : Int} (h0 : 0 ≤ i) (h1 : i < xs.length) : ∃ w ∈ xs, L2.atI (dL xs) i = some (dW w) := by
  obtain ⟨k, rfl⟩ : ∃ k : Nat, i = (k : Int) := ⟨i.toNat, by omega⟩
  have hk : k < xs.length := by omega
  refine ⟨xs[k], List.getElem_mem hk, L2.atI_nat ?_⟩
  rw [dL, List.getElem?_map, List.getElem?_eq_getElem hk]
  rfl
theorem lws_snoc {m : Nat} {ws : List Wd} {w : Wd} (h : ∀ w ∈ ws, Lw m w) (hw : Lw m w) : ∀ x ∈ ws ++ [w], Lw m x := fun x hx => by
  rcases List.mem_append.mp hx with y | y
  · exact h x y
  · rw [List.mem_singleton.mp y]; exact hw
theorem lw_wk {m : Nat} {w : Wd} (hm : m ≤ 12) (h : Lw m w) : Wk w := ⟨h.1, fun x hx => by
  have := h.2 x hx
  have e : x = 0 ∨ x = 1 ∨ x = 2 ∨ x = 3 ∨ x = 4 ∨ x = 5 ∨ x = 6 ∨ x = 7 ∨ x = 8 ∨ x = 9 ∨ x = 10 ∨ x = 11 := by omega
  unfold U13
  simp only [List.mem_cons]
  omega⟩
theorem lws_ws {m : Nat} {ws : List Wd} (hm : m ≤ 12) (h : ∀ w ∈ ws, Lw m w) : Ws ws := fun w hw => lw_wk hm (h w hw)
abbrev loB : List MS := [.asg 5 (.cal "_law_draw" [.var 0, .con (.int 6)]), .asg 6 (.cal "_law_word" [.var 0, .var 1]),
    .ite (.and (.cmp .Eq (.var 5) (.con (.int 0))) (.cmp .Gt (.bif .len [.var 3]) (.con (.int 1)))) [.asg 6 (.cal "_law_plus" [.idx (.var 3) (.neg (.con (.int 1))), .idx (.var 3) (.neg (.con (.int 2)))])] [],
    .ite (.and (.cmp .Eq (.var 5) (.con (.int 1))) (.cmp .NotEq (.var 3) (.lst []))) [.asg 6 (.idx (.var 3) (.cal "_law_draw" [.var 0, .bif .len [.var 3]]))] [], .app 3 (.var 6)]
theorem lo_turn (k : Nat) {ns : List Int} {n m : Nat} {F : C} (h : Fd ns n F) (hn : n < 2 ^ 28) (hm : m ≤ 12) {ws : List Wd} (hw : ∀ w ∈ ws, Lw m w) (hl : ws.length < 100) {t d : D} {s4 s5 s6 : Sl} (n4 : nm s4) (n5 : nm s5) (n6 : nm s6) :
    ∃ F' w y5 y6, Fd ns (n + 15) F' ∧ Lw m w ∧ nm y5 ∧ nm y6 ∧
      frTurn [4] false (sens (gm defs XF (k + 2)) XF loB) d [.mu true false F, .bo (.int m), .bo t, .mu false false (.lst (dL ws)), s4, s5, s6] =
        .ok .nx [.mu true false F', .bo (.int m), .bo t, .mu false false (.lst (dL (ws ++ [w]))), .fz d, y5, y6] := by
  obtain ⟨v, F1, e1, v0, v1, h1⟩ := c_draw (gm defs XF (k + 1)) h (by omega) (m := 6) (by decide) (by decide)
  obtain ⟨w, F2, e2, h2, hw2', hx2⟩ := c_word k h1 (by omega) hm
  have hw2 : Lw m w := ⟨hw2'.ris, hx2⟩
  have hap : ∀ x : Wd, dL ws ++ [dW x] = dL (ws ++ [x]) := fun x => by rw [dL_app]; rfl
  have hb : ws.length < big := by simp [big]; omega
  by_cases c0 : v = 0
  · subst c0
    by_cases c1 : 1 < ws.length
    · obtain ⟨a, ha, q1⟩ := at_neg (n := 1) (xs := ws) (by decide) (by omega)
      obtain ⟨b, hb2, q2⟩ := at_neg (n := 2) (xs := ws) (by decide) (by omega)
      have q1 : L2.atI (dL ws) (-1) = some (dW a) := q1
      have q2 : L2.atI (dL ws) (-2) = some (dW b) := q2
      have e3 := c_plus (gm defs XF (k + 1)) (lw_wk hm (hw a ha)) (lw_wk hm (hw b hb2))
      refine ⟨F2, symI a b, .fz (.int 0), .fz (dW (symI a b)), h2.mono (by omega), lw_sym (hw a ha) (hw b hb2), nm_fz, nm_fz, ?_⟩
      have c2 : (1 : Int) < ws.length := by omega
      simp [e1, e2, e3, q1, q2, c2, hap, hb, nm_slP n4, nm_slP n5, nm_slP n6]
    · refine ⟨F2, w, .fz (.int 0), .fz (dW w), h2.mono (by omega), hw2, nm_fz, nm_fz, ?_⟩
      have c2 : ¬ (1 : Int) < ws.length := by omega
      simp [e1, e2, c2, hap, hb, nm_slP n4, nm_slP n5, nm_slP n6]
  · by_cases c1 : v = 1
    · subst c1
      have q3 := eq_l0 ws
      by_cases c2 : ws = []
      · refine ⟨F2, w, .fz (.int 1), .fz (dW w), h2.mono (by omega), hw2, nm_fz, nm_fz, ?_⟩
        have q4 : ws.isEmpty = true := by rw [c2]; rfl
        rw [q4] at q3
        simp [e1, e2, q3, hap, hb, nm_slP n4, nm_slP n5, nm_slP n6]
      · have hpos := List.length_pos_iff.mpr c2
        obtain ⟨u, F3, e3, u0, u1, h3⟩ := c_draw (gm defs XF (k + 1)) h2 (by omega) (m := ws.length) (by omega) (by omega)
        obtain ⟨a, ha, q1⟩ := at_pos u0 u1
        refine ⟨F3, a, .fz (.int 1), .fz (dW a), h3.mono (by omega), hw a ha, nm_fz, nm_fz, ?_⟩
        have q4 : ws.isEmpty = false := by cases h : ws <;> first | exact absurd h c2 | rfl
        rw [q4] at q3
        simp [e1, e2, e3, q1, q3, hap, hb, nm_slP n4, nm_slP n5, nm_slP n6]
    · refine ⟨F2, w, .fz (.int v), .fz (dW w), h2.mono (by omega), hw2, nm_fz, nm_fz, ?_⟩
      simp [e1, e2, c0, c1, hap, hb, nm_slP n4, nm_slP n5, nm_slP n6]
theorem c_lot (k : Nat) {ns : List Int} {n m t : Nat} {F : C} (h : Fd ns n F) (hn : n < 2 ^ 27) (hm : m ≤ 12) (ht : t ≤ 20) :
    ∃ ws F', runD (gm defs XF (k + 2)) XF d_law_lot [F.d, .int m, .int t] = .ret (.tuple (dL ws)) [F'] ∧ Fd ns (n + 400) F' ∧ (∀ w ∈ ws, Lw m w) ∧ ws.length ≤ t := by
  rw [z_run (e0 := [.mu true false F, .bo (.int m), .bo (.int t)]) st_l2]
  obtain ⟨v, F1, e1, v0, v1, h1⟩ := c_draw (gm defs XF (k + 1)) h (by omega) (m := (t : Int) + 1) (by omega) (by omega)
  obtain ⟨u, rfl⟩ : ∃ u : Nat, v = (u : Int) := ⟨v.toNat, by omega⟩
  have hlen : (rngD 0 u).length = u := by simp [rngD]
  obtain ⟨e', hr, F', ws, y4, y5, y6, rfl, hF, hw, hl⟩ := fr_inv (turn := frTurn [4] false (sens (gm defs XF (k + 2)) XF loB)) (ds := rngD 0 u)
    (fun j e => ∃ F' ws y4 y5 y6, e = [.mu true false F', .bo (.int m), .bo (.int t), .mu false false (.lst (dL ws)), y4, y5, y6] ∧ Fd ns (n + 1 + 15 * j) F' ∧ (∀ w ∈ ws, Lw m w) ∧ ws.length = j ∧ nm y4 ∧ nm y5 ∧ nm y6) (by
      rintro j d e hd ⟨F', ws, y4, y5, y6, rfl, hF, hw, hl, m4, m5, m6⟩
      have hj : j < (rngD 0 u).length := by
        apply Classical.byContradiction
        intro z
        rw [List.getElem?_eq_none (by omega)] at hd
        cases hd
      rw [hlen] at hj
      obtain ⟨F2, w, z5, z6, h2, hw2, k5, k6, e2⟩ := lo_turn k hF (by omega) hm hw (by omega) (t := .int t) (d := d) m4 m5 m6
      exact ⟨.nx, _, e2, .inl rfl, F2, ws ++ [w], .fz d, z5, z6, rfl, h2.mono (by omega), lws_snoc hw hw2, by rw [List.length_append, hl]; rfl, nm_fz, k5, k6⟩)
    (e := [.mu true false F1, .bo (.int m), .bo (.int t), .mu false false (.lst []), .un, .un, .un]) ⟨F1, [], .un, .un, .un, rfl, h1, fun _ h => absurd h List.not_mem_nil, rfl, nm_un, nm_un, nm_un⟩
  rw [hlen] at hF hl
  refine ⟨ws, F', ?_, hF.mono (by omega), hw, by omega⟩
  have hb1 : -(big : Int) ≤ u ∧ (u : Int) ≤ (big : Int) := by simp [big]; omega
  generalize hX : frTurn [4] false (sens (gm defs XF (k + 2)) XF loB) = tX at hr
  simp [d_law_lot, e1, hb1, hX, hr]
end K10
set_option Elab.async false
set_option linter.all false
set_option maxRecDepth 100000
set_option maxHeartbeats 4000000
set_option exponentiation.threshold 9000
namespace K10
open Ev PySem Vs
/-! all_made -/
abbrev amX : ME := .cal "sum_two" [.var 4, .var 3]
abbrev amB : List MS := [.ite (.cmp .Gt (.bin .Mult (.con (.int 2)) (.bif .len [.var 2])) (.var 1)) [.nev] [], .asg 2 (.bin .Add (.var 2) (.lc [("one", 4)] [4] false (.var 2) none amX))]
theorem am_lc (k : Nat) {f : List Wd} {w : Wd} (hf : Ws f) (hw : Wk w) (hl : f.length < 100000) {x0 x1 : Sl} :
    lcRun [4] (lcTurn [4] [4] false (denT (gm defs XF (k + 1)) none) (den (gm defs XF (k + 1)) amX).v) (.slot 2 false) [x0, x1, .mu false false (.lst (dL f)), .fz (dW w), .un] = .ok (dL (f.map (symI w))) [x0, x1, .mu false false (.lst (dL f)), .fz (dW w), .un] := by
  refine lcR_slot (e1 := [x0, x1, .mu false true (.lst (dL f)), .fz (dW w), .un]) (e2 := [x0, x1, .mu false true (.lst (dL f)), .fz (dW w), .un]) (e3 := [x0, x1, .mu false true (.lst (dL f)), .fz (dW w), .un]) rfl rfl ?_ rfl
  have e0 : dL (f.map (symI w)) = f.filterMap fun v => some (dW (symI v w)) := by
    rw [filterMap_some, dL, List.map_map]
    exact List.map_congr_left fun v _ => by show dW (symI w v) = dW (symI v w); rw [s_comm]
  rw [e0]
  refine lcN_pure (l := f) (enc := dW) (t := false) (i := 2) (e := [x0, x1, .mu false true (.lst (dL f)), .fz (dW w), .un]) rfl (by omega) fun v hv => ?_
  have e1 := c_sum (gm defs XF k) (hf v hv) hw
  simp [e1]
theorem am_turn (k : Nat) {f : List Wd} {w : Wd} (hf : Ws f) (hw : Wk w) (hl : f.length ≤ 2048) (hn : ¬ w ∈ f) {x0 s3 : Sl} (n3 : nm s3) :
    frTurn [3] false (sens (gm defs XF (k + 1)) XF amB) (dW w) [x0, .bo (.int 4096), .mu false false (.lst (dL f)), s3, .un] = .ok .nx [x0, .bo (.int 4096), .mu false false (.lst (dL (allStep f w))), .fz (dW w), .un] := by
  have e3 : allStep f w = f ++ f.map (symI w) := if_neg hn
  have e4 := am_lc k hf hw (by omega) (x0 := x0) (x1 := .bo (.int 4096))
  have e6 : bop .Add (.list (dL f)) (.list (dL (f.map (symI w)))) = some (.fresh (.lst (dL (allStep f w)))) := by
    rw [cat_l (by simp [big]; omega), e3, dL_app]
  have e7 : bop .Mult (.int 2) (.int f.length) = some (.val (.int (2 * f.length))) := o_mul (.inl (by decide))
  have e8 : ¬ ((4096 : Int) < 2 * f.length) := by omega
  simp [e4, e6, e7, e8, nm_slP n3]
theorem am_go (k : Nat) {x0 : Sl} : ∀ {R P : List Wd} {s3 : Sl}, Ech (P ++ R) → Ws (P ++ R) → P.length + R.length ≤ 11 → nm s3 →
    ∃ y3, frGo (frTurn [3] false (sens (gm defs XF (k + 1)) XF amB)) (dL R) [x0, .bo (.int 4096), .mu false false (.lst (dL (allW P))), s3, .un] = .ok .nx [x0, .bo (.int 4096), .mu false false (.lst (dL (allW (P ++ R)))), y3, .un]
  | [], P, s3, _, _, _, _ => ⟨s3, by rw [List.append_nil]; rfl⟩
  | w :: R, P, s3, E, hw, hl, n3 => by
    rw [List.length_cons] at hl
    have hP : Ws P := fun x hx => hw x (List.mem_append_left _ hx)
    have h0 := hw w (List.mem_append_right _ List.mem_cons_self)
    have hle : (allW P).length ≤ 2048 := by
      have := all_le hP (n := 10) (by omega)
      omega
    have h1 := am_turn k (ws_all hP) h0 hle (base_new E) (x0 := x0) n3
    rw [← all_snoc] at h1
    have ea : P ++ w :: R = (P ++ [w]) ++ R := by simp
    rw [ea] at E hw ⊢
    obtain ⟨z3, h2⟩ := am_go k (x0 := x0) (R := R) (P := P ++ [w]) (s3 := .fz (dW w)) E hw (by rw [List.length_append]; simp; omega) nm_fz
    refine ⟨z3, ?_⟩
    show frGo _ (dW w :: dL R) _ = _
    unfold frGo
    rw [h1, bind_ok]
    exact h2
theorem c_made (k : Nat) {ws : List Wd} (hw : Ws ws) (hl : ws.length ≤ 11) : runD (gm defs XF (k + 3)) XF dall_made [.tuple (dL ws), .int 4096] = .ret (.tuple (dL (madeW ws))) [] := by
  rw [z_run (e0 := [.bo (.tuple (dL ws)), .bo (.int 4096)]) rfl]
  have e1 := c_bo k hw
  have hbl := bo_le ws
  have hb := ws_bo hw
  obtain ⟨y3, h⟩ := am_go (k + 2) (x0 := .bo (.tuple (dL ws))) (R := baseOf ws) (P := []) (bo_ech hw.all) hb (by rw [List.length_nil]; omega) nm_un
  have hle : (allW (baseOf ws)).length ≤ 2048 := by
    have := all_le hb (n := 11) (by omega)
    omega
  have h5 := sorted_ws0 (all_head (baseOf ws))
  have e8 : ¬ ((4096 : Int) < (allW (baseOf ws)).length) := by omega
  have e9 : srtW (allW (baseOf ws)) = madeW ws := rfl
  rw [e9] at h5
  generalize hX : frTurn [3] false (sens (gm defs XF (k + 3)) XF amB) = tL at h
  have h' : frGo tL (dL (baseOf ws)) [.bo (.tuple (dL ws)), .bo (.int 4096), .mu false false (.lst [.tuple []]), .un, .un] = .ok .nx [.bo (.tuple (dL ws)), .bo (.int 4096), .mu false false (.lst (dL (allW (baseOf ws)))), y3, .un] := h
  generalize allW (baseOf ws) = f at *
  simp [dall_made, e1, hX, h', h5, e8]
end K10
set_option Elab.async false
set_option linter.all false
set_option maxRecDepth 100000
set_option maxHeartbeats 4000000
set_option exponentiation.threshold 9000
namespace K10
open Ev PySem Vs
/-! sum_of -/
def sumW (ws : List Wd) : Wd := ws.foldl symI []
theorem so_go (k : Nat) {R : Sl} : ∀ {ws : List Wd} {a : Wd} {s1 s2 : Sl}, Ws ws → Wk a → vl s1 (dW a) → nm s2 →
    ∃ y1 y2, vl y1 (dW (ws.foldl symI a)) ∧ Wk (ws.foldl symI a) ∧ frGo (frTurn [2] false (sens (gm defs XF (k + 1)) XF [.asg 1 (.cal "sum_two" [.var 1, .var 2])])) (dL ws) [R, s1, s2] = .ok .nx [R, y1, y2]
  | [], a, s1, s2, _, ha, n1, n2 => ⟨s1, s2, n1, ha, rfl⟩
  | w :: ws, a, s1, s2, hw, ha, n1, n2 => by
    have h0 := hw w List.mem_cons_self
    have e1 := c_sum (gm defs XF k) ha h0
    have e4 : ∀ e' : Ev.Env, slR 1 e' (some s1) = .ok (.val (dW a)) e' := fun e' => vl_sl n1 rfl
    have n3 := vl_nm n1
    obtain ⟨y1, y2, m1, m2, h2⟩ := so_go k (R := R) (ws := ws) (a := symI a w) (s1 := .fz (dW (symI a w))) (s2 := .fz (dW w)) (fun x hx => hw x (List.mem_cons_of_mem _ hx)) (ha.sum h0) vl_fz nm_fz
    refine ⟨y1, y2, m1, m2, ?_⟩
    show frGo _ (dW w :: dL ws) _ = _
    unfold frGo
    have h1 : frTurn [2] false (sens (gm defs XF (k + 1)) XF [.asg 1 (.cal "sum_two" [.var 1, .var 2])]) (dW w) [R, s1, s2] = .ok .nx [R, .fz (dW (symI a w)), .fz (dW w)] := by
      simp [e1, e4, nm_slP n2, nm_slP n3]
    rw [h1, bind_ok]
    exact h2
theorem c_sumof (k : Nat) {ws : List Wd} (hw : Ws ws) : runD (gm defs XF (k + 1)) XF dsum_of [.tuple (dL ws)] = .ret (dW (sumW ws)) [] ∧ Wk (sumW ws) := by
  obtain ⟨y1, y2, m, hk, h⟩ := so_go k (R := .bo (.tuple (dL ws))) hw wk_nil (vl_fz (d := dW [])) nm_un
  refine ⟨?_, hk⟩
  rw [z_run (e0 := [.bo (.tuple (dL ws))]) rfl]
  have e4 : ∀ e' : Ev.Env, slR 1 e' (some y1) = .ok (.val (dW (sumW ws))) e' := fun e' => vl_sl m rfl
  generalize hX : frTurn [2] false (sens (gm defs XF (k + 1)) XF [.asg 1 (.cal "sum_two" [.var 1, .var 2])]) = tL at h
  have h' : frGo tL (dL ws) [.bo (.tuple (dL ws)), .fz (.tuple []), .un] = .ok .nx [.bo (.tuple (dL ws)), y1, y2] := h
  simp [dsum_of, hX, h', e4]
/-! led_back -/
def ldS (r p : Pr) : Pr := if hd r.1 ∈ p.1 then (symI p.1 r.1, symI p.2 r.2) else p
abbrev ldB : List MS := [.ite (.cmp .In (.idx (.var 3) (.con (.int 0))) (.var 1)) [.par 1 2 (.cal "sum_two" [.var 1, .var 3]) (.cal "sum_two" [.var 2, .var 4])] []]
theorem ld_turn (k : Nat) {r p : Pr} (hr : Wk r.1 ∧ Wk r.2 ∧ r.1 ≠ []) (h1 : Wk p.1) (h2 : Wk p.2) {R s1 s2 s3 s4 : Sl} (n1 : vl s1 (dW p.1)) (n2 : vl s2 (dW p.2)) (n3 : nm s3) (n4 : nm s4) :
    ∃ y1 y2, vl y1 (dW (ldS r p).1) ∧ vl y2 (dW (ldS r p).2) ∧ frTurn [3, 4] true (sens (gm defs XF (k + 1)) XF ldB) (dPr r) [R, s1, s2, s3, s4] = .ok .nx [R, y1, y2, .fz (dW r.1), .fz (dW r.2)] := by
  obtain ⟨r1, r2, rn⟩ := hr
  have e1 := c_sum (gm defs XF k) h1 r1
  have e1' := c_sum (gm defs XF k) h2 r2
  have e2 : iop (dW r.1) (.int 0) = some (.int (hd r.1)) := at_hd rn
  have e3 : cop .In (.int (hd r.1)) (dW p.1) = some (decide (hd r.1 ∈ p.1)) := in_w _ _
  have e4 : ∀ e' : Ev.Env, slR 1 e' (some s1) = .ok (.val (dW p.1)) e' := fun e' => vl_sl n1 rfl
  have e5 : ∀ e' : Ev.Env, slR 2 e' (some s2) = .ok (.val (dW p.2)) e' := fun e' => vl_sl n2 rfl
  have m1 := vl_nm n1
  have m2 := vl_nm n2
  unfold dPr
  by_cases c : hd r.1 ∈ p.1
  · have e6 : ldS r p = (symI p.1 r.1, symI p.2 r.2) := if_pos c
    refine ⟨.fz (dW (symI p.1 r.1)), .fz (dW (symI p.2 r.2)), by rw [e6]; exact vl_fz, by rw [e6]; exact vl_fz, ?_⟩
    simp [e1, e1', e2, e3, e4, e5, c, nm_slP n3, nm_slP n4, nm_slP m1, nm_slP m2]
  · have e6 : ldS r p = p := if_neg c
    refine ⟨s1, s2, by rw [e6]; exact n1, by rw [e6]; exact n2, ?_⟩
    simp [e2, e3, e4, e5, c, nm_slP n3, nm_slP n4]
theorem ld_go (k : Nat) {R : Sl} : ∀ {rows : List Pr} {p : Pr} {s1 s2 s3 s4 : Sl}, PW rows → Wk p.1 → Wk p.2 → vl s1 (dW p.1) → vl s2 (dW p.2) → nm s3 → nm s4 →
    ∃ y1 y2 y3 y4, vl y1 (dW (led rows p).1) ∧ vl y2 (dW (led rows p).2) ∧ frGo (frTurn [3, 4] true (sens (gm defs XF (k + 1)) XF ldB)) (dR rows) [R, s1, s2, s3, s4] = .ok .nx [R, y1, y2, y3, y4]
  | [], p, s1, s2, s3, s4, _, _, _, n1, n2, _, _ => ⟨s1, s2, s3, s4, n1, n2, rfl⟩
  | r :: rows, p, s1, s2, s3, s4, hw, h1, h2, n1, n2, n3, n4 => by
    have hr := hw r List.mem_cons_self
    obtain ⟨y1, y2, m1, m2, q1⟩ := ld_turn k hr h1 h2 (R := R) n1 n2 n3 n4
    have hk : Wk (ldS r p).1 ∧ Wk (ldS r p).2 := by
      unfold ldS
      split
      · exact ⟨h1.sum hr.1, h2.sum hr.2.1⟩
      · exact ⟨h1, h2⟩
    obtain ⟨z1, z2, z3, z4, l1, l2, q2⟩ := ld_go k (R := R) (rows := rows) (p := ldS r p) (fun x hx => hw x (List.mem_cons_of_mem _ hx)) hk.1 hk.2 m1 m2 nm_fz nm_fz
    refine ⟨z1, z2, z3, z4, l1, l2, ?_⟩
    show frGo _ (dPr r :: dR rows) _ = _
    unfold frGo
    rw [q1, bind_ok]
    exact q2
theorem c_led (k : Nat) {rows : List Pr} {e m : Wd} (hw : PW rows) (h1 : Wk e) (h2 : Wk m) : runD (gm defs XF (k + 1)) XF dled_back [.list (dR rows), dW e, dW m] = .ret (.tuple [dW (led rows (e, m)).1, dW (led rows (e, m)).2]) [] := by
  rw [z_run (e0 := [.bo (.list (dR rows)), .bo (dW e), .bo (dW m)]) rfl]
  obtain ⟨y1, y2, y3, y4, m1, m2, h⟩ := ld_go k (R := .bo (.list (dR rows))) (rows := rows) (p := (e, m)) hw h1 h2 (vl_bo (d := dW e)) (vl_bo (d := dW m)) nm_un nm_un
  have e4 : ∀ e' : Ev.Env, slR 1 e' (some y1) = .ok (.val (dW (led rows (e, m)).1)) e' := fun e' => vl_sl m1 rfl
  have e5 : ∀ e' : Ev.Env, slR 2 e' (some y2) = .ok (.val (dW (led rows (e, m)).2)) e' := fun e' => vl_sl m2 rfl
  generalize hX : frTurn [3, 4] true (sens (gm defs XF (k + 1)) XF ldB) = tL at h
  simp [dled_back, hX, h, e4, e5]
/-- with_traced with its places: rows that stand, or new ones -/
theorem c_wtK (k : Nat) {rows : List Pr} {e m : Wd} (hw : PW rows) (h1 : Wk e) (hm : Wk m) (hl : rows.length < 1000) :
    (runD (gm defs XF (k + 2)) XF dwith_traced [.list (dR rows), dW e, dW m] = .ret (.list (dR (trK rows e m))) []) ∨ (runD (gm defs XF (k + 2)) XF dwith_traced [.list (dR rows), dW e, dW m] = .fresh (.lst (dR (trK rows e m))) []) := by
  have e1 : runD (gm defs XF (k + 1)) XF dled_back [.list (dR rows), dW e, dW m] = .ret (.tuple [dW (led rows (e, m)).1, dW (led rows (e, m)).2]) [] := c_led k hw h1 hm
  have e2 := eq_w0 (led rows (e, m)).1
  by_cases c : (led rows (e, m)).1 = []
  · left
    have e3 : trK rows e m = rows := if_pos c
    have e5 : (led rows (e, m)).1.isEmpty = true := by rw [c]; rfl
    rw [e5] at e2
    rw [e3, z_run (e0 := [.fz (.list (dR rows)), .bo (dW e), .bo (dW m)]) rfl]
    generalize dW (led rows (e, m)).1 = A at *
    generalize dW (led rows (e, m)).2 = B at *
    simp [dwith_traced, e1, e2]
  · right
    have e3 : trK rows e m = srtP (rows ++ [led rows (e, m)]) := if_neg c
    have e5 : (led rows (e, m)).1.isEmpty = false := by cases h : (led rows (e, m)).1 <;> first | exact absurd h c | rfl
    rw [e5] at e2
    have e6 := sorted_pr (rows ++ [led rows (e, m)])
    rw [← e3] at e6
    have e7 : bop .Add (.list (dR rows)) (.list [.tuple [dW (led rows (e, m)).1, dW (led rows (e, m)).2]]) = some (.fresh (.lst (dR (rows ++ [led rows (e, m)])))) := by
      rw [cat_l (by simp [big]; omega), dR, dR, List.map_append]
      rfl
    rw [z_run (e0 := [.fz (.list (dR rows)), .bo (dW e), .bo (dW m)]) rfl]
    generalize dR (rows ++ [led rows (e, m)]) = L at *
    generalize dW (led rows (e, m)).1 = A at *
    generalize dW (led rows (e, m)).2 = B at *
    simp [dwith_traced, e1, e2, e6, e7]
end K10
set_option Elab.async false
set_option linter.all false
set_option maxRecDepth 100000
set_option maxHeartbeats 4000000
set_option exponentiation.threshold 9000
namespace K10
open Ev PySem Vs
/-! parting_turn, known_paper -/
theorem c_part (g : Gm) {B : List Wd} (hB : Ws B) (E : Ech B) {r : Wd} (hn : r ≠ []) (ho : ∀ b ∈ B, hd b ≠ hd r) : runD g XF dparting_turn [.tuple (dL B), dW r] = .ret (dW (part B (hd r))) [] := by
  rw [z_run (e0 := [.bo (.tuple (dL B)), .bo (dW r)]) rfl]
  have e1 : iop (dW r) (.int 0) = some (.int (hd r)) := at_hd hn
  have lB := ech_len E hB
  generalize hd r = s at *
  have h1 : lcGo (lcTurn [3] [3] false (denT g (some (.cmp .In (.var 2) (.var 3)))) (den g (.idx (.var 3) (.con (.int 0)))).v) (dL B) [.bo (.tuple (dL B)), .bo (dW r), .fz (.int s), .un] =
      .ok (((B.filter fun b => decide (s ∈ b)).map hd).map .int) [.bo (.tuple (dL B)), .bo (dW r), .fz (.int s), .un] := by
    rw [List.map_map, ← filterMap_if]
    refine lc_pure (l := B) (enc := dW) fun b hb => ?_
    have e2 : cop .In (.int s) (dW b) = some (decide (s ∈ b)) := in_w _ _
    have e3 : iop (dW b) (.int 0) = some (.int (hd b)) := at_hd (E.ne b hb)
    by_cases c : s ∈ b <;> simp [e2, e3, c]
  have nd : (s :: (B.filter fun b => decide (s ∈ b)).map hd).Nodup := by
    refine List.nodup_cons.mpr ⟨fun z => ?_, ?_⟩
    · obtain ⟨b, hb, e⟩ := List.mem_map.mp z
      exact ho b (List.mem_filter.mp hb).1 e
    · unfold List.Nodup
      rw [List.pairwise_map]
      refine List.Pairwise.imp_of_mem (fun {x y} hx hy h z => ?_) (E.ap.filter _)
      refine h.1 ?_
      rw [z]
      exact hd_mem (E.ne y (List.mem_filter.mp hy).1)
  have h3 : bi .sorted [.list (.int s :: ((B.filter fun b => decide (s ∈ b)).map hd).map .int)] = some (.fresh (.lst ((part B s).map .int))) := sorted_ints nd
  have h4 : bop .Add (.list [.int s]) (.list (((B.filter fun b => decide (s ∈ b)).map hd).map .int)) = some (.fresh (.lst (.int s :: ((B.filter fun b => decide (s ∈ b)).map hd).map .int))) := by
    rw [cat_l]
    · rfl
    · have := List.length_filter_le (fun b => decide (s ∈ b)) B
      simp only [List.length_map, List.length_cons, List.length_nil, big]
      omega
  have b1 : B.length < big := by simp [big]; omega
  generalize hX : lcTurn [3] [3] false (denT g (some (.cmp .In (.var 2) (.var 3)))) (den g (.idx (.var 3) (.con (.int 0)))).v = t1 at h1
  generalize ((B.filter fun b => decide (s ∈ b)).map hd).map PyData.int = A at *
  simp [dparting_turn, e1, hX, h1, h3, h4, b1]
  rfl
theorem pw_trK {rows : List Pr} {e m : Wd} (h : PW rows) (he : Wk e) (hm : Wk m) : PW (trK rows e m) := by
  unfold Vs.trK
  split
  · exact h
  · rename_i c
    intro r hr
    rw [(srtP_perm _).mem_iff, List.mem_append, List.mem_singleton] at hr
    rcases hr with y | y
    · exact h r y
    · obtain ⟨q1, q2⟩ := wk_led (p := (e, m)) h he hm
      rw [y]
      exact ⟨q1, q2, c⟩
theorem trK_len (rows : List Pr) (e m : Wd) : (trK rows e m).length ≤ rows.length + 1 := by
  unfold Vs.trK
  split
  · omega
  · rw [(srtP_perm _).length_eq, List.length_append]
    exact Nat.le_refl _
theorem wk_place {i : Nat} (h : i ≤ 11) : Wk [(i : Int)] := lw_wk (m := 12) (by omega) ⟨List.pairwise_singleton _ _, fun k hk => by
  rw [List.mem_singleton.mp hk]
  omega⟩
abbrev kpB : List MS := [.asg 2 (.cal "with_traced" [.var 2, .var 4, .tup [.var 3]])]
theorem kp_turn (k : Nat) {rows : List Pr} {e : Wd} {i : Nat} (hi : i ≤ 11) (hw : PW rows) (he : Wk e) (hl : rows.length < 1000) {x0 x1 s2 s3 s4 x5 x6 x7 : Sl} (n2 : lz s2 (dR rows)) (n3 : nm s3) (n4 : nm s4) :
    ∃ y2, lz y2 (dR (trK rows e [(i : Int)])) ∧ frTurn [3, 4] true (sens (gm defs XF (k + 3)) XF kpB) (.tuple [.int i, dW e]) [x0, x1, s2, s3, s4, x5, x6, x7] = .ok .nx [x0, x1, y2, .fz (.int i), .fz (dW e), x5, x6, x7] := by
  have e3 := c_wtK k hw he (wk_place (i := i) (by omega)) hl
  have ep : dW [(i : Int)] = .tuple [.int i] := rfl
  rw [ep] at e3
  generalize dR (trK rows e [(i : Int)]) = T' at *
  generalize dR rows = Rw at *
  rcases n2 with rfl | rfl <;> rcases e3 with e3 | e3
  · exact ⟨.fz (.list T'), .inr rfl, by simp [e3, nm_slP n3, nm_slP n4]⟩
  · exact ⟨.mu false false (.lst T'), .inl rfl, by simp [e3, nm_slP n3, nm_slP n4]⟩
  · exact ⟨.fz (.list T'), .inr rfl, by simp [e3, nm_slP n3, nm_slP n4]⟩
  · exact ⟨.mu false false (.lst T'), .inl rfl, by simp [e3, nm_slP n3, nm_slP n4]⟩
abbrev kpS (rows : List Pr) (p : Wd × Nat) : List Pr := trK rows p.1 [(p.2 : Int)]
def enI (R : List Wd) (i : Nat) : List D := (R.zipIdx i).map fun p => .tuple [.int p.2, dW p.1]
theorem en_ws (ws : List Wd) : enumD (dL ws) = enI ws 0 := by
  unfold enumD enI dL
  rw [List.zipIdx_map, List.map_map]
  rfl
theorem kp_go (k : Nat) {x0 x1 x5 x6 x7 : Sl} : ∀ {R : List Wd} {i : Nat} {rows : List Pr} {s2 s3 s4 : Sl}, Ws R → i + R.length ≤ 12 → PW rows → rows.length + R.length < 1000 → lz s2 (dR rows) → nm s3 → nm s4 →
    ∃ y2 y3 y4, lz y2 (dR ((R.zipIdx i).foldl kpS rows)) ∧ PW ((R.zipIdx i).foldl kpS rows) ∧ nm y3 ∧ nm y4 ∧ frGo (frTurn [3, 4] true (sens (gm defs XF (k + 3)) XF kpB)) (enI R i) [x0, x1, s2, s3, s4, x5, x6, x7] = .ok .nx [x0, x1, y2, y3, y4, x5, x6, x7]
  | [], i, rows, s2, s3, s4, _, _, hp, _, n2, n3, n4 => ⟨s2, s3, s4, n2, hp, n3, n4, rfl⟩
  | e :: R, i, rows, s2, s3, s4, hw, hi, hp, hl, n2, n3, n4 => by
    rw [List.length_cons] at hi hl
    have he := hw e List.mem_cons_self
    obtain ⟨y2, m2, q1⟩ := kp_turn k (i := i) (by omega) hp he (by omega) (x0 := x0) (x1 := x1) (x5 := x5) (x6 := x6) (x7 := x7) n2 n3 n4
    have hlen := trK_len rows e [(i : Int)]
    obtain ⟨z2, z3, z4, l2, hq, l3, l4, q2⟩ := kp_go k (x0 := x0) (x1 := x1) (x5 := x5) (x6 := x6) (x7 := x7) (R := R) (i := i + 1) (fun x hx => hw x (List.mem_cons_of_mem _ hx)) (by omega) (pw_trK hp he (wk_place (by omega))) (by omega) m2 (nm_fz (d := .int i)) (nm_fz (d := dW e))
    refine ⟨z2, z3, z4, l2, hq, l3, l4, ?_⟩
    show frGo _ (.tuple [.int i, dW e] :: enI R (i + 1)) _ = _
    unfold frGo
    rw [q1, bind_ok]
    exact q2
/-- what known_paper tells -/
def kpD (ws : List Wd) (w : Wd) : D := if mkB ws w = true then .tuple [.str (T "known"), dW (led (kpRows ws) (w, [])).2] else .tuple [.str (T "free"), dW (part (baseOf ws) (hd (red (baseOf ws) w)))]
theorem c_known (k : Nat) {ws : List Wd} {w : Wd} (hw : Ws ws) (h : Wk w) (hl : ws.length ≤ 12) : runD (gm defs XF (k + 3)) XF dknown_paper [.tuple (dL ws), dW w] = .ret (kpD ws w) [] := by
  rw [z_run (e0 := [.bo (.tuple (dL ws)), .bo (dW w)]) rfl]
  obtain ⟨y2, y3, y4, l2, hp, n3, n4, hr⟩ := kp_go k (x0 := .bo (.tuple (dL ws))) (x1 := .bo (dW w)) (x5 := .un) (x6 := .un) (x7 := .un) (R := ws) (i := 0) (rows := []) hw (by omega) (fun _ z => absurd z List.not_mem_nil) (by simp; omega) (s2 := .mu false false (.lst [])) (.inl rfl) nm_un nm_un
  have hk := kp_places hw.all h.ris
  have e0 : (ws.zipIdx 0).foldl kpS [] = kpRows ws := rfl
  rw [e0] at l2 hp
  have e1 : runD (gm defs XF (k + 2)) XF dled_back [.list (dR (kpRows ws)), dW w, .tuple []] = .ret (.tuple [dW (led (kpRows ws) (w, [])).1, dW (led (kpRows ws) (w, [])).2]) [] := c_led (k + 1) hp h wk_nil
  have e2 := eq_w0 (led (kpRows ws) (w, [])).1
  have e3 := c_bo k hw
  have wB := ws_bo hw
  have E := bo_ech hw.all
  have e4 := c_red (k + 1) wB E.ne h
  have en := en_ws ws
  have hmk := mk_iff hw.all h.ris
  unfold kpD
  generalize hX : frTurn [3, 4] true (sens (gm defs XF (k + 3)) XF kpB) = tX at hr
  by_cases c : mkB ws w = true
  · have e5 : (led (kpRows ws) (w, [])).1.isEmpty = true := by
      rw [hk.1.mpr (hmk.mp c)]; rfl
    rw [e5] at e2
    rw [if_pos c]
    generalize dW (led (kpRows ws) (w, [])).1 = A at *
    generalize dW (led (kpRows ws) (w, [])).2 = B at *
    generalize dR (kpRows ws) = L at *
    rcases l2 with rfl | rfl <;> simp [dknown_paper, en, hX, hr, e1, e2, nm_slP n3, nm_slP n4]
  · have e5 : (led (kpRows ws) (w, [])).1.isEmpty = false := by
      cases hq : (led (kpRows ws) (w, [])).1 with
      | nil => exact absurd (hmk.mpr (hk.1.mp hq)) c
      | cons _ _ => rfl
    rw [e5] at e2
    rw [if_neg c]
    have hn : red (baseOf ws) w ≠ [] := fun z => c (by unfold mkB; rw [z]; rfl)
    have e6 := c_part (gm defs XF (k + 2)) wB E hn fun b hb z => red_no E (e := w) b hb (z ▸ hd_mem hn)
    generalize dW (led (kpRows ws) (w, [])).1 = A at *
    generalize dW (led (kpRows ws) (w, [])).2 = B at *
    generalize dR (kpRows ws) = L at *
    generalize dW (part (baseOf ws) (hd (red (baseOf ws) w))) = Q at *
    generalize dW (red (baseOf ws) w) = Rr at *
    rcases l2 with rfl | rfl <;> simp [dknown_paper, en, hX, hr, e1, e2, e3, e4, e6, nm_slP n3, nm_slP n4]
end K10
set_option Elab.async false
set_option linter.all false
set_option maxRecDepth 100000
set_option maxHeartbeats 4000000
set_option exponentiation.threshold 9000
namespace K10
open Ev PySem Vs
/-! kinds -/
theorem c_meet (g : Gm) {i : Int} (h : 0 ≤ i) : runD g XF dis_meeting [.int i] = .ret (.bool true) [] := by
  rw [z_run (e0 := [.bo (.int i)]) rfl]
  simp [dis_meeting, h]
theorem z_wzp {G : Gm} {a b : ME} {e : Ev.Env} : (den G (.zp a b)).w e = (vN (den G a).v e).bind fun r e1 => (vN (den G b).v e1).bind fun q e2 => (ofO (stb e2 r) e2).bind fun x e3 => (ofO (stb e3 q) e3).bind fun y e4 =>
  (ofO (seqD x) e4).bind fun xs e5 => (ofO (seqD y) e5).bind fun ys e6 => if isL x = isL y then .ok (.vals (zipD xs ys)) e6 else .bad := rfl
theorem stb_v {e : Ev.Env} {d : D} : stb e (.val d) = some d := rfl
theorem bools_all {α : Type} : ∀ l : List α, boolsD (l.map fun _ => PyData.bool true) = some (l.map fun _ => true)
  | [] => rfl
  | a :: l => by
    rw [List.map_cons]
    show (boolsD (l.map fun _ => PyData.bool true)).map (true :: ·) = _
    rw [bools_all l]
    rfl
theorem bi_all1 {α : Type} (l : List α) : bi .all [.list (l.map fun _ => PyData.bool true)] = some (.val (.bool true)) := by
  rw [z_bAll, bools_all]
  simp
theorem zip_next {α : Type} {r : α → α → Prop} : ∀ {l : List α}, l.Pairwise r → ∀ p ∈ l.zip (l.drop 1), r p.1 p.2
  | [], _, p, hp => by simp at hp
  | [x], _, p, hp => by simp at hp
  | x :: y :: l, h, p, hp => by
    obtain ⟨h1, h2⟩ := List.pairwise_cons.mp h
    rw [show (x :: y :: l).zip ((x :: y :: l).drop 1) = (x, y) :: (y :: l).zip ((y :: l).drop 1) from rfl] at hp
    rcases List.mem_cons.mp hp with rfl | hp
    · exact h1 y List.mem_cons_self
    · exact zip_next h2 p hp
theorem c_rises (g : Gm) {α : Type} (enc : α → D) (l : List α) (h : l.Pairwise fun a b => cop .Lt (enc a) (enc b) = some true) (hl : l.length < 1000) : runD g XF drises [.tuple (l.map enc)] = .ret (.bool true) [] := by
  rw [z_run (e0 := [.bo (.tuple (l.map enc))]) rfl]
  have e1 : sop (.tuple (l.map enc)) (some 1) none = some (.val (.tuple ((l.drop 1).map enc))) := by
    show some (R.val (PyData.tuple (cutD (l.map enc) (some ((1 : Nat) : Int)) none))) = _
    rw [cut_drop, List.map_drop]
  have e2 : zipD (l.map enc) ((l.drop 1).map enc) = (l.zip (l.drop 1)).map fun p => .tuple [enc p.1, enc p.2] := by
    unfold zipD
    rw [List.zip_map, List.map_map]
    rfl
  have h1 : lcGo (lcTurn [1, 2] [1, 2] true (denT g none) (den g (.cmp .Lt (.var 1) (.var 2))).v) ((l.zip (l.drop 1)).map fun p => .tuple [enc p.1, enc p.2]) [.bo (.tuple (l.map enc)), .un, .un] =
      .ok ((l.zip (l.drop 1)).map fun _ => .bool true) [.bo (.tuple (l.map enc)), .un, .un] := by
    rw [(filterMap_some (fun _ => PyData.bool true) (l.zip (l.drop 1))).symm]
    refine lc_pure (l := l.zip (l.drop 1)) (enc := fun p => .tuple [enc p.1, enc p.2]) fun p hp => ?_
    have e3 := zip_next h p hp
    simp [e3]
  have e4 := bi_all1 (l.zip (l.drop 1))
  have b1 : ((l.zip (l.drop 1)).map fun p => PyData.tuple [enc p.1, enc p.2]).length < big := by
    rw [List.length_map, List.length_zip]
    simp [big]
    omega
  generalize ((l.zip (l.drop 1)).map fun _ => PyData.bool true) = L1 at h1 e4
  generalize ((l.zip (l.drop 1)).map fun p => PyData.tuple [enc p.1, enc p.2]) = L2' at h1 e2 b1
  generalize (l.drop 1).map enc = L3 at e1 e2
  generalize hX : lcTurn [1, 2] [1, 2] true (denT g none) (den g (.cmp .Lt (.var 1) (.var 2))).v = tX at h1
  generalize l.map enc = L4 at *
  have e5 : isL (.tuple L4) = isL (.tuple L3) := rfl
  have s1 : seqD (.tuple L4) = some L4 := rfl
  have s2 : seqD (.tuple L3) = some L3 := rfl
  simp [drises, z_wzp, stb_v, e1, e2, e4, e5, s1, s2, hX, h1, b1]
theorem u_pos {k : Int} (h : k ∈ U13) : 0 ≤ k := by
  have : (U13.all fun k => decide (0 ≤ k)) = true := by decide +kernel
  exact of_decide_eq_true (List.all_eq_true.mp this k h)
theorem c_isw (k : Nat) {w : Wd} (h : Wk w) : runD (gm defs XF (k + 1)) XF dis_word [dW w] = .ret (.bool true) [] := by
  rw [z_run (e0 := [.bo (dW w)]) rfl]
  have e1 : isK (dW w) "tuple" = some true := kd_tuple_tuple
  have hl := h.len
  have e2 : runD (gm defs XF k) XF drises [dW w] = .ret (.bool true) [] := c_rises (gm defs XF k) PyData.int w (h.ris.imp fun {a b} q => by rw [q_lt]; simp [q]) (by omega)
  have h1 : lcGo (lcTurn [1] [1] false (denT (gm defs XF (k + 1)) none) (den (gm defs XF (k + 1)) (.cal "is_meeting" [.var 1])).v) (w.map .int) [.bo (dW w), .un] = .ok (w.map fun _ => .bool true) [.bo (dW w), .un] := by
    rw [(filterMap_some (fun _ => PyData.bool true) w).symm]
    refine lc_pure (l := w) (enc := PyData.int) fun i hi => ?_
    have e3 := c_meet (gm defs XF k) (u_pos (h.sub i hi))
    simp [e3]
  have e4 := bi_all1 w
  have b1 : w.length < big := by simp [big]; omega
  generalize hX : lcTurn [1] [1] false (denT (gm defs XF (k + 1)) none) (den (gm defs XF (k + 1)) (.cal "is_meeting" [.var 1])).v = tX at h1
  generalize (w.map fun _ => PyData.bool true) = L1 at h1 e4
  simp [dis_word, e1, e2, e4, it_w, hX, h1, b1]
/-! papers judged -/
theorem a20 {x y : D} : L2.atI [x, y] 0 = some x := rfl
theorem a21 {x y : D} : L2.atI [x, y] 1 = some y := rfl
theorem so_list (k : Nat) {ws : List Wd} (hw : Ws ws) : runD (gm defs XF (k + 1)) XF dsum_of [.list (dL ws)] = .ret (dW (sumW ws)) [] := by
  obtain ⟨y1, y2, m, hk, h⟩ := so_go k (R := .bo (.list (dL ws))) hw wk_nil (vl_fz (d := dW [])) nm_un
  rw [z_run (e0 := [.bo (.list (dL ws))]) rfl]
  have e4 : ∀ e' : Ev.Env, slR 1 e' (some y1) = .ok (.val (dW (sumW ws))) e' := fun e' => vl_sl m rfl
  generalize hX : frTurn [2] false (sens (gm defs XF (k + 1)) XF [.asg 1 (.cal "sum_two" [.var 1, .var 2])]) = tL at h
  have h' : frGo tL (dL ws) [.bo (.list (dL ws)), .fz (.tuple []), .un] = .ok .nx [.bo (.list (dL ws)), y1, y2] := h
  simp [dsum_of, hX, h', e4]
def npX (w : Str) (d : D) : Xn := ⟨T "NoPaper", [(T "at", d), (T "word", .str w)]⟩
theorem c_needT (g : Gm) (d1 d2 : D) : runD g XF dneed [.bool true, d1, d2] = .ret .none [] := by
  rw [z_run (e0 := [.bo (.bool true), .bo d1, .bo d2]) rfl]
  simp [dneed]
theorem c_needF (k : Nat) (w : Str) (i : Int) : runD (gm defs XF k) XF dneed [.bool false, .str w, .int i] = .exc (npX w (.int i)) [] := by
  rw [z_run (e0 := [.bo (.bool false), .bo (.str w), .bo (.int i)]) rfl]
  simp [dneed, npX]
theorem c_odd (g : Gm) {a t : Wd} (ha : a.length < 1000) : runD g XF dis_odd_with [dW a, dW t] = .ret (.bool (od a t)) [] := by
  rw [z_run (e0 := [.bo (dW a), .bo (dW t)]) rfl]
  have h1 : lcGo (lcTurn [2] [2] false (denT g (some (.cmp .In (.var 2) (.var 1)))) (den g (.var 2)).v) (a.map .int) [.bo (dW a), .bo (dW t), .un] = .ok ((a.filter fun k => decide (k ∈ t)).map .int) [.bo (dW a), .bo (dW t), .un] := by
    rw [← filterMap_if]
    refine lc_pure (l := a) (enc := PyData.int) fun k hk => ?_
    have e2 : cop .In (.int k) (dW t) = some (decide (k ∈ t)) := in_w _ _
    by_cases c : k ∈ t <;> simp [e2, c]
  have b1 : a.length < big := by simp [big]; omega
  have e3 := o_mod (a := (((a.filter fun k => decide (k ∈ t)).map PyData.int).length : Int)) (b := 2) (by decide)
  have e4 : eqD (.int ((((a.filter fun k => decide (k ∈ t)).map PyData.int).length : Int) % 2)) (.int 1) = some (od a t) := by
    rw [eq_of rfl rfl, eqv_int, List.length_map]
    unfold od
    exact congrArg some (decide_eq_decide.mpr (by omega))
  generalize hX : lcTurn [2] [2] false (denT g (some (.cmp .In (.var 2) (.var 1)))) (den g (.var 2)).v = tX at h1
  generalize (a.filter fun k => decide (k ∈ t)).map PyData.int = L at *
  generalize (L.length : Int) % 2 = r at *
  simp [dis_odd_with, it_w, hX, h1, b1, e3, e4]
theorem c_shK (k : Nat) {own : Wd} (h : ∀ i ∈ own, 0 ≤ i) (hl : own.length < 1000) : runD (gm defs XF (k + 1)) XF dis_shaped [.tuple [.str (T "known"), dW own]] = .ret (.bool true) [] := by
  rw [z_run (e0 := [.bo (.tuple [.str (T "known"), dW own])]) rfl]
  have e1 : isK (.tuple [.str (T "known"), dW own]) "tuple" = some true := kd_tuple_tuple
  have e2 : isK (dW own) "tuple" = some true := kd_tuple_tuple
  have e3 : isK (.str (T "known")) "str" = some true := by rfl
  have e4 : eqD (.str (T "known")) (.str (T "known")) = some true := by rfl
  have h1 : lcGo (lcTurn [1] [1] false (denT (gm defs XF (k + 1)) none) (den (gm defs XF (k + 1)) (.cal "is_meeting" [.var 1])).v) (own.map .int) [.bo (.tuple [.str (T "known"), dW own]), .un] = .ok (own.map fun _ => .bool true) [.bo (.tuple [.str (T "known"), dW own]), .un] := by
    rw [(filterMap_some (fun _ => PyData.bool true) own).symm]
    refine lc_pure (l := own) (enc := PyData.int) fun i hi => ?_
    have e3 := c_meet (gm defs XF k) (h i hi)
    simp [e3]
  have e5 := bi_all1 own
  have b1 : own.length < big := by simp [big]; omega
  generalize hX : lcTurn [1] [1] false (denT (gm defs XF (k + 1)) none) (den (gm defs XF (k + 1)) (.cal "is_meeting" [.var 1])).v = tX at h1
  generalize (own.map fun _ => PyData.bool true) = L1 at h1 e5
  simp [dis_shaped, a20, a21, e1, e2, e3, e4, e5, it_w, hX, h1, b1]
theorem c_shF (k : Nat) {t : Wd} (h : Wk t) : runD (gm defs XF (k + 2)) XF dis_shaped [.tuple [.str (T "free"), dW t]] = .ret (.bool true) [] := by
  rw [z_run (e0 := [.bo (.tuple [.str (T "free"), dW t])]) rfl]
  have e1 : isK (.tuple [.str (T "free"), dW t]) "tuple" = some true := kd_tuple_tuple
  have e3 : isK (.str (T "free")) "str" = some true := by rfl
  have e4 : eqD (.str (T "free")) (.str (T "known")) = some false := by decide +kernel
  have e5 : eqD (.str (T "free")) (.str (T "free")) = some true := by rfl
  have e6 := c_isw k h
  simp [dis_shaped, a20, a21, e1, e3, e4, e5, e6]
end K10
set_option Elab.async false
set_option linter.all false
set_option maxRecDepth 100000
set_option maxHeartbeats 4000000
set_option exponentiation.threshold 9000
namespace K10
open Ev PySem Vs
/-! look_at_places, look_at_turn -/
theorem at_ws {ws : List Wd} {p : Int} (h0 : 0 ≤ p) (h1 : p < ws.length) : iop (.tuple (dL ws)) (.int p) = some (dW (atP ws p)) := by
  obtain ⟨n, rfl⟩ : ∃ n : Nat, p = (n : Int) := ⟨p.toNat, by omega⟩
  have hn : n < ws.length := by omega
  have e : atP ws (n : Int) = ws[n] := by
    unfold atP
    rw [show ((n : Int)).toNat = n by omega, List.getD, List.getElem?_eq_getElem hn]
    rfl
  rw [e]
  exact L2.atI_nat (by rw [dL, List.getElem?_map, List.getElem?_eq_getElem hn]; rfl)
theorem src_w {e : Ev.Env} {w : Wd} : srcOf true e (.val (dW w)) = .ok (.vals (enumD (w.map .int))) e := rfl
theorem at_own {own : Wd} {n : Nat} (h : n < own.length) : iop (dW own) (.int n) = some (.int own[n]) :=
  L2.atI_nat (by rw [List.getElem?_map, List.getElem?_eq_getElem h]; rfl)
abbrev lpB : List MS := [.exp (.cal "need" [.and (.cmp .Lt (.var 4) (.bif .len [.var 0])) (.or (.cmp .Eq (.var 3) (.con (.int 0))) (.cmp .Lt (.idx (.var 2) (.bin .Sub (.var 3) (.con (.int 1)))) (.var 4))), .con (.str (T "place")), .var 3])]
theorem lp_turn (k : Nat) {ws : List Wd} {own w : Wd} (ho : Lw ws.length own) {j : Nat} (hj : j < own.length) {s3 s4 : Sl} (n3 : nm s3) (n4 : nm s4) :
    frTurn [3, 4] true (sens (gm defs XF (k + 1)) XF lpB) (.tuple [.int j, .int own[j]]) [.bo (.tuple (dL ws)), .bo (dW w), .bo (dW own), s3, s4] =
      .ok .nx [.bo (.tuple (dL ws)), .bo (dW w), .bo (dW own), .fz (.int j), .fz (.int own[j])] := by
  have c1 := (ho.2 _ (List.getElem_mem hj)).2
  have e1 : cop .Lt (.int own[j]) (.int ((dL ws).length : Int)) = some true := by
    rw [q_lt, dL_len, decide_eq_true c1]
  have e5 := c_needT (gm defs XF k) (.str (T "place")) (.int j)
  have e2 : eqD (.int (j : Int)) (.int 0) = some (decide ((j : Int) = 0)) := by rw [eq_of rfl rfl, eqv_int]
  by_cases c : j = 0
  · subst c
    have e2 : eqD (.int ((0 : Nat) : Int)) (.int 0) = some true := e2
    generalize (((0 : Nat) : Int)) = z at *
    generalize own[0] = p at *
    generalize dL ws = L at *
    simp [e1, e2, e5, nm_slP n3, nm_slP n4]
  · have e2 : eqD (.int (j : Int)) (.int 0) = some false := by rw [e2, decide_eq_false (by omega)]
    have hj2 : j - 1 < own.length := by omega
    have e3 : bop .Sub (.int (j : Int)) (.int 1) = some (.val (.int ((j - 1 : Nat) : Int))) := by
      rw [show ((j - 1 : Nat) : Int) = (j : Int) - 1 by omega]
      rfl
    have e4 : L2.atI (own.map PyData.int) ((j - 1 : Nat) : Int) = some (.int own[j - 1]) := at_own hj2
    have e6 : cop .Lt (.int own[j - 1]) (.int own[j]) = some true := by
      rw [q_lt, decide_eq_true (List.pairwise_iff_getElem.mp ho.1 _ _ hj2 hj (by omega))]
    generalize own[j - 1] = q at *
    generalize own[j] = p at *
    generalize ((j - 1 : Nat) : Int) = y at *
    generalize (j : Int) = z at *
    have e0 : dW own = .tuple (own.map .int) := rfl
    rw [e0]
    generalize own.map PyData.int = O at *
    generalize dL ws = L at *
    simp [e1, e2, e3, e4, e5, e6, nm_slP n3, nm_slP n4]
def okP (ws : List Wd) (w own : Wd) : Bool := decide (sumAt ws own = w)
theorem en_own (own : Wd) {j : Nat} {d : D} (h : (enumD (own.map .int))[j]? = some d) : ∃ hj : j < own.length, d = .tuple [.int j, .int own[j]] := by
  unfold enumD at h
  rw [List.getElem?_map, List.getElem?_zipIdx, List.getElem?_map] at h
  by_cases c : j < own.length
  · rw [List.getElem?_eq_getElem c] at h
    simp at h
    exact ⟨c, h.symm⟩
  · rw [List.getElem?_eq_none (by omega)] at h
    cases h
theorem atP_wk {ws : List Wd} (hw : Ws ws) {p : Int} (h0 : 0 ≤ p) (h1 : p < ws.length) : Wk (atP ws p) := hw _ (atP_mem h0 h1)
theorem own_len {n : Nat} {own : Wd} (h : Lw n own) : own.length ≤ n := by
  have := nodup_le (a := own) (b := (List.range n).map fun (k : Nat) => (k : Int)) (ris_nodup h.1) fun k hk => by
    have := h.2 k hk
    exact List.mem_map.mpr ⟨k.toNat, List.mem_range.mpr (by omega), by omega⟩
  simpa using this
theorem c_lap (k : Nat) {ws : List Wd} {w own : Wd} (hw : Ws ws) (hl : ws.length < 100) (ho : Lw ws.length own) :
    (okP ws w own = true ∧ runD (gm defs XF (k + 2)) XF dlook_at_places [.tuple (dL ws), dW w, dW own] = .ret .none []) ∨
    (okP ws w own = false ∧ runD (gm defs XF (k + 2)) XF dlook_at_places [.tuple (dL ws), dW w, dW own] = .exc (npX (T "sum") (.int (-1))) []) := by
  rw [z_run (e0 := [.bo (.tuple (dL ws)), .bo (dW w), .bo (dW own)]) rfl]
  obtain ⟨e', hr, y3, y4, rfl, n3, n4⟩ := fr_inv (turn := frTurn [3, 4] true (sens (gm defs XF (k + 2)) XF lpB)) (ds := enumD (own.map .int))
    (fun j e => ∃ y3 y4, e = [.bo (.tuple (dL ws)), .bo (dW w), .bo (dW own), y3, y4] ∧ nm y3 ∧ nm y4) (by
      rintro j d e hd ⟨y3, y4, rfl, m3, m4⟩
      obtain ⟨hj, rfl⟩ := en_own own hd
      exact ⟨.nx, _, lp_turn (k + 1) ho hj m3 m4, .inl rfl, _, _, rfl, nm_fz, nm_fz⟩)
    (e := [.bo (.tuple (dL ws)), .bo (dW w), .bo (dW own), .un, .un]) ⟨.un, .un, rfl, nm_un, nm_un⟩
  have h1 : lcGo (lcTurn [4] [4] false (denT (gm defs XF (k + 2)) none) (den (gm defs XF (k + 2)) (.idx (.var 0) (.var 4))).v) (own.map .int) [.bo (.tuple (dL ws)), .bo (dW w), .bo (dW own), y3, .un] =
      .ok (dL (own.map (atP ws))) [.bo (.tuple (dL ws)), .bo (dW w), .bo (dW own), y3, .un] := by
    have e0 : dL (own.map (atP ws)) = own.filterMap fun p => some (dW (atP ws p)) := by
      rw [filterMap_some, dL, List.map_map]
      rfl
    rw [e0]
    refine lc_pure (l := own) (enc := PyData.int) fun p hp => ?_
    have e1 := at_ws (ho.2 p hp).1 (ho.2 p hp).2
    generalize dL ws = L at *
    simp [e1]
  have wv : Ws (own.map (atP ws)) := fun v hv => by
    obtain ⟨p, hp, rfl⟩ := List.mem_map.mp hv
    exact atP_wk hw (ho.2 p hp).1 (ho.2 p hp).2
  have e2 := so_list k wv
  have e3 : runD (gm defs XF (k + 1)) XF dsum_of [.list (dL (own.map (atP ws)))] = .ret (dW (sumAt ws own)) [] := e2
  have e4 := eq_w (sumAt ws own) w
  have hlen := own_len ho
  have b1 : own.length < big := by simp [big]; omega
  have e5 := c_needT (gm defs XF (k + 1)) (.str (T "sum")) (.int (-1))
  have e6 := c_needF (k + 1) (T "sum") (-1)
  unfold okP
  generalize hX : frTurn [3, 4] true (sens (gm defs XF (k + 2)) XF lpB) = tX at hr
  generalize hY : lcTurn [4] [4] false (denT (gm defs XF (k + 2)) none) (den (gm defs XF (k + 2)) (.idx (.var 0) (.var 4))).v = tY at h1
  generalize hA : dL (own.map (atP ws)) = A at *
  generalize dL ws = L at *
  cases hd : decide (sumAt ws own = w)
  · rw [hd] at e4
    refine .inr ⟨rfl, ?_⟩
    generalize npX (T "sum") (.int (-1)) = xx at *
    generalize dW (sumAt ws own) = S at *
    simp [dlook_at_places, it_w, src_w, hX, hr, hY, h1, e3, e4, e6, b1, nm_slW n3, nm_slW n4]
  · rw [hd] at e4
    refine .inl ⟨rfl, ?_⟩
    generalize dW (sumAt ws own) = S at *
    simp [dlook_at_places, it_w, src_w, hX, hr, hY, h1, e3, e4, e5, b1, nm_slW n3, nm_slW n4]
abbrev ltB : List MS := [.exp (.cal "need" [.not (.cal "is_odd_with" [.var 4, .var 2]), .con (.str (T "even")), .var 3])]
theorem lt_go (k : Nat) {t : Wd} {x0 x1 : Sl} : ∀ {R : List Wd} {i : Nat} {s3 s4 : Sl}, (∀ v ∈ R, v.length < 1000) → nm s3 → nm s4 →
    (R.all (fun v => !od v t) = true ∧ ∃ y3 y4, nm y3 ∧ nm y4 ∧ frGo (frTurn [3, 4] true (sens (gm defs XF (k + 1)) XF ltB)) (enI R i) [x0, x1, .bo (dW t), s3, s4] = .ok .nx [x0, x1, .bo (dW t), y3, y4]) ∨
    (R.all (fun v => !od v t) = false ∧ ∃ (j : Int) (e' : Ev.Env), frGo (frTurn [3, 4] true (sens (gm defs XF (k + 1)) XF ltB)) (enI R i) [x0, x1, .bo (dW t), s3, s4] = .exc (npX (T "even") (.int j)) e')
  | [], i, s3, s4, _, n3, n4 => .inl ⟨rfl, s3, s4, n3, n4, rfl⟩
  | v :: R, i, s3, s4, hv, n3, n4 => by
    have e1 := c_odd (gm defs XF k) (t := t) (hv v List.mem_cons_self)
    rw [List.all_cons]
    have eI : enI (v :: R) i = .tuple [.int i, dW v] :: enI R (i + 1) := rfl
    rw [eI]
    unfold frGo
    cases ho : od v t with
    | true =>
      rw [ho] at e1
      have e2 := c_needF k (T "even") i
      refine .inr ⟨rfl, i, [x0, x1, .bo (dW t), .fz (.int i), .fz (dW v)], ?_⟩
      have h1 : frTurn [3, 4] true (sens (gm defs XF (k + 1)) XF ltB) (.tuple [.int i, dW v]) [x0, x1, .bo (dW t), s3, s4] = .exc (npX (T "even") (.int i)) [x0, x1, .bo (dW t), .fz (.int i), .fz (dW v)] := by
        generalize npX (T "even") (.int i) = xx at *
        simp [e1, e2, nm_slP n3, nm_slP n4]
      rw [h1]
      rfl
    | false =>
      rw [ho] at e1
      have e2 := c_needT (gm defs XF k) (.str (T "even")) (.int i)
      have h1 : frTurn [3, 4] true (sens (gm defs XF (k + 1)) XF ltB) (.tuple [.int i, dW v]) [x0, x1, .bo (dW t), s3, s4] = .ok .nx [x0, x1, .bo (dW t), .fz (.int i), .fz (dW v)] := by
        simp [e1, e2, nm_slP n3, nm_slP n4]
      rw [h1, bind_ok]
      rw [show ((!false) && R.all fun v => !od v t) = R.all fun v => !od v t from Bool.true_and _]
      exact lt_go k (R := R) (i := i + 1) (fun u hu => hv u (List.mem_cons_of_mem _ hu)) nm_fz nm_fz
def okT (ws : List Wd) (w t : Wd) : Bool := ws.all (fun v => !od v t) && od w t
theorem c_lat (k : Nat) {ws : List Wd} {w t : Wd} (hw : ∀ v ∈ ws, v.length < 1000) (h : w.length < 1000) :
    (okT ws w t = true ∧ runD (gm defs XF (k + 1)) XF dlook_at_turn [.tuple (dL ws), dW w, dW t] = .ret .none []) ∨
    (okT ws w t = false ∧ ∃ a b, runD (gm defs XF (k + 1)) XF dlook_at_turn [.tuple (dL ws), dW w, dW t] = .exc (npX a b) []) := by
  rw [z_run (e0 := [.bo (.tuple (dL ws)), .bo (dW w), .bo (dW t)]) rfl]
  have en := en_ws ws
  have e1 := c_odd (gm defs XF k) (a := w) (t := t) h
  unfold okT
  rcases lt_go k (t := t) (x0 := .bo (.tuple (dL ws))) (x1 := .bo (dW w)) (R := ws) (i := 0) hw nm_un nm_un with ⟨c, y3, y4, n3, n4, hr⟩ | ⟨c, j, e', hr⟩
  · rw [c, Bool.true_and]
    generalize hX : frTurn [3, 4] true (sens (gm defs XF (k + 1)) XF ltB) = tX at hr
    generalize dL ws = L at *
    cases ho : od w t with
    | true =>
      rw [ho] at e1
      have e2 := c_needT (gm defs XF k) (.str (T "odd")) (.int (-1))
      exact .inl ⟨rfl, by simp [dlook_at_turn, en, hX, hr, e1, e2]⟩
    | false =>
      rw [ho] at e1
      have e2 := c_needF k (T "odd") (-1)
      refine .inr ⟨rfl, T "odd", .int (-1), ?_⟩
      generalize npX (T "odd") (.int (-1)) = xx at *
      simp [dlook_at_turn, en, hX, hr, e1, e2]
  · rw [c, Bool.false_and]
    refine .inr ⟨rfl, T "even", .int j, ?_⟩
    generalize hX : frTurn [3, 4] true (sens (gm defs XF (k + 1)) XF ltB) = tX at hr
    generalize dL ws = L at *
    generalize npX (T "even") (.int j) = xx at *
    simp [dlook_at_turn, en, hX, hr]
/-! lets_known, _law_let -/
theorem c_lkK (k : Nat) {ws : List Wd} {w own : Wd} (hw : Ws ws) (hl : ws.length < 100) (ho : Lw ws.length own) :
    (okP ws w own = true ∧ runD (gm defs XF (k + 3)) XF dlets_known [.tuple (dL ws), dW w, .tuple [.str (T "known"), dW own]] = .ret (.str (T "known")) []) ∨
    (okP ws w own = false ∧ ∃ a b, runD (gm defs XF (k + 3)) XF dlets_known [.tuple (dL ws), dW w, .tuple [.str (T "known"), dW own]] = .exc (npX a b) []) := by
  rw [z_run (e0 := [.bo (.tuple (dL ws)), .bo (dW w), .bo (.tuple [.str (T "known"), dW own])]) rfl]
  have hlen := own_len ho
  have e1 := c_shK (k + 1) (own := own) (fun i hi => (ho.2 i hi).1) (by omega)
  have e2 := c_needT (gm defs XF (k + 2)) (.str (T "shape")) (.int (-1))
  have e4 : eqD (.str (T "known")) (.str (T "known")) = some true := by rfl
  rcases c_lap k (w := w) hw hl ho with ⟨c, h⟩ | ⟨c, h⟩
  · exact .inl ⟨c, by simp [dlets_known, a20, a21, e1, e2, e4, h]⟩
  · refine .inr ⟨c, T "sum", .int (-1), ?_⟩
    generalize npX (T "sum") (.int (-1)) = xx at *
    simp [dlets_known, a20, a21, e1, e2, e4, h]
theorem c_lkF (k : Nat) {ws : List Wd} {w t : Wd} (hw : Ws ws) (h : Wk w) (ht : Wk t) :
    (okT ws w t = true ∧ runD (gm defs XF (k + 3)) XF dlets_known [.tuple (dL ws), dW w, .tuple [.str (T "free"), dW t]] = .ret (.str (T "free")) []) ∨
    (okT ws w t = false ∧ ∃ a b, runD (gm defs XF (k + 3)) XF dlets_known [.tuple (dL ws), dW w, .tuple [.str (T "free"), dW t]] = .exc (npX a b) []) := by
  rw [z_run (e0 := [.bo (.tuple (dL ws)), .bo (dW w), .bo (.tuple [.str (T "free"), dW t])]) rfl]
  have e1 := c_shF k ht
  have e2 := c_needT (gm defs XF (k + 2)) (.str (T "shape")) (.int (-1))
  have e4 : eqD (.str (T "free")) (.str (T "known")) = some false := by decide +kernel
  have hv : ∀ v ∈ ws, v.length < 1000 := fun v hv => by
    have := (hw v hv).len
    omega
  have hl := h.len
  rcases c_lat (k + 1) (w := w) (t := t) hv (by omega) with ⟨c, h⟩ | ⟨c, a, b, h⟩
  · exact .inl ⟨c, by simp [dlets_known, a20, a21, e1, e2, e4, h]⟩
  · refine .inr ⟨c, a, b, ?_⟩
    generalize npX a b = xx at *
    simp [dlets_known, a20, a21, e1, e2, e4, h]
theorem knP : "NoPaper" ∈ knX := by decide +kernel
theorem np_cls (a : Str) (b : D) : (npX a b).cls = T "NoPaper" := rfl
theorem let_of (k : Nat) {L1 L2 : List D} {w : Wd} {A : D} {b : Bool} (h : (b = true ∧ runD (gm defs XF (k + 3)) XF dlets_known [.tuple L1, dW w, .tuple L2] = .ret A []) ∨ (b = false ∧ ∃ a b, runD (gm defs XF (k + 3)) XF dlets_known [.tuple L1, dW w, .tuple L2] = .exc (npX a b) [])) :
    runD (gm defs XF (k + 4)) XF d_law_let [.tuple L1, dW w, .tuple L2] = .ret (if b = true then A else .none) [] := by
  rw [z_run (e0 := [.bo (.tuple L1), .bo (dW w), .bo (.tuple L2)]) rfl]
  have k2 := knP
  rcases h with ⟨rfl, h⟩ | ⟨rfl, a, d, h⟩
  · simp [d_law_let, h, noXc, k2]
  · have a6 := np_cls a d
    generalize npX a d = X at *
    simp [d_law_let, h, noXc, k2, a6]
theorem c_letK (k : Nat) {ws : List Wd} {w own : Wd} (hw : Ws ws) (hl : ws.length < 100) (ho : Lw ws.length own) :
    runD (gm defs XF (k + 4)) XF d_law_let [.tuple (dL ws), dW w, .tuple [.str (T "known"), dW own]] = .ret (if okP ws w own = true then .str (T "known") else .none) [] := let_of k (c_lkK k hw hl ho)
theorem c_letF (k : Nat) {ws : List Wd} {w t : Wd} (hw : Ws ws) (h : Wk w) (ht : Wk t) :
    runD (gm defs XF (k + 4)) XF d_law_let [.tuple (dL ws), dW w, .tuple [.str (T "free"), dW t]] = .ret (if okT ws w t = true then .str (T "free") else .none) [] := let_of k (c_lkF k hw h ht)
end K10
set_option Elab.async false
set_option linter.all false
set_option maxRecDepth 100000
set_option maxHeartbeats 4000000
set_option exponentiation.threshold 9000
namespace K10
open Ev PySem Vs
/-! rows of signs -/
def atS (S : List Int) (m : Int) : Int := S.getD m.toNat 0
def signV (S : List Int) (w : Wd) : Int := (w.map (atS S)).sum % 2
def flipS (n : Nat) (S : List Int) (t : Wd) : List Int := (List.range n).map fun (m : Nat) => if (m : Int) ∈ t then 1 - atS S m else atS S m
theorem at_fl {n : Nat} {S : List Int} {t : Wd} {m : Int} (h0 : 0 ≤ m) (h1 : m < n) : atS (flipS n S t) m = if m ∈ t then 1 - atS S m else atS S m := by
  obtain ⟨i, rfl⟩ : ∃ i : Nat, m = (i : Int) := ⟨m.toNat, by omega⟩
  have hi : i < n := by omega
  unfold flipS
  conv => lhs; unfold atS
  rw [show ((i : Int)).toNat = i by omega, List.getD, List.getElem?_map, List.getElem?_eq_getElem (by rw [List.length_range]; exact hi), List.getElem_range]
  rfl
theorem par_fl {n : Nat} {S : List Int} {t : Wd} : ∀ {w : Wd}, (∀ m ∈ w, 0 ≤ m ∧ m < n) → ∃ z : Int, (w.map (atS (flipS n S t))).sum = 2 * z + ((w.filter fun m => decide (m ∈ t)).length : Int) - (w.map (atS S)).sum
  | [], _ => ⟨0, by simp⟩
  | m :: w, h => by
    obtain ⟨z, hz⟩ := par_fl (S := S) (t := t) (w := w) fun x hx => h x (List.mem_cons_of_mem _ hx)
    have hm := h m List.mem_cons_self
    rw [List.map_cons, List.sum_cons, hz, at_fl hm.1 hm.2, List.map_cons, List.sum_cons, List.filter_cons]
    by_cases c : m ∈ t
    · rw [if_pos c, if_pos (by simpa using c), List.length_cons]
      exact ⟨z, by push_cast; omega⟩
    · rw [if_neg c, if_neg (by simpa using c)]
      exact ⟨z + atS S m, by omega⟩
theorem sign_fl {n : Nat} {S : List Int} {t w : Wd} (h : ∀ m ∈ w, 0 ≤ m ∧ m < n) : decide (signV (flipS n S t) w = signV S w) = !od w t := by
  obtain ⟨z, hz⟩ := par_fl (S := S) (t := t) h
  unfold signV od
  rw [hz]
  generalize (w.map (atS S)).sum = a
  generalize (w.filter fun m => decide (m ∈ t)).length = c
  rw [← decide_not]
  exact decide_eq_decide.mpr (by omega)
theorem intsD_map : ∀ ns : List Int, intsD (ns.map .int) = some ns
  | [] => rfl
  | n :: ns => by
    show (intsD (ns.map .int)).map (n :: ·) = _
    rw [intsD_map ns]
    rfl
theorem at_s {S : List Int} {m : Int} (h0 : 0 ≤ m) (h1 : m < S.length) : L2.atI (S.map PyData.int) m = some (.int (atS S m)) := by
  obtain ⟨i, rfl⟩ : ∃ i : Nat, m = (i : Int) := ⟨m.toNat, by omega⟩
  have hi : i < S.length := by omega
  refine L2.atI_nat ?_
  rw [List.getElem?_map, List.getElem?_eq_getElem hi]
  unfold atS
  rw [show ((i : Int)).toNat = i by omega, List.getD, List.getElem?_eq_getElem hi]
  rfl
abbrev sgB : List MS := [.ite (.cmp .GtE (.var 2) (.bif .len [.var 1])) [.nev] []]
theorem sg_ok (G : Gm) {S : List Int} {m : Int} (h : m < S.length) {x0 s2 : Sl} (n2 : nm s2) : frTurn [2] false (sens G XF sgB) (.int m) [x0, .bo (dW S), s2] = .ok .nx [x0, .bo (dW S), .fz (.int m)] := by
  have c : ¬ ((S.length : Int) ≤ m) := by omega
  have e0 : dW S = .tuple (S.map .int) := rfl
  rw [e0]
  have e1 : ((S.map PyData.int).length : Int) = S.length := by rw [List.length_map]
  generalize S.map PyData.int = L at *
  simp [nm_slP n2, e1, c]
theorem c_sign (G : Gm) {S : List Int} {w : Wd} (h : ∀ m ∈ w, 0 ≤ m ∧ m < S.length) (hl : w.length < 1000) : runD G XF dsign_of [dW w, dW S] = .ret (.int (signV S w)) [] := by
  rw [z_run (e0 := [.bo (dW w), .bo (dW S)]) rfl]
  obtain ⟨e', hr, y2, rfl, n2⟩ := fr_inv (turn := frTurn [2] false (sens G XF sgB)) (ds := w.map .int) (fun j e => ∃ y2, e = [.bo (dW w), .bo (dW S), y2] ∧ nm y2) (by
      rintro j d e hd ⟨y2, rfl, m2⟩
      obtain ⟨m, hm, rfl⟩ := List.mem_map.mp (List.mem_of_getElem? hd)
      exact ⟨.nx, _, sg_ok G (h m hm).2 m2, .inl rfl, _, rfl, nm_fz⟩) (e := [.bo (dW w), .bo (dW S), .un]) ⟨.un, rfl, nm_un⟩
  have h1 : lcGo (lcTurn [2] [2] false (denT G none) (den G (.idx (.var 1) (.var 2))).v) (w.map .int) [.bo (dW w), .bo (dW S), .un] = .ok ((w.map (atS S)).map .int) [.bo (dW w), .bo (dW S), .un] := by
    have e0 : (w.map (atS S)).map PyData.int = w.filterMap fun m => some (.int (atS S m)) := by
      rw [filterMap_some, List.map_map]
      rfl
    rw [e0]
    refine lc_pure fun m hm => ?_
    have e1 : iop (dW S) (.int m) = some (.int (atS S m)) := at_s (h m hm).1 (h m hm).2
    simp [e1]
  have e2 : bi .sum [.list ((w.map (atS S)).map .int)] = some (.val (.int (w.map (atS S)).sum)) := by
    show (intsD _).map _ = _
    rw [intsD_map]
    rfl
  have e3 := o_mod (a := (w.map (atS S)).sum) (b := 2) (by decide)
  have b1 : w.length < big := by simp [big]; omega
  generalize hX : frTurn [2] false (sens G XF sgB) = tL at hr
  generalize hY : lcTurn [2] [2] false (denT G none) (den G (.idx (.var 1) (.var 2))).v = tM at h1
  unfold signV
  generalize (w.map (atS S)).map PyData.int = L at *
  simp [dsign_of, hX, it_w, hr, hY, h1, e2, e3, b1, nm_slW n2]
abbrev trA : MS := .asg 5 (.bif .tuple [.lc [("_law_m", 6)] [6] false (.rg1 (.var 2)) none (.ite (.cmp .In (.var 6) (.var 3)) (.bin .Sub (.con (.int 1)) (.idx (.var 4) (.var 6))) (.idx (.var 4) (.var 6)))])
abbrev trB : List MS := [trA, .ite (.cmp .Eq (.cal "sign_of" [.var 1, .var 5]) (.cal "sign_of" [.var 1, .var 4])) [.ret (.con (.bool false))] [],
  .ite (.cmp .NotEq (.lc [("_law_one", 7)] [7] false (.fz (.cal "all_made" [.var 0])) (some (.cmp .NotEq (.cal "sign_of" [.var 7, .var 5]) (.cal "sign_of" [.var 7, .var 4]))) (.var 7)) (.lst [])) [.ret (.con (.bool false))] []]
theorem tr_turn (k : Nat) {ws : List Wd} {w t : Wd} {n : Nat} (hn : n ≤ 12) (hw : ∀ v ∈ ws, Lw n v) (h : Lw n w) (ht : Lw n t) (hl : ws.length ≤ 11) (h1 : ∀ v ∈ ws, od v t = false) (h2 : od w t = true) {S : List Int} (hS : S.length = n) {s4 s5 : Sl} (n4 : nm s4) (n5 : nm s5) :
    frTurn [4] false (sens (gm defs XF (k + 4)) XF trB) (dW S) [.bo (.tuple (dL ws)), .bo (dW w), .bo (.int n), .bo (dW t), s4, s5, .un, .un] =
      .ok .nx [.bo (.tuple (dL ws)), .bo (dW w), .bo (.int n), .bo (dW t), .fz (dW S), .fz (dW (flipS n S t)), .un, .un] := by
  have l1 : lcGo (lcTurn [6] [6] false (denT (gm defs XF (k + 4)) none) (den (gm defs XF (k + 4)) (.ite (.cmp .In (.var 6) (.var 3)) (.bin .Sub (.con (.int 1)) (.idx (.var 4) (.var 6))) (.idx (.var 4) (.var 6)))).v) (rngD 0 n)
      [.bo (.tuple (dL ws)), .bo (dW w), .bo (.int n), .bo (dW t), .fz (dW S), s5, .un, .un] = .ok ((flipS n S t).map .int) [.bo (.tuple (dL ws)), .bo (dW w), .bo (.int n), .bo (dW t), .fz (dW S), s5, .un, .un] := by
    have e0 : (flipS n S t).map PyData.int = (List.range n).filterMap fun (m : Nat) => some (.int (if (m : Int) ∈ t then 1 - atS S m else atS S m)) := by
      rw [filterMap_some, flipS, List.map_map]
      rfl
    rw [e0]
    refine lc_pure (enc := fun (m : Nat) => PyData.int (0 + (m : Int))) fun m hm => ?_
    have hm' := List.mem_range.mp hm
    have e1 : L2.atI (S.map PyData.int) (0 + (m : Int)) = some (.int (atS S m)) := by
      rw [Int.zero_add]
      exact at_s (by omega) (by omega)
    have e2 : cop .In (.int (0 + (m : Int))) (dW t) = some (decide ((m : Int) ∈ t)) := by
      rw [Int.zero_add]
      exact in_w _ _
    have e3 : dW S = .tuple (S.map .int) := rfl
    rw [e3]
    generalize 0 + (m : Int) = z at *
    generalize S.map PyData.int = SS at *
    by_cases c : (m : Int) ∈ t
    · rw [decide_eq_true c] at e2
      simp [e1, e2, c]
    · rw [decide_eq_false c] at e2
      simp [e1, e2, c]
  have wl : ∀ v : Wd, Lw n v → v.length < 1000 := fun v hv => by
    have := (lw_wk hn hv).len
    omega
  have hf : (flipS n S t).length = n := by simp [flipS]
  have q1 := c_sign (gm defs XF (k + 3)) (S := S) (w := w) (by rw [hS]; exact h.2) (wl w h)
  have q2 := c_sign (gm defs XF (k + 3)) (S := flipS n S t) (w := w) (by rw [hf]; exact h.2) (wl w h)
  have q3 : eqD (.int (signV (flipS n S t) w)) (.int (signV S w)) = some false := by
    rw [eq_of rfl rfl, eqv_int, sign_fl h.2, h2]
    rfl
  have hww := lws_ws hn hw
  have aw : ∀ v ∈ madeW ws, Lw n v ∧ od v t = false := fun v hv => by
    have hs := (made_mem hww.all v).mp hv
    exact ⟨⟨hs.ris, sp_let (p := fun k => 0 ≤ k ∧ k < n) (fun w hw' => (hw w hw').2) hs⟩, od_made hww.all ht.1 h1 hs⟩
  have l2 : lcGo (lcTurn [7] [7] false (denT (gm defs XF (k + 4)) (some (.cmp .NotEq (.cal "sign_of" [.var 7, .var 5]) (.cal "sign_of" [.var 7, .var 4])))) (den (gm defs XF (k + 4)) (.var 7)).v) (dL (madeW ws))
      [.bo (.tuple (dL ws)), .bo (dW w), .bo (.int n), .bo (dW t), .fz (dW S), .fz (dW (flipS n S t)), .un, .un] = .ok [] [.bo (.tuple (dL ws)), .bo (dW w), .bo (.int n), .bo (dW t), .fz (dW S), .fz (dW (flipS n S t)), .un, .un] := by
    have e0 : ([] : List D) = (madeW ws).filterMap fun _ => none := by simp
    rw [e0]
    refine lc_pure (enc := dW) fun v hv => ?_
    obtain ⟨v1, v2⟩ := aw v hv
    have p1 := c_sign (gm defs XF (k + 3)) (S := S) (w := v) (by rw [hS]; exact v1.2) (wl v v1)
    have p2 := c_sign (gm defs XF (k + 3)) (S := flipS n S t) (w := v) (by rw [hf]; exact v1.2) (wl v v1)
    have p3 : eqD (.int (signV (flipS n S t) v)) (.int (signV S v)) = some true := by
      rw [eq_of rfl rfl, eqv_int, sign_fl v1.2, v2]
      rfl
    generalize signV (flipS n S t) v = x at *
    generalize signV S v = y at *
    generalize flipS n S t = S' at *
    simp [p1, p2, p3]
  have e5 := c_made k hww hl
  have d1 : dall_made.df = [.int 4096] := rfl
  have b1 : (madeW ws).length < big := by
    rw [made_len hww.all]
    have h3 := bo_le ws
    have : 2 ^ (baseOf ws).length ≤ 2 ^ 11 := Nat.pow_le_pow_right (by decide) (by omega)
    simp only [big]
    omega
  have b2 : -(big : Int) ≤ n ∧ (n : Int) ≤ big := by simp [big]; omega
  have b3 : (rngD 0 n).length < big := by simp [rngD, big]; omega
  have q0 : eqD (.list []) (.list []) = some true := by rfl
  have ef : dW (flipS n S t) = .tuple ((flipS n S t).map .int) := rfl
  generalize hX : lcTurn [6] [6] false (denT (gm defs XF (k + 4)) none) (den (gm defs XF (k + 4)) (.ite (.cmp .In (.var 6) (.var 3)) (.bin .Sub (.con (.int 1)) (.idx (.var 4) (.var 6))) (.idx (.var 4) (.var 6)))).v = tX at l1
  generalize hY : lcTurn [7] [7] false (denT (gm defs XF (k + 4)) (some (.cmp .NotEq (.cal "sign_of" [.var 7, .var 5]) (.cal "sign_of" [.var 7, .var 4])))) (den (gm defs XF (k + 4)) (.var 7)).v = tY at l2
  rw [ef] at q2 l2
  rw [ef]
  clear ef
  generalize signV (flipS n S t) w = x at *
  generalize signV S w = y at *
  generalize (flipS n S t).map PyData.int = S' at *
  generalize madeW ws = M at *
  simp [hX, hY, l1, l2, b1, b2, b3, q0, q1, q2, q3, e5, d1, nm_slP n4, nm_slP n5]
theorem c_size (g : Gm) (r : Nat) (hr : r ≤ 20) : runD g XF d_law_size [.int r] = .ret (.int (2 ^ r : Nat)) [] := by
  rw [z_run (e0 := [.bo (.int r)]) rfl]
  obtain ⟨e', h, y2, n2, hj, rfl⟩ := fr_inv (turn := frTurn [2] false (sens g XF [.asg 1 (.bin .Mult (.con (.int 2)) (.var 1))])) (ds := rngD 0 r)
    (fun j e => ∃ y2, nm y2 ∧ j ≤ r ∧ e = [.bo (.int r), .fz (.int (2 ^ j : Nat)), y2]) (by
      rintro j d e hd ⟨y2, n2, hj, rfl⟩
      have hj2 : j < r := by
        apply Classical.byContradiction
        intro z
        rw [List.getElem?_eq_none (by simp [rngD]; omega)] at hd
        cases hd
      have e1 : bop .Mult (.int 2) (.int (2 ^ j : Nat)) = some (.val (.int (2 ^ (j + 1) : Nat))) := by
        rw [o_mul (.inl (by decide)), Nat.pow_succ]
        congr 3
        omega
      refine ⟨.nx, _, ?_, .inl rfl, .fz d, nm_fz, hj2, rfl⟩
      generalize ((2 ^ j : Nat) : Int) = x at *
      generalize ((2 ^ (j + 1) : Nat) : Int) = y at *
      simp [e1, nm_slP n2])
    (e := [.bo (.int r), .fz (.int 1), .un]) ⟨.un, nm_un, Nat.zero_le _, rfl⟩
  have hlen : (rngD 0 r).length = r := by simp [rngD]
  rw [hlen] at h
  have g1 : -(big : Int) ≤ r ∧ (r : Int) ≤ big := by simp [big]; omega
  generalize hX : frTurn [2] false (sens g XF [.asg 1 (.bin .Mult (.con (.int 2)) (.var 1))]) = tX at h
  generalize ((2 ^ r : Nat) : Int) = y at *
  simp [d_law_size, g1, hX, h]
theorem c_turn (k : Nat) {ws : List Wd} {w t : Wd} {n : Nat} (hn : n ≤ 12) (hn2 : 2 ≤ n) (hw : ∀ v ∈ ws, Lw n v) (h : Lw n w) (ht : Lw n t) (hl : ws.length ≤ 11) (h1 : ∀ v ∈ ws, od v t = false) (h2 : od w t = true) :
    runD (gm defs XF (k + 4)) XF d_law_turn_right [.tuple (dL ws), dW w, .int n, dW t] = .ret (.bool true) [] := by
  rw [z_run (e0 := [.bo (.tuple (dL ws)), .bo (dW w), .bo (.int n), .bo (dW t)]) rfl]
  have S0 : (List.replicate n (0 : Int)).length = n := by simp
  have S1 : ((List.range n).map fun (m : Nat) => (m : Int) % 2).length = n := by simp
  have t0 := tr_turn k hn hw h ht hl h1 h2 (S := List.replicate n 0) S0 nm_un nm_un
  have t1 := tr_turn k hn hw h ht hl h1 h2 (S := (List.range n).map fun (m : Nat) => (m : Int) % 2) S1 (s4 := .fz (dW (List.replicate n 0))) (s5 := .fz (dW (flipS n (List.replicate n 0) t))) nm_fz nm_fz
  have m1 : bop .Mult (.tuple [.int 0]) (.int n) = some (.val (dW (List.replicate n 0))) := by
    have e : (List.replicate ((n : Int)).toNat [PyData.int 0]).flatten = (List.replicate n (0 : Int)).map .int := by
      rw [show ((n : Int)).toNat = n by omega]
      clear hn hn2 hw h ht S0 S1 t0 t1
      induction n with
      | zero => rfl
      | succ n ih => rw [List.replicate_succ, List.flatten_cons, ih, List.replicate_succ, List.map_cons]; rfl
    show (if ([PyData.int 0] ≠ [] ∧ 2 ≤ (n : Int) ∧ (n : Int) ≤ 1000 ∧ [PyData.int 0].length ≤ 1000) then some (R.val (PyData.tuple (List.replicate ((n : Int)).toNat [PyData.int 0]).flatten)) else none) = _
    rw [if_pos ⟨by simp, by omega, by omega, by simp⟩, e]
    rfl
  have l1 : lcGo (lcTurn [6] [6] false (denT (gm defs XF (k + 4)) none) (den (gm defs XF (k + 4)) (.bin .Mod (.var 6) (.con (.int 2)))).v) (rngD 0 n)
      [.bo (.tuple (dL ws)), .bo (dW w), .bo (.int n), .bo (dW t), .un, .un, .un, .un] = .ok (((List.range n).map fun (m : Nat) => (m : Int) % 2).map .int) [.bo (.tuple (dL ws)), .bo (dW w), .bo (.int n), .bo (dW t), .un, .un, .un, .un] := by
    have e0 : ((List.range n).map fun (m : Nat) => (m : Int) % 2).map PyData.int = (List.range n).filterMap fun (m : Nat) => some (.int ((m : Int) % 2)) := by
      rw [filterMap_some, List.map_map]
      rfl
    rw [e0]
    refine lc_pure (enc := fun (m : Nat) => PyData.int (0 + (m : Int))) fun m hm => ?_
    have e1 := o_mod (a := 0 + (m : Int)) (b := 2) (by decide)
    rw [show (0 + (m : Int)) % 2 = (m : Int) % 2 by omega] at e1
    generalize 0 + (m : Int) = z at *
    simp [e1]
  have b2 : -(big : Int) ≤ n ∧ (n : Int) ≤ big := by simp [big]; omega
  have b3 : (rngD 0 n).length < big := by simp [rngD, big]; omega
  have ef : dW ((List.range n).map fun (m : Nat) => (m : Int) % 2) = .tuple (((List.range n).map fun (m : Nat) => (m : Int) % 2).map .int) := rfl
  generalize hX : lcTurn [6] [6] false (denT (gm defs XF (k + 4)) none) (den (gm defs XF (k + 4)) (.bin .Mod (.var 6) (.con (.int 2)))).v = tX at l1
  generalize hY : frTurn [4] false (sens (gm defs XF (k + 4)) XF trB) = tY at t0 t1
  rw [ef] at t1
  clear ef
  generalize (flipS n ((List.range n).map fun (m : Nat) => (m : Int) % 2) t) = F1 at *
  generalize ((List.range n).map fun (m : Nat) => (m : Int) % 2).map PyData.int = P1 at *
  generalize (flipS n (List.replicate n 0) t) = F0 at *
  have e0 : dW (List.replicate n 0) = .tuple ((List.replicate n 0).map .int) := rfl
  rw [e0] at t0 t1 m1
  clear e0
  generalize (List.replicate n (0 : Int)).map PyData.int = P0 at *
  have hf : frGo tY [.tuple P0, .tuple P1] [.bo (.tuple (dL ws)), .bo (dW w), .bo (.int n), .bo (dW t), .un, .un, .un, .un] = .ok .nx [.bo (.tuple (dL ws)), .bo (dW w), .bo (.int n), .bo (dW t), .fz (.tuple P1), .fz (dW F1), .un, .un] := by
    unfold frGo
    rw [t0, bind_ok]
    dsimp only
    unfold frGo
    rw [t1, bind_ok]
    rfl
  simp [d_law_turn_right, m1, hX, l1, b2, b3, hY, hf]
end K10
set_option Elab.async false
set_option linter.all false
set_option maxRecDepth 100000
set_option maxHeartbeats 8000000
set_option exponentiation.threshold 9000
namespace K10
open Ev PySem Vs
/-! is_right: what is told of a word -/
def freesW (n : Nat) (ws : List Wd) (w : Wd) : List Wd := (turnsW n).filter (okT ws w)
theorem frees_mem {n : Nat} {ws : List Wd} {w t : Wd} : t ∈ freesW n ws w ↔ Lw n t ∧ okT ws w t = true := by
  unfold freesW
  rw [List.mem_filter, turns_mem]
theorem ok_iff {ws : List Wd} {w t : Wd} : okT ws w t = true ↔ (∀ v ∈ ws, od v t = false) ∧ od w t = true := by
  unfold okT
  rw [Bool.and_eq_true, List.all_eq_true]
  simp
theorem frees_eq (n : Nat) (ws : List Wd) (w : Wd) : freesW n ws w = (evens ws (turnsW n)).filter fun t => od w t := by
  unfold freesW evens
  rw [List.filter_filter]
  refine List.filter_congr fun t _ => ?_
  unfold okT
  rw [Bool.and_comm]
theorem part_lw {n : Nat} {ws : List Wd} (hw : ∀ v ∈ ws, Lw n v) {w : Wd} (h : Lw n w) (hr : red (baseOf ws) w ≠ []) : Lw n (part (baseOf ws) (hd (red (baseOf ws) w))) := by
  have aS : All ws := fun s hs => (hw s hs).1
  have rr : Rs (red (baseOf ws) w) := red_ris h.1
  have lb : ∀ b ∈ baseOf ws, Lw n b := fun b hb => ⟨(bo_ech aS).ris b hb, sp_let (p := fun k => 0 ≤ k ∧ k < n) (fun w hw' => (hw w hw').2) ((bo_sp aS b).mp (.own hb ((bo_ech aS).ris b hb)))⟩
  have lr : ∀ k ∈ red (baseOf ws) w, 0 ≤ k ∧ k < n := by
    have h1 : Sp (baseOf ws ++ [w]) (red (baseOf ws) w) := by
      have h2 : Sp (baseOf ws) (symI w (red (baseOf ws) w)) := red_sp (fun r hr => .own hr ((bo_ech aS).ris r hr)) h.1
      have e : red (baseOf ws) w = symI w (symI w (red (baseOf ws) w)) := (s_back rr).symm
      rw [e]
      refine (Sp.own (List.mem_append_right _ List.mem_cons_self) h.1).sum (h2.le fun x hx => .own (List.mem_append_left _ hx) ((bo_ech aS).ris x hx))
    refine sp_let (p := fun k => 0 ≤ k ∧ k < n) (fun x hx => ?_) h1
    rcases List.mem_append.mp hx with y | y
    · exact (lb x y).2
    · rw [List.mem_singleton.mp y]
      exact h.2
  refine ⟨part_ris, fun k hk => ?_⟩
  rcases part_mem.mp hk with y | ⟨b, hb, _, rfl⟩
  · rw [y]
    exact lr _ (hd_mem hr)
  · exact (lb b hb).2 _ (hd_mem ((bo_ech aS).ne b hb))
theorem pow_q {a r n : Nat} (h : a * 2 ^ r = 2 ^ n) : r ≤ n ∧ a = 2 ^ (n - r) := by
  have hr : r ≤ n := by
    apply Classical.byContradiction
    intro z
    have h1 : a ≠ 0 := by
      rintro rfl
      rw [Nat.zero_mul] at h
      have := Nat.two_pow_pos n
      omega
    have h2 : 2 ^ (n + 1) ≤ 2 ^ r := Nat.pow_le_pow_right (by decide) (by omega)
    have h3 : 1 * 2 ^ r ≤ a * 2 ^ r := Nat.mul_le_mul_right _ (by omega)
    rw [Nat.pow_succ] at h2
    have := Nat.two_pow_pos n
    omega
  refine ⟨hr, ?_⟩
  have e : 2 ^ n = 2 ^ (n - r) * 2 ^ r := by rw [← Nat.pow_add, show n - r + r = n by omega]
  rw [e] at h
  exact Nat.eq_of_mul_eq_mul_right (Nat.two_pow_pos r) h
theorem frees_len {n : Nat} (hn : n ≤ 6) {ws : List Wd} (hw : ∀ v ∈ ws, Lw n v) {w : Wd} (h : Lw n w) (hk : mkB ws w = false) : (baseOf ws).length + 1 ≤ n ∧ (freesW n ws w).length = 2 ^ (n - (baseOf ws).length - 1) := by
  have h1 := frees_count hn hw h hk
  rw [← frees_eq] at h1
  have := pow_q h1
  rw [show n - (baseOf ws).length - 1 = n - ((baseOf ws).length + 1) by omega]
  exact this
theorem ways_len {ws : List Wd} (a : All ws) (hl : ws.length ≤ 6) {w : Wd} (hk : Sp ws w) : (baseOf ws).length ≤ ws.length ∧ (waysW ws w).length = 2 ^ (ws.length - (baseOf ws).length) := by
  have h1 := ways_count a hl hk
  rw [Nat.mul_comm] at h1
  exact pow_q h1
abbrev R1 : List MS := [.asg 3 (.cal "all_made" [.bif .tuple [.lc [("_law_k", 13)] [13] false (.rg1 (.bif .len [.var 0])) none (.tup [.var 13])]]), .asg 4 (.cal "all_made" [.bif .tuple [.lc [("_law_m", 14)] [14] false (.rg1 (.var 2)) none (.tup [.var 14])]])]
abbrev cK : ME := .cmp .IsNot (.cal "_law_let" [.var 0, .var 1, .tup [.con (.str (T "known")), .var 10]]) (.con .none)
abbrev cF : ME := .cmp .IsNot (.cal "_law_let" [.var 0, .var 1, .tup [.con (.str (T "free")), .var 10]]) (.con .none)
abbrev R2 : List MS := [.asg 5 (.lc [("_law_own", 10)] [10] false (.var 3) (some cK) (.var 10)), .asg 6 (.lc [("_law_own", 10)] [10] false (.var 4) (some cF) (.var 10)),
  .par3 7 8 9 (.cal "known_paper" [.var 0, .var 1]) (.cal "rank_of" [.var 0]) (.cal "makes" [.var 0, .var 1])]
theorem sg13 (g : Gm) (m : Nat) {x0 x1 x2 x3 x4 x5 x6 x7 x8 x9 x10 x11 x12 x13 x14 x15 x16 : Sl} :
    lcGo (lcTurn [13] [13] false (denT g none) (den g (.tup [.var 13])).v) (rngD 0 m) [x0, x1, x2, x3, x4, x5, x6, x7, x8, x9, x10, x11, x12, .un, x14, x15, x16] = .ok (dL (singles m)) [x0, x1, x2, x3, x4, x5, x6, x7, x8, x9, x10, x11, x12, .un, x14, x15, x16] := by
  have e0 : dL (singles m) = (List.range m).filterMap fun (k : Nat) => some (dW [(k : Int)]) := by
    rw [filterMap_some, singles, dL, List.map_map]
    rfl
  rw [e0]
  refine lc_pure (enc := fun (k : Nat) => PyData.int (0 + (k : Int))) fun k hk => ?_
  have e1 : dW [(k : Int)] = .tuple [.int (0 + (k : Int))] := by rw [Int.zero_add]; rfl
  rw [e1]
  generalize 0 + (k : Int) = z
  simp
theorem sg14 (g : Gm) (m : Nat) {x0 x1 x2 x3 x4 x5 x6 x7 x8 x9 x10 x11 x12 x13 x14 x15 x16 : Sl} :
    lcGo (lcTurn [14] [14] false (denT g none) (den g (.tup [.var 14])).v) (rngD 0 m) [x0, x1, x2, x3, x4, x5, x6, x7, x8, x9, x10, x11, x12, x13, .un, x15, x16] = .ok (dL (singles m)) [x0, x1, x2, x3, x4, x5, x6, x7, x8, x9, x10, x11, x12, x13, .un, x15, x16] := by
  have e0 : dL (singles m) = (List.range m).filterMap fun (k : Nat) => some (dW [(k : Int)]) := by
    rw [filterMap_some, singles, dL, List.map_map]
    rfl
  rw [e0]
  refine lc_pure (enc := fun (k : Nat) => PyData.int (0 + (k : Int))) fun k hk => ?_
  have e1 : dW [(k : Int)] = .tuple [.int (0 + (k : Int))] := by rw [Int.zero_add]; rfl
  rw [e1]
  generalize 0 + (k : Int) = z
  simp
theorem ws_singles {m : Nat} (h : m ≤ 12) : Ws (singles m) := fun w hw => by
  obtain ⟨k, hk, rfl⟩ := List.mem_map.mp hw
  have := List.mem_range.mp hk
  exact wk_place (by omega)
theorem len_singles (m : Nat) : (singles m).length = m := by simp [singles]
theorem r1_ok (k : Nat) {ws : List Wd} {w : Wd} {n : Nat} (hn : n ≤ 6) (hl : ws.length ≤ 5) :
    sens (gm defs XF (k + 5)) XF R1 [.bo (.tuple (dL ws)), .bo (dW w), .bo (.int n), .un, .un, .un, .un, .un, .un, .un, .un, .un, .un, .un, .un, .un, .un] =
      .ok .nx [.bo (.tuple (dL ws)), .bo (dW w), .bo (.int n), .fz (.tuple (dL (turnsW ws.length))), .fz (.tuple (dL (turnsW n))), .un, .un, .un, .un, .un, .un, .un, .un, .un, .un, .un, .un] := by
  have l1 := fun (x0 x1 x2 x3 x4 x5 x6 x7 x8 x9 x10 x11 x12 x14 x15 x16 : Sl) => sg13 (gm defs XF (k + 5)) ws.length (x0 := x0) (x1 := x1) (x2 := x2) (x3 := x3) (x4 := x4) (x5 := x5) (x6 := x6) (x7 := x7) (x8 := x8) (x9 := x9) (x10 := x10) (x11 := x11) (x12 := x12) (x13 := .un) (x14 := x14) (x15 := x15) (x16 := x16)
  have l2 := fun (x0 x1 x2 x3 x4 x5 x6 x7 x8 x9 x10 x11 x12 x13 x15 x16 : Sl) => sg14 (gm defs XF (k + 5)) n (x0 := x0) (x1 := x1) (x2 := x2) (x3 := x3) (x4 := x4) (x5 := x5) (x6 := x6) (x7 := x7) (x8 := x8) (x9 := x9) (x10 := x10) (x11 := x11) (x12 := x12) (x13 := x13) (x14 := .un) (x15 := x15) (x16 := x16)
  have c1 := c_made (k + 1) (ws_singles (m := ws.length) (by omega)) (by rw [len_singles]; omega)
  have c2 := c_made (k + 1) (ws_singles (m := n) (by omega)) (by rw [len_singles]; omega)
  have d1 : dall_made.df = [.int 4096] := rfl
  have b1 : -(big : Int) ≤ n ∧ (n : Int) ≤ big := by simp [big]; omega
  have b2 : -(big : Int) ≤ ws.length ∧ (ws.length : Int) ≤ big := by simp [big]; omega
  have b3 : (rngD 0 n).length < big := by simp [rngD, big]; omega
  have b4 : (rngD 0 ws.length).length < big := by simp [rngD, big]; omega
  generalize hX : lcTurn [13] [13] false (denT (gm defs XF (k + 5)) none) (den (gm defs XF (k + 5)) (.tup [.var 13])).v = tX at l1
  generalize hY : lcTurn [14] [14] false (denT (gm defs XF (k + 5)) none) (den (gm defs XF (k + 5)) (.tup [.var 14])).v = tY at l2
  unfold turnsW
  generalize madeW (singles ws.length) = M1 at *
  generalize madeW (singles n) = M2 at *
  generalize dL (singles ws.length) = S1 at *
  generalize dL (singles n) = S2 at *
  simp [hX, hY, l1, l2, c1, c2, d1, b1, b2, b3, b4]
theorem lw5 {n : Nat} (hn : n ≤ 6) {v : Wd} (h : Lw n v) : Wk v := lw_wk (m := n) (by omega) h
theorem r2_ok (k : Nat) {ws : List Wd} {w : Wd} {n : Nat} (hn : n ≤ 6) (hw : ∀ v ∈ ws, Lw n v) (h : Lw n w) (hl : ws.length ≤ 5) :
    sens (gm defs XF (k + 5)) XF R2 [.bo (.tuple (dL ws)), .bo (dW w), .bo (.int n), .fz (.tuple (dL (turnsW ws.length))), .fz (.tuple (dL (turnsW n))), .un, .un, .un, .un, .un, .un, .un, .un, .un, .un, .un, .un] =
      .ok .nx [.bo (.tuple (dL ws)), .bo (dW w), .bo (.int n), .fz (.tuple (dL (turnsW ws.length))), .fz (.tuple (dL (turnsW n))), .mu false false (.lst (dL (waysW ws w))), .mu false false (.lst (dL (freesW n ws w))), .fz (kpD ws w), .fz (.int (baseOf ws).length), .fz (.bool (mkB ws w)), .un, .un, .un, .un, .un, .un, .un] := by
  have hW := lws_ws (m := n) (by omega) hw
  have hk := lw5 hn h
  have l1 : ∀ (x3 x4 x5 x6 x7 x8 x9 x11 x12 x13 x14 x15 x16 : Sl), lcGo (lcTurn [10] [10] false (denT (gm defs XF (k + 5)) (some cK)) (den (gm defs XF (k + 5)) (.var 10)).v) (dL (turnsW ws.length)) [.bo (.tuple (dL ws)), .bo (dW w), .bo (.int n), x3, x4, x5, x6, x7, x8, x9, .un, x11, x12, x13, x14, x15, x16] =
      .ok (dL (waysW ws w)) [.bo (.tuple (dL ws)), .bo (dW w), .bo (.int n), x3, x4, x5, x6, x7, x8, x9, .un, x11, x12, x13, x14, x15, x16] := by
    intro x3 x4 x5 x6 x7 x8 x9 x11 x12 x13 x14 x15 x16
    have e0 : dL (waysW ws w) = (turnsW ws.length).filterMap fun own => if okP ws w own = true then some (dW own) else none := by
      rw [filterMap_if]
      rfl
    rw [e0]
    refine lc_pure (enc := dW) fun own ho => ?_
    have e1 := c_letK k hW (w := w) (by omega) (turns_mem.mp ho)
    have i1 : cop .IsNot (.str (T "known")) .none = some true := rfl
    have i2 : cop .IsNot .none .none = some false := rfl
    cases hb : okP ws w own <;> rw [hb] at e1 <;> simp [e1, i1, i2]
  have l2 : ∀ (x3 x4 x5 x6 x7 x8 x9 x11 x12 x13 x14 x15 x16 : Sl), lcGo (lcTurn [10] [10] false (denT (gm defs XF (k + 5)) (some cF)) (den (gm defs XF (k + 5)) (.var 10)).v) (dL (turnsW n)) [.bo (.tuple (dL ws)), .bo (dW w), .bo (.int n), x3, x4, x5, x6, x7, x8, x9, .un, x11, x12, x13, x14, x15, x16] =
      .ok (dL (freesW n ws w)) [.bo (.tuple (dL ws)), .bo (dW w), .bo (.int n), x3, x4, x5, x6, x7, x8, x9, .un, x11, x12, x13, x14, x15, x16] := by
    intro x3 x4 x5 x6 x7 x8 x9 x11 x12 x13 x14 x15 x16
    have e0 : dL (freesW n ws w) = (turnsW n).filterMap fun t => if okT ws w t = true then some (dW t) else none := by
      rw [filterMap_if]
      rfl
    rw [e0]
    refine lc_pure (enc := dW) fun t ht => ?_
    have e1 := c_letF k hW hk (lw5 hn (turns_mem.mp ht))
    have i1 : cop .IsNot (.str (T "free")) .none = some true := rfl
    have i2 : cop .IsNot .none .none = some false := rfl
    cases hb : okT ws w t <;> rw [hb] at e1 <;> simp [e1, i1, i2]
  have e1 := c_known (k + 1) hW hk (by omega)
  have e2 := c_rank (k + 1) hW
  have e3 := c_mk (k + 1) hW hk
  have t1 : (turnsW ws.length).length < big := by
    rw [turns_len (by omega)]
    have : 2 ^ ws.length ≤ 2 ^ 6 := Nat.pow_le_pow_right (by decide) (by omega)
    simp only [big]
    omega
  have t2 : (turnsW n).length < big := by
    rw [turns_len (by omega)]
    have : 2 ^ n ≤ 2 ^ 6 := Nat.pow_le_pow_right (by decide) (by omega)
    simp only [big]
    omega
  generalize hX : lcTurn [10] [10] false (denT (gm defs XF (k + 5)) (some cK)) (den (gm defs XF (k + 5)) (.var 10)).v = tX at l1
  generalize hY : lcTurn [10] [10] false (denT (gm defs XF (k + 5)) (some cF)) (den (gm defs XF (k + 5)) (.var 10)).v = tY at l2
  generalize turnsW ws.length = U1 at *
  generalize turnsW n = U2 at *
  generalize waysW ws w = W1 at *
  generalize freesW n ws w = W2 at *
  generalize kpD ws w = P at *
  generalize ((baseOf ws).length : Int) = r at *
  simp [hX, hY, l1, l2, e1, e2, e3, t1, t2]
end K10
set_option Elab.async false
set_option linter.all false
set_option maxRecDepth 100000
set_option maxHeartbeats 8000000
set_option exponentiation.threshold 9000
namespace K10
open Ev PySem Vs
/-! is_right: where the word is made -/
abbrev R3 : List MS := [.ite (.or (.cmp .NotEq (.idx (.var 7) (.con (.int 0))) (.idx (.lst [.con (.str (T "free")), .con (.str (T "known"))]) (.bif .intB [.var 9]))) (.cmp .NotEq (.cal "_law_let" [.var 0, .var 1, .var 7]) (.idx (.var 7) (.con (.int 0))))) [.ret (.con (.bool false))] [],
  .ite (.cmp .NotEq (.lst [.cmp .Gt (.bif .len [.var 5]) (.con (.int 0)), .cmp .Gt (.bif .len [.var 6]) (.con (.int 0))]) (.lst [.var 9, .not (.var 9)])) [.ret (.con (.bool false))] []]
abbrev KB1 : List MS := [.asg 11 (.cal "sum_of" [.tup [.var 10, .idx (.var 5) (.neg (.con (.int 1)))]]),
    .ite (.cmp .NotEq (.cal "sum_of" [.bif .tuple [.lc [("_law_place", 15)] [15] false (.var 11) none (.idx (.var 0) (.var 15))]]) (.tup [])) [.ret (.con (.bool false))] []]
abbrev K1 : List MS := [.ite (.or (.cmp .NotEq (.bif .len [.var 5]) (.cal "_law_size" [.bin .Sub (.bif .len [.var 0]) (.var 8)])) (.cmp .NotIn (.idx (.var 7) (.con (.int 1))) (.var 5))) [.ret (.con (.bool false))] []]
abbrev K2 : List MS := [.fr [10] false (.fz (.sli (.var 5) none (some (.con (.int 4))))) KB1, .ret (.cmp .Eq (.cal "_law_let" [.bin .Add (.var 0) (.tup [.var 1]), .var 1, .var 7]) (.con (.str (T "known"))))]
theorem last_w {xs : List Wd} (h : xs ≠ []) : ∃ w ∈ xs, L2.atI (dL xs) (-1) = some (dW w) := at_neg (n := 1) (xs := xs) (by decide) (List.length_pos_iff.mpr h)
theorem kb_turn (k : Nat) {ws : List Wd} {w own last : Wd} {Wy : List Wd} (hW : Ws ws) (hl : ws.length ≤ 5) (h : Wk w) (ho : own ∈ waysW ws w) (hz : last ∈ waysW ws w) (hat : L2.atI (dL Wy) (-1) = some (dW last))
    {x1 x2 x3 x4 x6 x7 x8 x9 x10 x11 x12 x13 x14 x16 : Sl} (n10 : nm x10) (n11 : nm x11) :
    frTurn [10] false (sens (gm defs XF (k + 5)) XF KB1) (dW own) [.bo (.tuple (dL ws)), x1, x2, x3, x4, .mu false false (.lst (dL Wy)), x6, x7, x8, x9, x10, x11, x12, x13, x14, .un, x16] =
      .ok .nx [.bo (.tuple (dL ws)), x1, x2, x3, x4, .mu false false (.lst (dL Wy)), x6, x7, x8, x9, .fz (dW own), .fz (dW (symI own last)), x12, x13, x14, .un, x16] := by
  obtain ⟨o1, o2⟩ := ways_mem.mp ho
  obtain ⟨z1, z2⟩ := ways_mem.mp hz
  have ko := lw_wk (m := ws.length) (by omega) o1
  have kz := lw_wk (m := ws.length) (by omega) z1
  have hb := lw_sym o1 z1
  have e1 : runD (gm defs XF (k + 4)) XF dsum_of [.tuple [dW own, dW last]] = .ret (dW (symI own last)) [] := by
    have := (c_sumof (k + 3) (ws := [own, last]) (ws_cons' ko (ws_cons' kz ws_nil'))).1
    rw [show sumW [own, last] = symI own last from by show symI (symI [] own) last = _; rw [nil_s ko.ris]] at this
    exact this
  have l1 : lcGo (lcTurn [15] [15] false (denT (gm defs XF (k + 5)) none) (den (gm defs XF (k + 5)) (.idx (.var 0) (.var 15))).v) ((symI own last).map .int) [.bo (.tuple (dL ws)), x1, x2, x3, x4, .mu false false (.lst (dL Wy)), x6, x7, x8, x9, .fz (dW own), .fz (dW (symI own last)), x12, x13, x14, .un, x16] =
      .ok (dL ((symI own last).map (atP ws))) [.bo (.tuple (dL ws)), x1, x2, x3, x4, .mu false false (.lst (dL Wy)), x6, x7, x8, x9, .fz (dW own), .fz (dW (symI own last)), x12, x13, x14, .un, x16] := by
    have e0 : dL ((symI own last).map (atP ws)) = (symI own last).filterMap fun p => some (dW (atP ws p)) := by
      rw [filterMap_some, dL, List.map_map]
      rfl
    rw [e0]
    refine lc_pure (enc := PyData.int) fun p hp => ?_
    have e2 := at_ws (hb.2 p hp).1 (hb.2 p hp).2
    generalize dL ws = L at *
    generalize symI own last = b at *
    simp [e2]
  have wv : Ws ((symI own last).map (atP ws)) := fun v hv => by
    obtain ⟨p, hp, rfl⟩ := List.mem_map.mp hv
    exact atP_wk hW (hb.2 p hp).1 (hb.2 p hp).2
  have e3 : runD (gm defs XF (k + 4)) XF dsum_of [.tuple (dL ((symI own last).map (atP ws)))] = .ret (.tuple []) [] := by
    have q : runD (gm defs XF (k + 4)) XF dsum_of [.tuple (dL ((symI own last).map (atP ws)))] = .ret (dW (sumAt ws (symI own last))) [] := (c_sumof (k + 3) wv).1
    rw [sumAt_lin o1 z1, o2, z2, s_self] at q
    exact q
  have q0 : eqD (.tuple []) (.tuple []) = some true := by rfl
  have bl := own_len hb
  have b1 : (symI own last).length < big := by simp [big]; omega
  generalize hX : lcTurn [15] [15] false (denT (gm defs XF (k + 5)) none) (den (gm defs XF (k + 5)) (.idx (.var 0) (.var 15))).v = tX at l1
  generalize dL ((symI own last).map (atP ws)) = A at *
  generalize symI own last = b at *
  generalize dL Wy = Y at *
  simp [e1, hat, hX, it_w, l1, b1, e3, q0, nm_slP n10, nm_slP n11]
theorem q_int (z : Int) : eqD (.int z) (.int z) = some true := by rw [eq_of rfl rfl, eqv_int]; simp
theorem known_of {ws : List Wd} {w : Wd} {n : Nat} (hw : ∀ v ∈ ws, Lw n v) (h : Lw n w) (hl : ws.length ≤ 5) (hk : mkB ws w = true) :
    ∃ pl, kpD ws w = .tuple [.str (T "known"), dW pl] ∧ Lw ws.length pl ∧ sumAt ws pl = w := by
  have aw : All ws := fun v hv => (hw v hv).1
  have hs := (mk_iff aw h.1).mp hk
  have kp := kp_places aw h.1
  exact ⟨_, if_pos hk, kp.2.1, kp.2.2 hs⟩
theorem r3K (k : Nat) {ws : List Wd} {w : Wd} {n : Nat} (hn : n ≤ 6) (hw : ∀ v ∈ ws, Lw n v) (h : Lw n w) (hl : ws.length ≤ 5) (hk : mkB ws w = true) {x3 x4 x8 x10 x11 x12 x13 x14 x15 x16 : Sl} :
    sens (gm defs XF (k + 5)) XF R3 [.bo (.tuple (dL ws)), .bo (dW w), .bo (.int n), x3, x4, .mu false false (.lst (dL (waysW ws w))), .mu false false (.lst (dL (freesW n ws w))), .fz (kpD ws w), x8, .fz (.bool (mkB ws w)), x10, x11, x12, x13, x14, x15, x16] =
      .ok .nx [.bo (.tuple (dL ws)), .bo (dW w), .bo (.int n), x3, x4, .mu false false (.lst (dL (waysW ws w))), .mu false false (.lst (dL (freesW n ws w))), .fz (kpD ws w), x8, .fz (.bool (mkB ws w)), x10, x11, x12, x13, x14, x15, x16] := by
  obtain ⟨pl, ek, p1, p2⟩ := known_of hw h hl hk
  have hW := lws_ws (m := n) (by omega) hw
  have e1 := c_letK k hW (w := w) (by omega) p1
  have hp : okP ws w pl = true := decide_eq_true p2
  rw [if_pos hp] at e1
  have m1 : pl ∈ waysW ws w := ways_mem.mpr ⟨p1, p2⟩
  have hpos : 0 < (waysW ws w).length := List.length_pos_iff.mpr (List.ne_nil_of_mem m1)
  have ef : freesW n ws w = [] := by
    rw [frees_eq]
    exact frees_none (fun v hv => (hw v hv).1) h.1 hk
  have i1 : bi .intB [.bool true] = some (.val (.int 1)) := rfl
  have q1 : eqD (.str (T "known")) (.str (T "known")) = some true := by rfl
  have q2 : eqD (.list [.bool true, .bool false]) (.list [.bool true, .bool false]) = some true := by decide +kernel
  rw [ek, hk, ef, show dL [] = ([] : List D) from rfl]
  generalize waysW ws w = W1 at *
  simp [a20, a21, e1, i1, q1, q2, hpos]
theorem k1_ok (k : Nat) {ws : List Wd} {w : Wd} {n : Nat} (hn : n ≤ 6) (hw : ∀ v ∈ ws, Lw n v) (h : Lw n w) (hl : ws.length ≤ 5) (hk : mkB ws w = true) {x3 x4 x6 x10 x11 x12 x13 x14 x15 x16 : Sl} :
    sens (gm defs XF (k + 5)) XF K1 [.bo (.tuple (dL ws)), .bo (dW w), .bo (.int n), x3, x4, .mu false false (.lst (dL (waysW ws w))), x6, .fz (kpD ws w), .fz (.int (baseOf ws).length), .fz (.bool true), x10, x11, x12, x13, x14, x15, x16] =
      .ok .nx [.bo (.tuple (dL ws)), .bo (dW w), .bo (.int n), x3, x4, .mu false false (.lst (dL (waysW ws w))), x6, .fz (kpD ws w), .fz (.int (baseOf ws).length), .fz (.bool true), x10, x11, x12, x13, x14, x15, x16] := by
  obtain ⟨pl, ek, p1, p2⟩ := known_of hw h hl hk
  have aw : All ws := fun v hv => (hw v hv).1
  obtain ⟨w1, w2⟩ := ways_len aw (by omega) ((mk_iff aw h.1).mp hk)
  have m1 : pl ∈ waysW ws w := ways_mem.mpr ⟨p1, p2⟩
  have i3 : cop .NotIn (dW pl) (.list (dL (waysW ws w))) = some false := by
    show (inD (dW pl) (.list (dL (waysW ws w)))).map (!·) = _
    rw [in_l, decide_eq_true m1]
    rfl
  have e5 := c_size (gm defs XF (k + 4)) (ws.length - (baseOf ws).length) (by omega)
  rw [show ((ws.length - (baseOf ws).length : Nat) : Int) = (ws.length : Int) - ((baseOf ws).length : Int) by omega] at e5
  have w3 : ((waysW ws w).length : Int) = ((2 ^ (ws.length - (baseOf ws).length) : Nat) : Int) := by rw [w2]
  have q1 := q_int ((2 ^ (ws.length - (baseOf ws).length) : Nat) : Int)
  rw [ek]
  generalize ((2 ^ (ws.length - (baseOf ws).length) : Nat) : Int) = pw at *
  generalize waysW ws w = W1 at *
  generalize ((baseOf ws).length : Int) = r at *
  simp [a20, a21, e5, i3, w3, q1]
theorem k2_ok (k : Nat) {ws : List Wd} {w : Wd} {n : Nat} (hn : n ≤ 6) (hw : ∀ v ∈ ws, Lw n v) (h : Lw n w) (hl : ws.length ≤ 5) (hk : mkB ws w = true) {x3 x4 x6 x8 x9 x12 x13 x14 x16 : Sl} :
    ∃ e', sens (gm defs XF (k + 5)) XF K2 [.bo (.tuple (dL ws)), .bo (dW w), .bo (.int n), x3, x4, .mu false false (.lst (dL (waysW ws w))), x6, .fz (kpD ws w), x8, x9, .un, .un, x12, x13, x14, .un, x16] = .ok (.rt (.val (.bool true))) e' := by
  obtain ⟨pl, ek, p1, p2⟩ := known_of hw h hl hk
  have hW := lws_ws (m := n) (by omega) hw
  have m1 : pl ∈ waysW ws w := ways_mem.mpr ⟨p1, p2⟩
  obtain ⟨last, hz, hat⟩ := last_w (List.ne_nil_of_mem m1)
  obtain ⟨e', hr, y10, y11, rfl, n10, n11⟩ := fr_inv (turn := frTurn [10] false (sens (gm defs XF (k + 5)) XF KB1)) (ds := dL ((waysW ws w).take 4))
    (fun j e => ∃ y10 y11, e = [.bo (.tuple (dL ws)), .bo (dW w), .bo (.int n), x3, x4, .mu false false (.lst (dL (waysW ws w))), x6, .fz (kpD ws w), x8, x9, y10, y11, x12, x13, x14, .un, x16] ∧ nm y10 ∧ nm y11) (by
      rintro j d e hd ⟨y10, y11, rfl, m10, m11⟩
      obtain ⟨own, ho, rfl⟩ := mem_dL.mp (List.mem_of_getElem? hd)
      exact ⟨.nx, _, kb_turn k hW hl (lw5 hn h) (List.mem_of_mem_take ho) hz hat m10 m11, .inl rfl, _, _, rfl, nm_fz, nm_fz⟩)
    (e := [.bo (.tuple (dL ws)), .bo (dW w), .bo (.int n), x3, x4, .mu false false (.lst (dL (waysW ws w))), x6, .fz (kpD ws w), x8, x9, .un, .un, x12, x13, x14, .un, x16]) ⟨.un, .un, rfl, nm_un, nm_un⟩
  have hW2 : Ws (ws ++ [w]) := ws_app hW (ws_cons' (lw5 hn h) ws_nil')
  have p3 : Lw (ws ++ [w]).length pl := ⟨p1.1, fun i hi => by
    have := p1.2 i hi
    rw [List.length_append]
    simp
    omega⟩
  have p4 : okP (ws ++ [w]) w pl = true := by
    refine decide_eq_true (Eq.trans ?_ p2)
    unfold sumAt
    congr 1
    refine List.map_congr_left fun i hi => ?_
    have := p1.2 i hi
    unfold atP
    rw [List.getD, List.getD, List.getElem?_append_left (by omega)]
  have e6 := c_letK k hW2 (w := w) (by rw [List.length_append]; simp; omega) p3
  rw [if_pos p4] at e6
  have r1 : sop (.list (dL (waysW ws w))) none (some 4) = some (.fresh (.lst (dL ((waysW ws w).take 4)))) := by
    show some (R.fresh (.lst (cutD (dL (waysW ws w)) none (some ((4 : Nat) : Int))))) = _
    rw [cut_take, dL, dL, List.map_take]
  have r2 : bop .Add (.tuple (dL ws)) (.tuple [dW w]) = some (.val (.tuple (dL (ws ++ [w])))) := add_t (a := ws) (b := [w]) (by simp [big]; omega)
  have q1 : eqD (.str (T "known")) (.str (T "known")) = some true := by rfl
  refine ⟨[.bo (.tuple (dL ws)), .bo (dW w), .bo (.int n), x3, x4, .mu false false (.lst (dL (waysW ws w))), x6, .fz (kpD ws w), x8, x9, y10, y11, x12, x13, x14, .un, x16], ?_⟩
  rw [ek] at hr ⊢
  generalize hX : frTurn [10] false (sens (gm defs XF (k + 5)) XF KB1) = tX at hr
  generalize dL ((waysW ws w).take 4) = T4 at *
  generalize dL (waysW ws w) = W1 at *
  generalize dL (ws ++ [w]) = A at *
  simp [r1, r2, e6, q1, hX, hr]
end K10
set_option Elab.async false
set_option linter.all false
set_option maxRecDepth 100000
set_option maxHeartbeats 8000000
set_option exponentiation.threshold 9000
namespace K10
open Ev PySem Vs
/-! is_right: where the word isn't made -/
abbrev FC : ME := .cmp .Eq (.bin .Mod (.bif .len [.lc [("_law_m", 14)] [14] false (.var 16) (some (.cmp .In (.var 14) (.var 11))) (.var 14)]) (.con (.int 2))) (.con (.int 1))
abbrev FB1 : List MS := [.ite (.not (.cal "_law_turn_right" [.var 0, .var 1, .var 2, .var 10])) [.ret (.con (.bool false))] [], .asg 11 (.cal "sum_of" [.tup [.var 10, .idx (.var 6) (.neg (.con (.int 1)))]])]
abbrev FB2 : List MS := [.ite (.cmp .NotEq (.lc [("_law_one", 16)] [16] false (.fz (.bin .Add (.var 0) (.tup [.var 1]))) (some FC) (.var 16)) (.lst [])) [.ret (.con (.bool false))] []]
abbrev F1 : List MS := [.asg 12 (.bif .tuple [.lc [("_law_m", 14)] [14] false (.fz (.idx (.var 7) (.con (.int 1)))) (some (.cmp .Lt (.var 14) (.var 2))) (.var 14)])]
abbrev F2 : List MS := [.ite (.or (.cmp .NotEq (.bif .len [.var 6]) (.cal "_law_size" [.bin .Sub (.bin .Sub (.var 2) (.var 8)) (.con (.int 1))])) (.cmp .NotIn (.var 12) (.var 6))) [.ret (.con (.bool false))] []]
abbrev F3 : List MS := [.fr [10] false (.fz (.sli (.var 6) none (some (.con (.int 4))))) (FB1 ++ FB2),
    .ret (.cmp .Is (.cal "_law_let" [.bin .Add (.var 0) (.tup [.var 1]), .var 1, .var 7]) (.con .none))]
theorem free_of {ws : List Wd} {w : Wd} {n : Nat} (hw : ∀ v ∈ ws, Lw n v) (h : Lw n w) (hk : mkB ws w = false) :
    ∃ t, kpD ws w = .tuple [.str (T "free"), dW t] ∧ Lw n t ∧ okT ws w t = true := by
  have aw : All ws := fun v hv => (hw v hv).1
  have hn : red (baseOf ws) w ≠ [] := fun z => by
    unfold mkB at hk
    rw [z] at hk
    cases hk
  exact ⟨_, if_neg (by rw [hk]; decide), part_lw hw h hn, ok_iff.mpr (part_ok aw h.1 hn)⟩
theorem r3F (k : Nat) {ws : List Wd} {w : Wd} {n : Nat} (hn : n ≤ 6) (hw : ∀ v ∈ ws, Lw n v) (h : Lw n w) (hl : ws.length ≤ 5) (hk : mkB ws w = false) {x3 x4 x8 x10 x11 x12 x13 x14 x15 x16 : Sl} :
    sens (gm defs XF (k + 5)) XF R3 [.bo (.tuple (dL ws)), .bo (dW w), .bo (.int n), x3, x4, .mu false false (.lst (dL (waysW ws w))), .mu false false (.lst (dL (freesW n ws w))), .fz (kpD ws w), x8, .fz (.bool (mkB ws w)), x10, x11, x12, x13, x14, x15, x16] =
      .ok .nx [.bo (.tuple (dL ws)), .bo (dW w), .bo (.int n), x3, x4, .mu false false (.lst (dL (waysW ws w))), .mu false false (.lst (dL (freesW n ws w))), .fz (kpD ws w), x8, .fz (.bool (mkB ws w)), x10, x11, x12, x13, x14, x15, x16] := by
  obtain ⟨t, ek, p1, p2⟩ := free_of hw h hk
  have hW := lws_ws (m := n) (by omega) hw
  have e1 := c_letF k hW (lw5 hn h) (lw5 hn p1)
  rw [if_pos p2] at e1
  have m1 : t ∈ freesW n ws w := frees_mem.mpr ⟨p1, p2⟩
  have hpos : 0 < (freesW n ws w).length := List.length_pos_iff.mpr (List.ne_nil_of_mem m1)
  have ef : waysW ws w = [] := ways_none hW.all fun z => by
    rw [(mk_iff hW.all h.1).mpr z] at hk
    cases hk
  have i1 : bi .intB [.bool false] = some (.val (.int 0)) := rfl
  have q1 : eqD (.str (T "free")) (.str (T "free")) = some true := by rfl
  have q2 : eqD (.list [.bool false, .bool true]) (.list [.bool false, .bool true]) = some true := by decide +kernel
  rw [ek, hk, ef, show dL [] = ([] : List D) from rfl]
  generalize freesW n ws w = W1 at *
  simp [a20, a21, e1, i1, q1, q2, hpos]
theorem f1_ok (k : Nat) {L : List D} {w t : Wd} {n : Nat} (hn : n ≤ 6) (ht : Lw n t) {x3 x4 x5 x6 x8 x9 x10 x11 x12 x13 x15 x16 : Sl} (n12 : nm x12) {s : Str} :
    sens (gm defs XF (k + 5)) XF F1 [.bo (.tuple L), .bo (dW w), .bo (.int n), x3, x4, x5, x6, .fz (.tuple [.str s, dW t]), x8, x9, x10, x11, x12, x13, .un, x15, x16] =
      .ok .nx [.bo (.tuple L), .bo (dW w), .bo (.int n), x3, x4, x5, x6, .fz (.tuple [.str s, dW t]), x8, x9, x10, x11, .fz (dW t), x13, .un, x15, x16] := by
  have l1 : lcGo (lcTurn [14] [14] false (denT (gm defs XF (k + 5)) (some (.cmp .Lt (.var 14) (.var 2)))) (den (gm defs XF (k + 5)) (.var 14)).v) (t.map .int) [.bo (.tuple L), .bo (dW w), .bo (.int n), x3, x4, x5, x6, .fz (.tuple [.str s, dW t]), x8, x9, x10, x11, x12, x13, .un, x15, x16] =
      .ok (t.map .int) [.bo (.tuple L), .bo (dW w), .bo (.int n), x3, x4, x5, x6, .fz (.tuple [.str s, dW t]), x8, x9, x10, x11, x12, x13, .un, x15, x16] := by
    have e0 : t.map PyData.int = t.filterMap fun m => some (.int m) := (filterMap_some _ _).symm
    rw [e0]
    conv => lhs; rw [← e0]
    refine lc_pure (enc := PyData.int) fun m hm => ?_
    have c : m < n := (ht.2 m hm).2
    simp [c]
  have bl := own_len ht
  have b1 : t.length < big := by simp [big]; omega
  generalize hX : lcTurn [14] [14] false (denT (gm defs XF (k + 5)) (some (.cmp .Lt (.var 14) (.var 2)))) (den (gm defs XF (k + 5)) (.var 14)).v = tX at l1
  simp [a21, hX, it_w, l1, b1, nm_slP n12]
  rfl
theorem f2_ok (k : Nat) {ws : List Wd} {w t : Wd} {n : Nat} (hn : n ≤ 6) (hw : ∀ v ∈ ws, Lw n v) (h : Lw n w) (hl : ws.length ≤ 5) (hk : mkB ws w = false) (p1 : Lw n t) (p2 : okT ws w t = true) {x0 x1 x3 x4 x5 x7 x9 x10 x11 x13 x14 x15 x16 : Sl} :
    sens (gm defs XF (k + 5)) XF F2 [x0, x1, .bo (.int n), x3, x4, x5, .mu false false (.lst (dL (freesW n ws w))), x7, .fz (.int (baseOf ws).length), x9, x10, x11, .fz (dW t), x13, x14, x15, x16] =
      .ok .nx [x0, x1, .bo (.int n), x3, x4, x5, .mu false false (.lst (dL (freesW n ws w))), x7, .fz (.int (baseOf ws).length), x9, x10, x11, .fz (dW t), x13, x14, x15, x16] := by
  obtain ⟨w1, w2⟩ := frees_len hn hw h hk
  have m1 : t ∈ freesW n ws w := frees_mem.mpr ⟨p1, p2⟩
  have i3 : cop .NotIn (dW t) (.list (dL (freesW n ws w))) = some false := by
    show (inD (dW t) (.list (dL (freesW n ws w)))).map (!·) = _
    rw [in_l, decide_eq_true m1]
    rfl
  have e5 := c_size (gm defs XF (k + 4)) (n - (baseOf ws).length - 1) (by omega)
  rw [show ((n - (baseOf ws).length - 1 : Nat) : Int) = (n : Int) - ((baseOf ws).length : Int) - 1 by omega] at e5
  have w3 : ((freesW n ws w).length : Int) = ((2 ^ (n - (baseOf ws).length - 1) : Nat) : Int) := by rw [w2]
  have q1 := q_int ((2 ^ (n - (baseOf ws).length - 1) : Nat) : Int)
  generalize ((2 ^ (n - (baseOf ws).length - 1) : Nat) : Int) = pw at *
  generalize freesW n ws w = W1 at *
  generalize ((baseOf ws).length : Int) = r at *
  simp [e5, i3, w3, q1]
theorem fb_turn (k : Nat) {ws : List Wd} {w t last : Wd} {n : Nat} {Wy : List Wd} (hn : n ≤ 6) (hn3 : 3 ≤ n) (hw : ∀ v ∈ ws, Lw n v) (hl : ws.length ≤ 5) (h : Lw n w) (ho : t ∈ freesW n ws w) (hz : last ∈ freesW n ws w) (hat : L2.atI (dL Wy) (-1) = some (dW last))
    {x3 x4 x5 x7 x8 x9 x10 x11 x12 x13 x15 : Sl} (n10 : nm x10) (n11 : nm x11) :
    frTurn [10] false (sens (gm defs XF (k + 5)) XF (FB1 ++ FB2)) (dW t) [.bo (.tuple (dL ws)), .bo (dW w), .bo (.int n), x3, x4, x5, .mu false false (.lst (dL Wy)), x7, x8, x9, x10, x11, x12, x13, .un, x15, .un] =
      .ok .nx [.bo (.tuple (dL ws)), .bo (dW w), .bo (.int n), x3, x4, x5, .mu false false (.lst (dL Wy)), x7, x8, x9, .fz (dW t), .fz (dW (symI t last)), x12, x13, .un, x15, .un] := by
  obtain ⟨o1, o2⟩ := frees_mem.mp ho
  obtain ⟨z1, z2⟩ := frees_mem.mp hz
  obtain ⟨o3, o4⟩ := ok_iff.mp o2
  obtain ⟨z3, z4⟩ := ok_iff.mp z2
  have ko := lw5 hn o1
  have kz := lw5 hn z1
  have kb := ko.sum kz
  have hW := lws_ws (m := n) (by omega) hw
  have e1 : runD (gm defs XF (k + 4)) XF dsum_of [.tuple [dW t, dW last]] = .ret (dW (symI t last)) [] := by
    have := (c_sumof (k + 3) (ws := [t, last]) (ws_cons' ko (ws_cons' kz ws_nil'))).1
    rw [show sumW [t, last] = symI t last from by show symI (symI [] t) last = _; rw [nil_s ko.ris]] at this
    exact this
  have e2 := c_turn k (ws := ws) (w := w) (t := t) (n := n) (by omega) (by omega) hw h o1 (by omega) o3 o4
  have ev : ∀ v ∈ ws ++ [w], od v (symI t last) = false ∧ Wk v := fun v hv => by
    rcases List.mem_append.mp hv with y | y
    · exact ⟨by rw [od_sym2, o3 v y, z3 v y]; rfl, hW v y⟩
    · rw [List.mem_singleton.mp y]
      exact ⟨by rw [od_sym2, o4, z4]; rfl, lw5 hn h⟩
  have b0 : (ws ++ [w]).length < big := by rw [List.length_append]; simp [big]; omega
  have r2 : bop .Add (.tuple (dL ws)) (.tuple [dW w]) = some (.val (.tuple (dL (ws ++ [w])))) := add_t (a := ws) (b := [w]) (by simp [big]; omega)
  have g1 : sens (gm defs XF (k + 5)) XF FB1 [.bo (.tuple (dL ws)), .bo (dW w), .bo (.int n), x3, x4, x5, .mu false false (.lst (dL Wy)), x7, x8, x9, .fz (dW t), x11, x12, x13, .un, x15, .un] =
      .ok .nx [.bo (.tuple (dL ws)), .bo (dW w), .bo (.int n), x3, x4, x5, .mu false false (.lst (dL Wy)), x7, x8, x9, .fz (dW t), .fz (dW (symI t last)), x12, x13, .un, x15, .un] := by
    generalize dL Wy = Y at *
    simp [e1, e2, hat, nm_slP n11]
  have l2 : lcGo (lcTurn [16] [16] false (denT (gm defs XF (k + 5)) (some FC)) (den (gm defs XF (k + 5)) (.var 16)).v) (dL (ws ++ [w])) [.bo (.tuple (dL ws)), .bo (dW w), .bo (.int n), x3, x4, x5, .mu false false (.lst (dL Wy)), x7, x8, x9, .fz (dW t), .fz (dW (symI t last)), x12, x13, .un, x15, .un] =
      .ok [] [.bo (.tuple (dL ws)), .bo (dW w), .bo (.int n), x3, x4, x5, .mu false false (.lst (dL Wy)), x7, x8, x9, .fz (dW t), .fz (dW (symI t last)), x12, x13, .un, x15, .un] := by
    have e0 : ([] : List D) = (ws ++ [w]).filterMap fun _ => none := by simp
    rw [e0]
    refine lc_pure (enc := dW) fun v hv => ?_
    obtain ⟨v1, v2⟩ := ev v hv
    have l3 : lcGo (lcTurn [14] [14] false (denT (gm defs XF (k + 5)) (some (.cmp .In (.var 14) (.var 11)))) (den (gm defs XF (k + 5)) (.var 14)).v) (v.map .int) [.bo (.tuple (dL ws)), .bo (dW w), .bo (.int n), x3, x4, x5, .mu false false (.lst (dL Wy)), x7, x8, x9, .fz (dW t), .fz (dW (symI t last)), x12, x13, .un, x15, .fz (dW v)] =
        .ok ((v.filter fun k => decide (k ∈ symI t last)).map .int) [.bo (.tuple (dL ws)), .bo (dW w), .bo (.int n), x3, x4, x5, .mu false false (.lst (dL Wy)), x7, x8, x9, .fz (dW t), .fz (dW (symI t last)), x12, x13, .un, x15, .fz (dW v)] := by
      rw [← filterMap_if]
      refine lc_pure (enc := PyData.int) fun j hj => ?_
      have i2 : cop .In (.int j) (dW (symI t last)) = some (decide (j ∈ symI t last)) := in_w _ _
      generalize dW (symI t last) = S at *
      by_cases c : j ∈ symI t last <;> simp [i2, c]
    have bl := v2.len
    have b1 : v.length < big := by simp [big]; omega
    have m3 := o_mod (a := (((v.filter fun k => decide (k ∈ symI t last)).map PyData.int).length : Int)) (b := 2) (by decide)
    have m4 : eqD (.int ((((v.filter fun k => decide (k ∈ symI t last)).map PyData.int).length : Int) % 2)) (.int 1) = some false := by
      rw [eq_of rfl rfl, eqv_int, List.length_map, ← v1]
      unfold od
      exact congrArg some (decide_eq_decide.mpr (by omega))
    generalize hX : lcTurn [14] [14] false (denT (gm defs XF (k + 5)) (some (.cmp .In (.var 14) (.var 11)))) (den (gm defs XF (k + 5)) (.var 14)).v = tX at l3
    generalize (v.filter fun k => decide (k ∈ symI t last)).map PyData.int = VV at *
    generalize (VV.length : Int) % 2 = z at *
    generalize dW (symI t last) = S at *
    generalize dL Wy = Y at *
    simp [hX, it_w, l3, b1, m3, m4]
  have g2 : sens (gm defs XF (k + 5)) XF FB2 [.bo (.tuple (dL ws)), .bo (dW w), .bo (.int n), x3, x4, x5, .mu false false (.lst (dL Wy)), x7, x8, x9, .fz (dW t), .fz (dW (symI t last)), x12, x13, .un, x15, .un] =
      .ok .nx [.bo (.tuple (dL ws)), .bo (dW w), .bo (.int n), x3, x4, x5, .mu false false (.lst (dL Wy)), x7, x8, x9, .fz (dW t), .fz (dW (symI t last)), x12, x13, .un, x15, .un] := by
    have q0 : eqD (.list []) (.list []) = some true := by rfl
    generalize hY : lcTurn [16] [16] false (denT (gm defs XF (k + 5)) (some FC)) (den (gm defs XF (k + 5)) (.var 16)).v = tY at l2
    generalize dW (symI t last) = S at *
    generalize dL Wy = Y at *
    generalize ws ++ [w] = A at *
    simp [r2, hY, l2, b0, q0]
  have z0 : frTurn [10] false (sens (gm defs XF (k + 5)) XF (FB1 ++ FB2)) (dW t) [.bo (.tuple (dL ws)), .bo (dW w), .bo (.int n), x3, x4, x5, .mu false false (.lst (dL Wy)), x7, x8, x9, x10, x11, x12, x13, .un, x15, .un] =
      sens (gm defs XF (k + 5)) XF (FB1 ++ FB2) [.bo (.tuple (dL ws)), .bo (dW w), .bo (.int n), x3, x4, x5, .mu false false (.lst (dL Wy)), x7, x8, x9, .fz (dW t), x11, x12, x13, .un, x15, .un] := by
    generalize FB1 ++ FB2 = B
    simp [nm_slP n10]
  rw [z0, sens_app g1, g2]
theorem f3_ok (k : Nat) {ws : List Wd} {w t : Wd} {n : Nat} (hn : n ≤ 6) (hn3 : 3 ≤ n) (hw : ∀ v ∈ ws, Lw n v) (h : Lw n w) (hl : ws.length ≤ 5) (p1 : Lw n t) (p2 : okT ws w t = true) {x3 x4 x5 x8 x9 x12 x13 x15 : Sl} :
    ∃ e', sens (gm defs XF (k + 5)) XF F3 [.bo (.tuple (dL ws)), .bo (dW w), .bo (.int n), x3, x4, x5, .mu false false (.lst (dL (freesW n ws w))), .fz (.tuple [.str (T "free"), dW t]), x8, x9, .un, .un, x12, x13, .un, x15, .un] = .ok (.rt (.val (.bool true))) e' := by
  have hW := lws_ws (m := n) (by omega) hw
  have m1 : t ∈ freesW n ws w := frees_mem.mpr ⟨p1, p2⟩
  obtain ⟨last, hz, hat⟩ := last_w (List.ne_nil_of_mem m1)
  obtain ⟨e', hr, y10, y11, rfl, n10, n11⟩ := fr_inv (turn := frTurn [10] false (sens (gm defs XF (k + 5)) XF (FB1 ++ FB2))) (ds := dL ((freesW n ws w).take 4))
    (fun j e => ∃ y10 y11, e = [.bo (.tuple (dL ws)), .bo (dW w), .bo (.int n), x3, x4, x5, .mu false false (.lst (dL (freesW n ws w))), .fz (.tuple [.str (T "free"), dW t]), x8, x9, y10, y11, x12, x13, .un, x15, .un] ∧ nm y10 ∧ nm y11) (by
      rintro j d e hd ⟨y10, y11, rfl, m10, m11⟩
      obtain ⟨own, ho, rfl⟩ := mem_dL.mp (List.mem_of_getElem? hd)
      exact ⟨.nx, _, fb_turn k hn hn3 hw hl h (List.mem_of_mem_take ho) hz hat m10 m11, .inl rfl, _, _, rfl, nm_fz, nm_fz⟩)
    (e := [.bo (.tuple (dL ws)), .bo (dW w), .bo (.int n), x3, x4, x5, .mu false false (.lst (dL (freesW n ws w))), .fz (.tuple [.str (T "free"), dW t]), x8, x9, .un, .un, x12, x13, .un, x15, .un]) ⟨.un, .un, rfl, nm_un, nm_un⟩
  have hW2 : Ws (ws ++ [w]) := ws_app hW (ws_cons' (lw5 hn h) ws_nil')
  have p4 : okT (ws ++ [w]) w t = false := by
    have := (ok_iff.mp p2).2
    unfold okT
    rw [List.all_append]
    simp [this]
  have e6 := c_letF k hW2 (lw5 hn h) (lw5 hn p1)
  rw [p4] at e6
  have e6 : runD (gm defs XF (k + 4)) XF d_law_let [.tuple (dL (ws ++ [w])), dW w, .tuple [.str (T "free"), dW t]] = .ret .none [] := e6
  have r1 : sop (.list (dL (freesW n ws w))) none (some 4) = some (.fresh (.lst (dL ((freesW n ws w).take 4)))) := by
    show some (R.fresh (.lst (cutD (dL (freesW n ws w)) none (some ((4 : Nat) : Int))))) = _
    rw [cut_take, dL, dL, List.map_take]
  have r2 : bop .Add (.tuple (dL ws)) (.tuple [dW w]) = some (.val (.tuple (dL (ws ++ [w])))) := add_t (a := ws) (b := [w]) (by simp [big]; omega)
  have i1 : cop .Is .none .none = some true := rfl
  refine ⟨[.bo (.tuple (dL ws)), .bo (dW w), .bo (.int n), x3, x4, x5, .mu false false (.lst (dL (freesW n ws w))), .fz (.tuple [.str (T "free"), dW t]), x8, x9, y10, y11, x12, x13, .un, x15, .un], ?_⟩
  generalize hX : frTurn [10] false (sens (gm defs XF (k + 5)) XF (FB1 ++ FB2)) = tX at hr
  have hX' : frTurn [10] false (sens (gm defs XF (k + 5)) XF [.ite (.not (.cal "_law_turn_right" [.var 0, .var 1, .var 2, .var 10])) [.ret (.con (.bool false))] [], .asg 11 (.cal "sum_of" [.tup [.var 10, .idx (.var 6) (.neg (.con (.int 1)))]]), .ite (.cmp .NotEq (.lc [("_law_one", 16)] [16] false (.fz (.bin .Add (.var 0) (.tup [.var 1]))) (some FC) (.var 16)) (.lst [])) [.ret (.con (.bool false))] []]) = tX := hX
  generalize dL ((freesW n ws w).take 4) = T4 at *
  generalize dL (freesW n ws w) = W1 at *
  generalize dL (ws ++ [w]) = A at *
  simp [r1, r2, e6, i1, hX', hr]
end K10
set_option Elab.async false
set_option linter.all false
set_option maxRecDepth 100000
set_option maxHeartbeats 8000000
set_option exponentiation.threshold 9000
namespace K10
open Ev PySem Vs
theorem ite9F (G : Gm) {Y B : List MS} {x0 x1 x2 x3 x4 x5 x6 x7 x8 x10 x11 x12 x13 x14 x15 x16 : Sl} : sens G XF (.ite (.var 9) Y [] :: B) [x0, x1, x2, x3, x4, x5, x6, x7, x8, .fz (.bool false), x10, x11, x12, x13, x14, x15, x16] = sens G XF B [x0, x1, x2, x3, x4, x5, x6, x7, x8, .fz (.bool false), x10, x11, x12, x13, x14, x15, x16] := by simp
theorem ite9T (G : Gm) {Y B : List MS} {x0 x1 x2 x3 x4 x5 x6 x7 x8 x10 x11 x12 x13 x14 x15 x16 : Sl} {r : R} {e' : Ev.Env} (h : sens G XF Y [x0, x1, x2, x3, x4, x5, x6, x7, x8, .fz (.bool true), x10, x11, x12, x13, x14, x15, x16] = .ok (.rt r) e') :
    sens G XF (.ite (.var 9) Y [] :: B) [x0, x1, x2, x3, x4, x5, x6, x7, x8, .fz (.bool true), x10, x11, x12, x13, x14, x15, x16] = .ok (.rt r) e' := by simp [h]
theorem c_right (k : Nat) {ws : List Wd} {w : Wd} {n : Nat} (hn : n ≤ 6) (hn3 : 3 ≤ n) (hw : ∀ v ∈ ws, Lw n v) (h : Lw n w) (hl : ws.length ≤ 5) : runD (gm defs XF (k + 5)) XF d_law_is_right [.tuple (dL ws), dW w, .int n] = .ret (.bool true) [] := by
  rw [z_run (e0 := [.bo (.tuple (dL ws)), .bo (dW w), .bo (.int n)]) rfl]
  have hb : d_law_is_right.body = R1 ++ (R2 ++ (R3 ++ (.ite (.var 9) (K1 ++ K2) [] :: (F1 ++ (F2 ++ F3))))) := rfl
  have hm : d_law_is_right.mo = [.b, .b, .b] := rfl
  have hN : d_law_is_right.N.length = 17 := rfl
  have main : ∃ e', sens (gm defs XF (k + 5)) XF (R1 ++ (R2 ++ (R3 ++ (.ite (.var 9) (K1 ++ K2) [] :: (F1 ++ (F2 ++ F3)))))) [.bo (.tuple (dL ws)), .bo (dW w), .bo (.int n), .un, .un, .un, .un, .un, .un, .un, .un, .un, .un, .un, .un, .un, .un] = .ok (.rt (.val (.bool true))) e' := by
    rw [sens_app (r1_ok k hn hl), sens_app (r2_ok k hn hw h hl)]
    by_cases hk : mkB ws w = true
    · rw [sens_app (r3K k hn hw h hl hk), hk]
      obtain ⟨e', q⟩ := k2_ok k hn hw h hl hk (x3 := .fz (.tuple (dL (turnsW ws.length)))) (x4 := .fz (.tuple (dL (turnsW n)))) (x6 := .mu false false (.lst (dL (freesW n ws w)))) (x8 := .fz (.int (baseOf ws).length)) (x9 := .fz (.bool true)) (x12 := .un) (x13 := .un) (x14 := .un) (x16 := .un)
      exact ⟨e', ite9T _ ((sens_app (k1_ok k hn hw h hl hk)).trans q)⟩
    · have hk : mkB ws w = false := by cases hq : mkB ws w <;> first | rfl | exact absurd hq hk
      obtain ⟨t, ek, p1, p2⟩ := free_of hw h hk
      obtain ⟨e', q⟩ := f3_ok k hn hn3 hw h hl p1 p2 (x3 := .fz (.tuple (dL (turnsW ws.length)))) (x4 := .fz (.tuple (dL (turnsW n)))) (x5 := .mu false false (.lst (dL (waysW ws w)))) (x8 := .fz (.int (baseOf ws).length)) (x9 := .fz (.bool false)) (x12 := .fz (dW t)) (x13 := .un) (x15 := .un)
      rw [sens_app (r3F k hn hw h hl hk), hk, ite9F, ek, sens_app (f1_ok k hn p1 nm_un), sens_app (f2_ok k hn hw h hl hk p1 p2)]
      exact ⟨e', q⟩
  obtain ⟨e', q⟩ := main
  rw [hb, hm, hN]
  generalize R1 ++ (R2 ++ (R3 ++ (.ite (.var 9) (K1 ++ K2) [] :: (F1 ++ (F2 ++ F3))))) = B at q
  have q' : sens (gm defs XF (k + 5)) XF B ([Sl.bo (.tuple (dL ws)), Sl.bo (dW w), Sl.bo (.int n)] ++ List.replicate (17 - [Sl.bo (.tuple (dL ws)), Sl.bo (dW w), Sl.bo (.int n)].length) Sl.un) = .ok (.rt (.val (.bool true))) e' := q
  rw [q']
  rfl
noncomputable abbrev g6 : Gm := gm defs XF 6
def fullW (m : Nat) : Wd := (List.range m).map fun (k : Nat) => (k : Int)
theorem full_d (m : Nat) : PyData.tuple (rngD 0 m) = dW (fullW m) := by
  show _ = PyData.tuple ((fullW m).map .int)
  congr 1
  unfold rngD fullW
  rw [List.map_map]
  refine List.map_congr_left fun k _ => ?_
  show PyData.int (0 + (k : Int)) = .int (k : Int)
  rw [Int.zero_add]
theorem full_lw (m : Nat) : Lw m (fullW m) := by
  refine ⟨?_, fun k hk => ?_⟩
  · unfold fullW
    rw [Rs, List.pairwise_map]
    exact List.pairwise_lt_range.imp fun h => by omega
  · obtain ⟨j, hj, rfl⟩ := List.mem_map.mp hk
    have := List.mem_range.mp hj
    omega
theorem sum_lw {m : Nat} {ws : List Wd} (hw : ∀ v ∈ ws, Lw m v) : Lw m (sumW ws) := by
  have h : Sp ws (sumW ws) := sumsW_sp (S := ws) (vs := ws) (fun v hv => .own hv (hw v hv).1) .zero
  exact ⟨h.ris, sp_let (p := fun k => 0 ≤ k ∧ k < m) (fun v hv => (hw v hv).2) h⟩
abbrev inB : List MS := [.ite (.not (.cal "_law_is_right" [.var 4, .var 5, .var 3])) [.ret (.con (.bool false))] []]
theorem in_go {ws : List Wd} {m : Nat} (hm : m ≤ 6) (hm3 : 3 ≤ m) (hw : ∀ v ∈ ws, Lw m v) (hl : ws.length ≤ 5) {x0 x1 x2 x6 : Sl} : ∀ {W : List Wd} {x5 : Sl}, (∀ v ∈ W, Lw m v) → nm x5 →
    ∃ y5, nm y5 ∧ frGo (frTurn [5] false (sens g6 XF inB)) (dL W) [x0, x1, x2, .fz (.int m), .fz (.tuple (dL ws)), x5, x6] = .ok .nx [x0, x1, x2, .fz (.int m), .fz (.tuple (dL ws)), y5, x6]
  | [], x5, _, n5 => ⟨x5, n5, rfl⟩
  | v :: W, x5, hW, n5 => by
    have e1 := c_right 0 hm hm3 hw (hW v List.mem_cons_self) hl
    have e1 : runD (gm defs XF 5) XF d_law_is_right [.tuple (dL ws), dW v, .int m] = .ret (.bool true) [] := e1
    obtain ⟨y5, m5, q⟩ := in_go hm hm3 hw hl (x0 := x0) (x1 := x1) (x2 := x2) (x6 := x6) (W := W) (x5 := .fz (dW v)) (fun u hu => hW u (List.mem_cons_of_mem _ hu)) nm_fz
    refine ⟨y5, m5, ?_⟩
    have h1 : frTurn [5] false (sens g6 XF inB) (dW v) [x0, x1, x2, .fz (.int m), .fz (.tuple (dL ws)), x5, x6] = .ok .nx [x0, x1, x2, .fz (.int m), .fz (.tuple (dL ws)), .fz (dW v), x6] := by
      simp [e1, nm_slP n5]
    show frGo _ (dW v :: dL W) _ = _
    unfold frGo
    rw [h1, bind_ok]
    exact q
abbrev mnB : List MS := [.asg 3 (.bin .Add (.con (.int 3)) (.cal "_law_draw" [.var 1, .con (.int 4)])), .asg 4 (.cal "_law_lot" [.var 1, .var 3, .con (.int 5)]),
    .fr [5] false (.fz (.bin .Add (.lc [("_law_k", 6)] [6] false (.rg1 (.con (.int 3))) none (.cal "_law_word" [.var 1, .var 3])) (.lst [.tup [], .cal "sum_of" [.var 4], .rt1 false (.var 3)]))) inB]
theorem mn_turn {ns : List Int} {n : Nat} {F : C} (hF : Fd ns n F) (hn : n < 2 ^ 20) {x0 x2 x3 x4 x5 : Sl} {d : D} (n2 : nm x2) (n3 : nm x3) (n4 : nm x4) (n5 : nm x5) :
    ∃ F' y3 y4 y5, Fd ns (n + 1000) F' ∧ nm y3 ∧ nm y4 ∧ nm y5 ∧
      frTurn [2] false (sens g6 XF mnB) d [x0, .mu false false F, x2, x3, x4, x5, .un] = .ok .nx [x0, .mu false false F', .fz d, y3, y4, y5, .un] := by
  obtain ⟨v, F1, e1, v0, v1, h1⟩ := c_draw (gm defs XF 5) hF (by omega) (m := 4) (by decide) (by decide)
  obtain ⟨m, hm⟩ : ∃ m : Nat, 3 + v = (m : Int) := ⟨(3 + v).toNat, by omega⟩
  have hm6 : m ≤ 6 := by omega
  have hm3 : 3 ≤ m := by omega
  obtain ⟨ws, F2, e2, h2, hw, hl⟩ := c_lot 3 h1 (by omega) (m := m) (by omega) (t := 5) (by decide)
  have e2 : runD (gm defs XF 5) XF d_law_lot [F1.d, .int m, .int 5] = .ret (.tuple (dL ws)) [F2] := e2
  have lc := lc_inv (turn := lcTurn [6] [6] false (denT g6 none) (den g6 (.cal "_law_word" [.var 1, .var 3])).v) (ds := rngD 0 3)
    (fun j e acc => ∃ F' W, e = [x0, .mu false false F', .fz d, .fz (.int m), .fz (.tuple (dL ws)), x5, .un] ∧ Fd ns (n + 401 + 13 * j) F' ∧ acc = dL W ∧ (∀ v ∈ W, Lw m v)  ∧ W.length ≤ j) (by
      rintro j d2 e acc hd ⟨F', W, rfl, hF', rfl, hW, hWl⟩
      have hj : j < 3 := by
        apply Classical.byContradiction
        intro z
        rw [List.getElem?_eq_none (by simp [rngD]; omega)] at hd
        cases hd
      obtain ⟨w, F3, q1, q2, q3, q4⟩ := c_word 4 hF' (by omega) (m := m) (by omega)
      have q1 : runD (gm defs XF 5) XF d_law_word [F'.d, .int m] = .ret (dW w) [F3] := q1
      refine ⟨some (dW w), [x0, .mu false false F3, .fz d, .fz (.int m), .fz (.tuple (dL ws)), x5, .un], ?_, F3, W ++ [w], rfl, q2.mono (by omega), ?_, ?_, ?_⟩
      · simp [q1]
      · rw [dL_app]; rfl
      · intro x hx
        rcases List.mem_append.mp hx with y | y
        · exact hW x y
        · rw [List.mem_singleton.mp y]
          exact ⟨q3.ris, q4⟩
      · rw [List.length_append]
        simp
        omega)
    (e := [x0, .mu false false F2, .fz d, .fz (.int m), .fz (.tuple (dL ws)), x5, .un]) (acc := []) ⟨F2, [], rfl, h2.mono (by omega), rfl, fun _ z => absurd z List.not_mem_nil, by simp⟩
  obtain ⟨r, e', hr, F3, W, rfl, hF3, hacc, hW, hWl⟩ := lc
  rw [List.nil_append] at hacc
  subst hacc
  have hlen : (rngD 0 3).length = 3 := by simp [rngD]
  rw [hlen] at hF3 hWl
  have hws := lws_ws (m := m) (by omega) hw
  have e3 : runD (gm defs XF 5) XF dsum_of [.tuple (dL ws)] = .ret (dW (sumW ws)) [] := (c_sumof 4 hws).1
  have e4 : rtR false (.int 0) (.int m) = some (.val (dW (fullW m))) := by
    rw [o_rtT (n := m) (by omega) (by omega) (by omega) (by omega) (by omega) (by omega), full_d]
  have e5 : bop .Add (.list (dL W)) (.list [.tuple [], dW (sumW ws), dW (fullW m)]) = some (.fresh (.lst (dL (W ++ [[], sumW ws, fullW m])))) := add_l (a := W) (b := [[], sumW ws, fullW m]) (by simp [big]; omega)
  have hW2 : ∀ v ∈ W ++ [[], sumW ws, fullW m], Lw m v := fun v hv => by
    rcases List.mem_append.mp hv with y | y
    · exact hW v y
    · simp only [List.mem_cons, List.not_mem_nil, or_false] at y
      rcases y with rfl | rfl | rfl
      · exact ⟨r_nil, fun _ z => absurd z List.not_mem_nil⟩
      · exact sum_lw hw
      · exact full_lw m
  obtain ⟨y5, m5, q⟩ := in_go hm6 hm3 hw hl (x0 := x0) (x1 := .mu false false F3) (x2 := .fz d) (x6 := .un) (W := W ++ [[], sumW ws, fullW m]) (x5 := x5) hW2 n5
  refine ⟨F3, .fz (.int m), .fz (.tuple (dL ws)), y5, hF3.mono (by omega), nm_fz, nm_fz, m5, ?_⟩
  have b1 : -(big : Int) ≤ 3 ∧ (3 : Int) ≤ big := by decide
  have t3 : (3 : Int).toNat = 3 := rfl
  generalize hX : lcTurn [6] [6] false (denT g6 none) (den g6 (.cal "_law_word" [.var 1, .var 3])).v = tX at hr
  generalize hY : frTurn [5] false (sens g6 XF inB) = tY at q
  have b2 : 3 < big := by decide
  generalize hZ : dL (W ++ [[], sumW ws, fullW m]) = Z at *
  generalize dL W = L1 at *
  generalize dW (sumW ws) = S at *
  generalize dW (fullW m) = S2 at *
  simp [e1, hm, e2, hX, hr, b1, b2, t3, hlen, e3, e4, e5, hY, q, nm_slP n2, nm_slP n3, nm_slP n4]
theorem law_t (ns : List Int) (h : ns.length ≤ 63) : runD g6 XF dlaw [.list (ns.map .int)] = .ret (.bool true) [] := by
  rw [z_run (e0 := [.bo (.list (ns.map .int))]) rfl]
  have a1 := c_feed (gm defs XF 5) ns h
  have hF : Fd ns 0 (FS ns 0 0 0) := ⟨0, 0, 0, rfl, by omega, by omega, by omega, by omega⟩
  generalize FS ns 0 0 0 = F at a1 hF
  obtain ⟨e', lp, _⟩ := fr_inv (turn := frTurn [2] false (sens g6 XF mnB)) (ds := rngD 0 4)
    (fun j e => ∃ F' y2 y3 y4 y5, Fd ns (1000 * j) F' ∧ nm y2 ∧ nm y3 ∧ nm y4 ∧ nm y5 ∧ e = [.bo (.list (ns.map .int)), .mu false false F', y2, y3, y4, y5, .un]) (by
      rintro j d e hd ⟨F', y2, y3, y4, y5, hF', n2, n3, n4, n5, rfl⟩
      have hj : j < 4 := by
        apply Classical.byContradiction
        intro z
        rw [List.getElem?_eq_none (by simp [rngD]; omega)] at hd
        cases hd
      obtain ⟨F2, z3, z4, z5, h2, m3, m4, m5, e2⟩ := mn_turn hF' (by omega) (x0 := .bo (.list (ns.map .int))) (d := d) n2 n3 n4 n5
      exact ⟨.nx, _, e2, .inl rfl, F2, .fz d, z3, z4, z5, h2.mono (by omega), nm_fz, m3, m4, m5, rfl⟩)
    (e := [.bo (.list (ns.map .int)), .mu false false F, .un, .un, .un, .un, .un]) ⟨F, .un, .un, .un, .un, hF, nm_un, nm_un, nm_un, nm_un, rfl⟩
  have t5 : (4 : Int).toNat = 4 := rfl
  have g5' : -(big : Int) ≤ 4 ∧ (4 : Int) ≤ big := by decide
  have hb : dlaw.body = [.asg 1 (.cal "_law_feed" [.var 0]), .fr [2] false (.rg1 (.con (.int 4))) mnB, .ret (.con (.bool true))] := rfl
  have hm : dlaw.mo = [.b] := rfl
  have hN : dlaw.N.length = 7 := rfl
  generalize mnB = B at hb lp
  rw [hb, hm, hN]
  generalize hX : frTurn [2] false (sens g6 XF B) = tX at lp
  simp [a1, t5, g5', hX, lp]
end K10
set_option Elab.async false
set_option linter.all false
set_option maxRecDepth 100000
set_option maxHeartbeats 4000000
namespace K10
open Ev PySem PySem.Spec PyProof.Rows L2
theorem kb_no {K : PySem.W.Frag} {f : String} {fd : FuncData} {ps : List Str} (h : (KB.all fun q => q.1 != f) = true) : KbOk K KB f fd ps := by
  intro q hq hf
  have := List.all_eq_true.mp h q hq
  simp [hf] at this
theorem tb_mk {P : Program} {w : World} {K : PySem.W.Frag} {h : Heap} {mg : Str → Option Value} (X : K.In h) (G : h.Ns mainGlobals mg)
    {f1 f2 f3 f4 f5 f6 f7 f8 f9 f10 f11 f12 f13 f14 f15 f16 f17 f18 f19 f20 f21 f22 f23 f24 f25 f26 f27 f28 f29 f30 f31 : Addr} {od1 an1 od2 an2 od3 an3 od4 an4 od5 an5 od6 an6 od7 an7 od8 an8 od9 an9 od10 an10 od11 an11 od12 an12 od13 an13 od14 an14 od15 an15 od16 an16 od17 an17 od18 an18 od19 an19 od20 an20 od21 an21 od22 an22 od23 an23 od24 an24 od25 an25 od26 an26 od27 an27 od28 an28 od29 an29 od30 an30 od31 an31 : Option Addr} {sl1 sl2 sl3 sl4 sl5 sl6 sl7 sl8 sl9 sl10 sl11 sl12 sl13 sl14 sl15 sl16 sl17 sl18 sl19 sl20 sl21 sl22 sl23 sl24 sl25 sl26 sl27 sl28 sl29 sl30 sl31 : Array (Option Value)}
    {oc1 kV1 dc1 pm1 cd1 ct1 oc2 kV2 dc2 pm2 cd2 ct2 oc3 kV3 dc3 pm3 cd3 ct3 oc4 kV4 dc4 pm4 cd4 ct4 oc5 kV5 dc5 pm5 cd5 ct5 oc6 kV6 dc6 pm6 cd6 ct6 oc7 kV7 dc7 pm7 cd7 ct7 oc8 kV8 dc8 pm8 cd8 ct8 oc9 kV9 dc9 pm9 cd9 ct9 oc10 kV10 dc10 pm10 cd10 ct10 oc11 kV11 dc11 pm11 cd11 ct11 oc12 kV12 dc12 pm12 cd12 ct12 oc13 kV13 dc13 pm13 cd13 ct13 oc14 kV14 dc14 pm14 cd14 ct14 oc15 kV15 dc15 pm15 cd15 ct15 oc16 kV16 dc16 pm16 cd16 ct16 oc17 kV17 dc17 pm17 cd17 ct17 oc18 kV18 dc18 pm18 cd18 ct18 oc19 kV19 dc19 pm19 cd19 ct19 oc20 dc20 pm20 cd20 ct20 oc21 kV21 dc21 pm21 cd21 ct21 oc22 kV22 dc22 pm22 cd22 ct22 oc23 kV23 dc23 pm23 cd23 ct23 oc24 kV24 dc24 pm24 cd24 ct24 oc25 kV25 dc25 pm25 cd25 ct25 oc26 kV26 dc26 pm26 cd26 ct26 oc27 kV27 dc27 pm27 cd27 ct27 oc28 kV28 dc28 pm28 cd28 ct28 oc29 kV29 dc29 pm29 cd29 ct29 oc30 kV30 dc30 pm30 cd30 ct30 oc31 kV31 dc31 pm31 cd31 ct31 : Value}
    {dD20 : Addr}
    (a1 : PySem.W.nsIn K mainGlobals "sum_two" = some (some (.ref f1))) (l1 : K.lookup f1 = some ⟨oc1, od1, .func (PySem.W.fnOf "sum_two" "sum_two" (defArgs (top 7)) (defBody (top 7)) (defScope (top 7)) .none kV1 dc1 pm1 an1 cd1 ct1), sl1⟩)
    (c1 : PySem.W.codeIn K cd1 "sum_two" = true) (k1 : PySem.W.keepIn K (.ref f1) = true)
    (a2 : PySem.W.nsIn K mainGlobals "sum_of" = some (some (.ref f2))) (l2 : K.lookup f2 = some ⟨oc2, od2, .func (PySem.W.fnOf "sum_of" "sum_of" (defArgs (top 8)) (defBody (top 8)) (defScope (top 8)) .none kV2 dc2 pm2 an2 cd2 ct2), sl2⟩)
    (c2 : PySem.W.codeIn K cd2 "sum_of" = true) (k2 : PySem.W.keepIn K (.ref f2) = true)
    (a3 : PySem.W.nsIn K mainGlobals "sign_of" = some (some (.ref f3))) (l3 : K.lookup f3 = some ⟨oc3, od3, .func (PySem.W.fnOf "sign_of" "sign_of" (defArgs (top 9)) (defBody (top 9)) (defScope (top 9)) .none kV3 dc3 pm3 an3 cd3 ct3), sl3⟩)
    (c3 : PySem.W.codeIn K cd3 "sign_of" = true) (k3 : PySem.W.keepIn K (.ref f3) = true)
    (a4 : PySem.W.nsIn K mainGlobals "reduced" = some (some (.ref f4))) (l4 : K.lookup f4 = some ⟨oc4, od4, .func (PySem.W.fnOf "reduced" "reduced" (defArgs (top 11)) (defBody (top 11)) (defScope (top 11)) .none kV4 dc4 pm4 an4 cd4 ct4), sl4⟩)
    (c4 : PySem.W.codeIn K cd4 "reduced" = true) (k4 : PySem.W.keepIn K (.ref f4) = true)
    (a5 : PySem.W.nsIn K mainGlobals "base_of" = some (some (.ref f5))) (l5 : K.lookup f5 = some ⟨oc5, od5, .func (PySem.W.fnOf "base_of" "base_of" (defArgs (top 12)) (defBody (top 12)) (defScope (top 12)) .none kV5 dc5 pm5 an5 cd5 ct5), sl5⟩)
    (c5 : PySem.W.codeIn K cd5 "base_of" = true) (k5 : PySem.W.keepIn K (.ref f5) = true)
    (a6 : PySem.W.nsIn K mainGlobals "makes" = some (some (.ref f6))) (l6 : K.lookup f6 = some ⟨oc6, od6, .func (PySem.W.fnOf "makes" "makes" (defArgs (top 13)) (defBody (top 13)) (defScope (top 13)) .none kV6 dc6 pm6 an6 cd6 ct6), sl6⟩)
    (c6 : PySem.W.codeIn K cd6 "makes" = true) (k6 : PySem.W.keepIn K (.ref f6) = true)
    (a7 : PySem.W.nsIn K mainGlobals "led_back" = some (some (.ref f7))) (l7 : K.lookup f7 = some ⟨oc7, od7, .func (PySem.W.fnOf "led_back" "led_back" (defArgs (top 15)) (defBody (top 15)) (defScope (top 15)) .none kV7 dc7 pm7 an7 cd7 ct7), sl7⟩)
    (c7 : PySem.W.codeIn K cd7 "led_back" = true) (k7 : PySem.W.keepIn K (.ref f7) = true)
    (a8 : PySem.W.nsIn K mainGlobals "with_traced" = some (some (.ref f8))) (l8 : K.lookup f8 = some ⟨oc8, od8, .func (PySem.W.fnOf "with_traced" "with_traced" (defArgs (top 16)) (defBody (top 16)) (defScope (top 16)) .none kV8 dc8 pm8 an8 cd8 ct8), sl8⟩)
    (c8 : PySem.W.codeIn K cd8 "with_traced" = true) (k8 : PySem.W.keepIn K (.ref f8) = true)
    (a9 : PySem.W.nsIn K mainGlobals "parting_turn" = some (some (.ref f9))) (l9 : K.lookup f9 = some ⟨oc9, od9, .func (PySem.W.fnOf "parting_turn" "parting_turn" (defArgs (top 18)) (defBody (top 18)) (defScope (top 18)) .none kV9 dc9 pm9 an9 cd9 ct9), sl9⟩)
    (c9 : PySem.W.codeIn K cd9 "parting_turn" = true) (k9 : PySem.W.keepIn K (.ref f9) = true)
    (a10 : PySem.W.nsIn K mainGlobals "known_paper" = some (some (.ref f10))) (l10 : K.lookup f10 = some ⟨oc10, od10, .func (PySem.W.fnOf "known_paper" "known_paper" (defArgs (top 19)) (defBody (top 19)) (defScope (top 19)) .none kV10 dc10 pm10 an10 cd10 ct10), sl10⟩)
    (c10 : PySem.W.codeIn K cd10 "known_paper" = true) (k10 : PySem.W.keepIn K (.ref f10) = true)
    (a11 : PySem.W.nsIn K mainGlobals "is_meeting" = some (some (.ref f11))) (l11 : K.lookup f11 = some ⟨oc11, od11, .func (PySem.W.fnOf "is_meeting" "is_meeting" (defArgs (top 21)) (defBody (top 21)) (defScope (top 21)) .none kV11 dc11 pm11 an11 cd11 ct11), sl11⟩)
    (c11 : PySem.W.codeIn K cd11 "is_meeting" = true) (k11 : PySem.W.keepIn K (.ref f11) = true)
    (a12 : PySem.W.nsIn K mainGlobals "rises" = some (some (.ref f12))) (l12 : K.lookup f12 = some ⟨oc12, od12, .func (PySem.W.fnOf "rises" "rises" (defArgs (top 22)) (defBody (top 22)) (defScope (top 22)) .none kV12 dc12 pm12 an12 cd12 ct12), sl12⟩)
    (c12 : PySem.W.codeIn K cd12 "rises" = true) (k12 : PySem.W.keepIn K (.ref f12) = true)
    (a13 : PySem.W.nsIn K mainGlobals "is_word" = some (some (.ref f13))) (l13 : K.lookup f13 = some ⟨oc13, od13, .func (PySem.W.fnOf "is_word" "is_word" (defArgs (top 23)) (defBody (top 23)) (defScope (top 23)) .none kV13 dc13 pm13 an13 cd13 ct13), sl13⟩)
    (c13 : PySem.W.codeIn K cd13 "is_word" = true) (k13 : PySem.W.keepIn K (.ref f13) = true)
    (a14 : PySem.W.nsIn K mainGlobals "need" = some (some (.ref f14))) (l14 : K.lookup f14 = some ⟨oc14, od14, .func (PySem.W.fnOf "need" "need" (defArgs (top 25)) (defBody (top 25)) (defScope (top 25)) .none kV14 dc14 pm14 an14 cd14 ct14), sl14⟩)
    (c14 : PySem.W.codeIn K cd14 "need" = true) (k14 : PySem.W.keepIn K (.ref f14) = true)
    (a15 : PySem.W.nsIn K mainGlobals "is_odd_with" = some (some (.ref f15))) (l15 : K.lookup f15 = some ⟨oc15, od15, .func (PySem.W.fnOf "is_odd_with" "is_odd_with" (defArgs (top 26)) (defBody (top 26)) (defScope (top 26)) .none kV15 dc15 pm15 an15 cd15 ct15), sl15⟩)
    (c15 : PySem.W.codeIn K cd15 "is_odd_with" = true) (k15 : PySem.W.keepIn K (.ref f15) = true)
    (a16 : PySem.W.nsIn K mainGlobals "is_shaped" = some (some (.ref f16))) (l16 : K.lookup f16 = some ⟨oc16, od16, .func (PySem.W.fnOf "is_shaped" "is_shaped" (defArgs (top 27)) (defBody (top 27)) (defScope (top 27)) .none kV16 dc16 pm16 an16 cd16 ct16), sl16⟩)
    (c16 : PySem.W.codeIn K cd16 "is_shaped" = true) (k16 : PySem.W.keepIn K (.ref f16) = true)
    (a17 : PySem.W.nsIn K mainGlobals "look_at_places" = some (some (.ref f17))) (l17 : K.lookup f17 = some ⟨oc17, od17, .func (PySem.W.fnOf "look_at_places" "look_at_places" (defArgs (top 28)) (defBody (top 28)) (defScope (top 28)) .none kV17 dc17 pm17 an17 cd17 ct17), sl17⟩)
    (c17 : PySem.W.codeIn K cd17 "look_at_places" = true) (k17 : PySem.W.keepIn K (.ref f17) = true)
    (a18 : PySem.W.nsIn K mainGlobals "look_at_turn" = some (some (.ref f18))) (l18 : K.lookup f18 = some ⟨oc18, od18, .func (PySem.W.fnOf "look_at_turn" "look_at_turn" (defArgs (top 29)) (defBody (top 29)) (defScope (top 29)) .none kV18 dc18 pm18 an18 cd18 ct18), sl18⟩)
    (c18 : PySem.W.codeIn K cd18 "look_at_turn" = true) (k18 : PySem.W.keepIn K (.ref f18) = true)
    (a19 : PySem.W.nsIn K mainGlobals "lets_known" = some (some (.ref f19))) (l19 : K.lookup f19 = some ⟨oc19, od19, .func (PySem.W.fnOf "lets_known" "lets_known" (defArgs (top 30)) (defBody (top 30)) (defScope (top 30)) .none kV19 dc19 pm19 an19 cd19 ct19), sl19⟩)
    (c19 : PySem.W.codeIn K cd19 "lets_known" = true) (k19 : PySem.W.keepIn K (.ref f19) = true)
    (a20 : PySem.W.nsIn K mainGlobals "all_made" = some (some (.ref f20))) (l20 : K.lookup f20 = some ⟨oc20, od20, .func (PySem.W.fnOf "all_made" "all_made" (defArgs (top 33)) (defBody (top 33)) (defScope (top 33)) .none (.ref dD20) dc20 pm20 an20 cd20 ct20), sl20⟩)
    (c20 : PySem.W.codeIn K cd20 "all_made" = true) (k20 : PySem.W.keepIn K (.ref f20) = true)
    {dt20_0 : Tok} (d20_0 : PySem.W.nsIn K dD20 (T "most") = some (some (.int 4096 dt20_0)))
    (a21 : PySem.W.nsIn K mainGlobals "rank_of" = some (some (.ref f21))) (l21 : K.lookup f21 = some ⟨oc21, od21, .func (PySem.W.fnOf "rank_of" "rank_of" (defArgs (top 35)) (defBody (top 35)) (defScope (top 35)) .none kV21 dc21 pm21 an21 cd21 ct21), sl21⟩)
    (c21 : PySem.W.codeIn K cd21 "rank_of" = true) (k21 : PySem.W.keepIn K (.ref f21) = true)
    (a22 : PySem.W.nsIn K mainGlobals "_law_feed" = some (some (.ref f22))) (l22 : K.lookup f22 = some ⟨oc22, od22, .func (PySem.W.fnOf "_law_feed" "_law_feed" (defArgs (top 37)) (defBody (top 37)) (defScope (top 37)) .none kV22 dc22 pm22 an22 cd22 ct22), sl22⟩)
    (c22 : PySem.W.codeIn K cd22 "_law_feed" = true) (k22 : PySem.W.keepIn K (.ref f22) = true)
    (a23 : PySem.W.nsIn K mainGlobals "_law_draw" = some (some (.ref f23))) (l23 : K.lookup f23 = some ⟨oc23, od23, .func (PySem.W.fnOf "_law_draw" "_law_draw" (defArgs (top 38)) (defBody (top 38)) (defScope (top 38)) .none kV23 dc23 pm23 an23 cd23 ct23), sl23⟩)
    (c23 : PySem.W.codeIn K cd23 "_law_draw" = true) (k23 : PySem.W.keepIn K (.ref f23) = true)
    (a24 : PySem.W.nsIn K mainGlobals "_law_plus" = some (some (.ref f24))) (l24 : K.lookup f24 = some ⟨oc24, od24, .func (PySem.W.fnOf "_law_plus" "_law_plus" (defArgs (top 39)) (defBody (top 39)) (defScope (top 39)) .none kV24 dc24 pm24 an24 cd24 ct24), sl24⟩)
    (c24 : PySem.W.codeIn K cd24 "_law_plus" = true) (k24 : PySem.W.keepIn K (.ref f24) = true)
    (a25 : PySem.W.nsIn K mainGlobals "_law_word" = some (some (.ref f25))) (l25 : K.lookup f25 = some ⟨oc25, od25, .func (PySem.W.fnOf "_law_word" "_law_word" (defArgs (top 40)) (defBody (top 40)) (defScope (top 40)) .none kV25 dc25 pm25 an25 cd25 ct25), sl25⟩)
    (c25 : PySem.W.codeIn K cd25 "_law_word" = true) (k25 : PySem.W.keepIn K (.ref f25) = true)
    (a26 : PySem.W.nsIn K mainGlobals "_law_lot" = some (some (.ref f26))) (l26 : K.lookup f26 = some ⟨oc26, od26, .func (PySem.W.fnOf "_law_lot" "_law_lot" (defArgs (top 41)) (defBody (top 41)) (defScope (top 41)) .none kV26 dc26 pm26 an26 cd26 ct26), sl26⟩)
    (c26 : PySem.W.codeIn K cd26 "_law_lot" = true) (k26 : PySem.W.keepIn K (.ref f26) = true)
    (a27 : PySem.W.nsIn K mainGlobals "_law_let" = some (some (.ref f27))) (l27 : K.lookup f27 = some ⟨oc27, od27, .func (PySem.W.fnOf "_law_let" "_law_let" (defArgs (top 42)) (defBody (top 42)) (defScope (top 42)) .none kV27 dc27 pm27 an27 cd27 ct27), sl27⟩)
    (c27 : PySem.W.codeIn K cd27 "_law_let" = true) (k27 : PySem.W.keepIn K (.ref f27) = true)
    (a28 : PySem.W.nsIn K mainGlobals "_law_size" = some (some (.ref f28))) (l28 : K.lookup f28 = some ⟨oc28, od28, .func (PySem.W.fnOf "_law_size" "_law_size" (defArgs (top 43)) (defBody (top 43)) (defScope (top 43)) .none kV28 dc28 pm28 an28 cd28 ct28), sl28⟩)
    (c28 : PySem.W.codeIn K cd28 "_law_size" = true) (k28 : PySem.W.keepIn K (.ref f28) = true)
    (a29 : PySem.W.nsIn K mainGlobals "_law_turn_right" = some (some (.ref f29))) (l29 : K.lookup f29 = some ⟨oc29, od29, .func (PySem.W.fnOf "_law_turn_right" "_law_turn_right" (defArgs (top 44)) (defBody (top 44)) (defScope (top 44)) .none kV29 dc29 pm29 an29 cd29 ct29), sl29⟩)
    (c29 : PySem.W.codeIn K cd29 "_law_turn_right" = true) (k29 : PySem.W.keepIn K (.ref f29) = true)
    (a30 : PySem.W.nsIn K mainGlobals "_law_is_right" = some (some (.ref f30))) (l30 : K.lookup f30 = some ⟨oc30, od30, .func (PySem.W.fnOf "_law_is_right" "_law_is_right" (defArgs (top 45)) (defBody (top 45)) (defScope (top 45)) .none kV30 dc30 pm30 an30 cd30 ct30), sl30⟩)
    (c30 : PySem.W.codeIn K cd30 "_law_is_right" = true) (k30 : PySem.W.keepIn K (.ref f30) = true)
    (a31 : PySem.W.nsIn K mainGlobals "law" = some (some (.ref f31))) (l31 : K.lookup f31 = some ⟨oc31, od31, .func (PySem.W.fnOf "law" "law" (defArgs (top 46)) (defBody (top 46)) (defScope (top 46)) .none kV31 dc31 pm31 an31 cd31 ct31), sl31⟩)
    (c31 : PySem.W.codeIn K cd31 "law" = true) (k31 : PySem.W.keepIn K (.ref f31) = true)
    (z1 : PySem.W.nsIn K mainGlobals "all" = some none)
    (z2 : PySem.W.nsIn K mainGlobals "bool" = some none)
    (z3 : PySem.W.nsIn K mainGlobals "enumerate" = some none)
    (z4 : PySem.W.nsIn K mainGlobals "int" = some none)
    (z5 : PySem.W.nsIn K mainGlobals "isinstance" = some none)
    (z6 : PySem.W.nsIn K mainGlobals "len" = some none)
    (z7 : PySem.W.nsIn K mainGlobals "range" = some none)
    (z8 : PySem.W.nsIn K mainGlobals "set" = some none)
    (z9 : PySem.W.nsIn K mainGlobals "sorted" = some none)
    (z10 : PySem.W.nsIn K mainGlobals "str" = some none)
    (z11 : PySem.W.nsIn K mainGlobals "sum" = some none)
    (z12 : PySem.W.nsIn K mainGlobals "tuple" = some none)
    (z13 : PySem.W.nsIn K mainGlobals "zip" = some none)
    {CMetError : Addr} (aCMetError : PySem.W.nsIn K mainGlobals "MetError" = some (some (.ref CMetError))) (iCMetError : PySem.W.isClsIn K CMetError = true) (tCMetError : PySem.W.typeIn K (.ref CMetError) = some (.type "type")) (eCMetError : PySem.W.subIn K (.ref CMetError) (.type "BaseException") = some true)
    {CNoPaper : Addr} (aCNoPaper : PySem.W.nsIn K mainGlobals "NoPaper" = some (some (.ref CNoPaper))) (iCNoPaper : PySem.W.isClsIn K CNoPaper = true) (tCNoPaper : PySem.W.typeIn K (.ref CNoPaper) = some (.type "type")) (eCNoPaper : PySem.W.subIn K (.ref CNoPaper) (.type "BaseException") = some true)
    (gBMetError : PySem.W.specialIn K (.ref CMetError) "__getattribute__" = some (some (.builtin "type.__getattribute__"))) (rBMetError : PySem.W.readsIn K CMetError (.type "type") = true) (vBMetError : PySem.W.findCls K (.ref CMetError) (.type "type") "__init__" = some (.val (.builtin "ValueError.__init__")))
    (hnO : PySem.W.specialIn K (.builtin "object.__class__") "__get__" = some (some (.builtin "getset_descriptor.__get__"))) (htO : PySem.W.takesIn K (.builtin "object.__class__") = some true)
    (hgNoPaper : PySem.W.findIn K (.ref CNoPaper) "__getattribute__" = some (some (.builtin "BaseException.__getattribute__"))) (hkNoPaper : PySem.W.findIn K (.ref CNoPaper) "__getattr__" = some none) (hdNoPaper : PySem.W.hasDictIn K CNoPaper = true) (haNoPaper : PySem.W.findIn K (.ref CNoPaper) "__class__" = some (some (.builtin "object.__class__"))) (hmNoPaper : PySem.W.mroIn K CNoPaper (.type "object") = some true) (sfNoPaper : PySem.W.subIn K (.ref CNoPaper) (.ref CNoPaper) = some true)
    {nmNoPaper_ qNoPaper_ : Str} {NNoPaper : Addr} {bsNoPaper : List Value} {snNoPaper : List Str} {suNoPaper : List Value} {abNoPaper : Bool} {coNoPaper : Option Bool} {ddNoPaper : Option Addr} {m0NoPaper m1NoPaper m2NoPaper m3NoPaper m5NoPaper : Option Value}
    (xLNoPaper : K.lookup CNoPaper = some (excClassObj nmNoPaper_ qNoPaper_ CNoPaper NNoPaper bsNoPaper [.ref CMetError, .type "ValueError", .type "Exception", .type "BaseException", .type "object"] true snNoPaper suNoPaper abNoPaper coNoPaper ddNoPaper m0NoPaper m1NoPaper m2NoPaper m3NoPaper m5NoPaper "ValueError.__new__"))
    (saNoPaper : PySem.W.findIn K (.ref CNoPaper) "__setattr__" = some (some (.builtin "object.__setattr__"))) (kCNoPaper : PySem.W.keepIn K (.ref CNoPaper) = true)
    {fINoPaper : Addr} (nINoPaper : PySem.W.findIn K (.ref CNoPaper) "__init__" = some (some (.ref fINoPaper))) (tINoPaper : PySem.W.typeIn K (.ref fINoPaper) = some (.type "function"))
    {odINoPaper anINoPaper : Option Addr} {slINoPaper : Array (Option Value)} {ocINoPaper kVINoPaper dcINoPaper pmINoPaper cdINoPaper ctINoPaper : Value} (lINoPaper : K.lookup fINoPaper = some ⟨ocINoPaper, odINoPaper, .func (PySem.W.fnOf "__init__" "NoPaper.__init__" (defArgs (inCls (top 3) 0)) (defBody (inCls (top 3) 0)) (defScope (inCls (top 3) 0)) .none kVINoPaper dcINoPaper pmINoPaper anINoPaper cdINoPaper ctINoPaper), slINoPaper⟩) (cINoPaper : PySem.W.codeIn K cdINoPaper "NoPaper.__init__" = true) (kINoPaper : PySem.W.keepIn K (.ref fINoPaper) = true)
    (fdNoPaper_0 : PySem.W.findIn K (.ref CNoPaper) (T "word") = some none)
    (fdNoPaper_1 : PySem.W.findIn K (.ref CNoPaper) (T "at") = some none)
    (sNoPaper_NoPaper : PySem.W.subIn K (.ref CNoPaper) (.ref CNoPaper) = some true)
    : Names K mg BN GL ∧ (∀ e ∈ defs, ∃ st f fd, DefOk K mg BN GL KB e st f fd) ∧ (∀ base x, XF.xc x ≠ [] → XcOk P w K mg base x (XF.xc x)) ∧ (∀ c x b, XF.sub c x = some b → SubOk K mg c x b) ∧ (∀ c f, XF.fld c f = true → FldOk K mg c f) ∧ ∀ x ∈ XF.kn, ∃ C, mg (T x) = some (.ref C) := by
  have LNoPaper : LiveC K mg (T "NoPaper") CNoPaper := ⟨PySem.W.mg_of X G aCNoPaper, ⟨hgNoPaper, hkNoPaper, eCNoPaper, hdNoPaper, haNoPaper, hnO, htO, hmNoPaper⟩, sfNoPaper⟩
  have ONoPaper : OxC K .ve CNoPaper := ⟨⟨_, _, _, _, _, _, _, _, _, _, _, _, _, _, _, xLNoPaper⟩, saNoPaper, eCNoPaper, tCNoPaper, kCNoPaper⟩
  have hX : ∀ base : Heap, ∀ p ∈ xsX, XcOk P w K mg base p.1 p.2 := by
    intro base p hp
    simp only [xsX, List.mem_cons, List.not_mem_nil, or_false] at hp
    subst hp
    · exact xc_mk (bk := .ve) (bn := "MetError") LNoPaper.at' ONoPaper nINoPaper tINoPaper (fun_mk (x := T "__init__") (qual := T "NoPaper.__init__") (st := (inCls (top 3) 0)) lINoPaper cINoPaper kINoPaper) ⟨PySem.W.mg_of X G aCMetError, gBMetError, rBMetError, vBMetError⟩ (by decide +kernel) ((fun_mk (x := T "__init__") (qual := T "NoPaper.__init__") (st := (inCls (top 3) 0)) lINoPaper cINoPaper kINoPaper).binds (ps := [T "self", T "word", T "at"]) (fun _ _ _ _ _ _ us hl => match us, hl with | [_, _, _], _ => rfl)) (fun f hf => by
        simp only [List.mem_cons, List.not_mem_nil, or_false] at hf
        rcases hf with rfl | rfl
        · exact fdNoPaper_0
        · exact fdNoPaper_1)
  have hS : ∀ p ∈ ssX, SubOk K mg p.1.1 p.1.2 p.2 := by
    intro p hp
    simp only [ssX, List.mem_cons, List.not_mem_nil, or_false] at hp
    subst hp
    · exact sub_own LNoPaper (PySem.W.mg_of X G aCNoPaper) iCNoPaper tCNoPaper eCNoPaper sNoPaper_NoPaper
  have hFl : ∀ p ∈ fsX, FldOk K mg p.1 p.2 := by
    intro p hp
    simp only [fsX, List.mem_cons, List.not_mem_nil, or_false] at hp
    rcases hp with rfl | rfl
    · exact fld_ok LNoPaper fdNoPaper_0
    · exact fld_ok LNoPaper fdNoPaper_1
  have hK : ∀ x ∈ knX, ∃ C, mg (T x) = some (.ref C) := by
    intro x hx
    simp only [knX, List.mem_cons, List.not_mem_nil, or_false] at hx
    subst hx
    · exact ⟨_, PySem.W.mg_of X G aCNoPaper⟩
  refine (fun (q : Names K mg BN GL ∧ ∀ e ∈ defs, ∃ st f fd, DefOk K mg BN GL KB e st f fd) => ⟨q.1, q.2, fun base => mkX_xc (hX base), mkX_sub hS, mkX_fld hFl, hK⟩) ?_
  refine ⟨⟨fun x hx => ?_, fun p hp => ?_⟩, fun e he => ?_⟩
  · simp only [BN, List.mem_cons, List.not_mem_nil, or_false] at hx
    rcases hx with rfl | rfl | rfl | rfl | rfl | rfl | rfl | rfl | rfl | rfl | rfl | rfl | rfl
    · exact PySem.W.mg_none_of X G z1
    · exact PySem.W.mg_none_of X G z2
    · exact PySem.W.mg_none_of X G z3
    · exact PySem.W.mg_none_of X G z4
    · exact PySem.W.mg_none_of X G z5
    · exact PySem.W.mg_none_of X G z6
    · exact PySem.W.mg_none_of X G z7
    · exact PySem.W.mg_none_of X G z8
    · exact PySem.W.mg_none_of X G z9
    · exact PySem.W.mg_none_of X G z10
    · exact PySem.W.mg_none_of X G z11
    · exact PySem.W.mg_none_of X G z12
    · exact PySem.W.mg_none_of X G z13
  · cases hp
  · simp only [defs, List.mem_cons, List.not_mem_nil, or_false] at he
    rcases he with rfl | rfl | rfl | rfl | rfl | rfl | rfl | rfl | rfl | rfl | rfl | rfl | rfl | rfl | rfl | rfl | rfl | rfl | rfl | rfl | rfl | rfl | rfl | rfl | rfl | rfl | rfl | rfl | rfl | rfl | rfl
    · have F := fun_mk (x := T "sum_two") (qual := T "sum_two") (st := top 7) l1 c1 k1
      exact ⟨_, _, _, F, PySem.W.mg_of X G a1, bd_of (F.binds (ps := [T "one", T "other"]) (fun _ _ _ _ _ _ us hl => match us, hl with | [_, _], _ => rfl)) rfl, oksum_two, kb_no (by decide +kernel), rfl⟩
    · have F := fun_mk (x := T "sum_of") (qual := T "sum_of") (st := top 8) l2 c2 k2
      exact ⟨_, _, _, F, PySem.W.mg_of X G a2, bd_of (F.binds (ps := [T "words"]) (fun _ _ _ _ _ _ us hl => match us, hl with | [_], _ => rfl)) rfl, oksum_of, kb_no (by decide +kernel), rfl⟩
    · have F := fun_mk (x := T "sign_of") (qual := T "sign_of") (st := top 9) l3 c3 k3
      exact ⟨_, _, _, F, PySem.W.mg_of X G a3, bd_of (F.binds (ps := [T "word", T "signs"]) (fun _ _ _ _ _ _ us hl => match us, hl with | [_, _], _ => rfl)) rfl, oksign_of, kb_no (by decide +kernel), rfl⟩
    · have F := fun_mk (x := T "reduced") (qual := T "reduced") (st := top 11) l4 c4 k4
      exact ⟨_, _, _, F, PySem.W.mg_of X G a4, bd_of (F.binds (ps := [T "rows", T "entry"]) (fun _ _ _ _ _ _ us hl => match us, hl with | [_, _], _ => rfl)) rfl, okreduced, kb_no (by decide +kernel), rfl⟩
    · have F := fun_mk (x := T "base_of") (qual := T "base_of") (st := top 12) l5 c5 k5
      exact ⟨_, _, _, F, PySem.W.mg_of X G a5, bd_of (F.binds (ps := [T "words"]) (fun _ _ _ _ _ _ us hl => match us, hl with | [_], _ => rfl)) rfl, okbase_of, kb_no (by decide +kernel), rfl⟩
    · have F := fun_mk (x := T "makes") (qual := T "makes") (st := top 13) l6 c6 k6
      exact ⟨_, _, _, F, PySem.W.mg_of X G a6, bd_of (F.binds (ps := [T "words", T "word"]) (fun _ _ _ _ _ _ us hl => match us, hl with | [_, _], _ => rfl)) rfl, okmakes, kb_no (by decide +kernel), rfl⟩
    · have F := fun_mk (x := T "led_back") (qual := T "led_back") (st := top 15) l7 c7 k7
      exact ⟨_, _, _, F, PySem.W.mg_of X G a7, bd_of (F.binds (ps := [T "rows", T "entry", T "marks"]) (fun _ _ _ _ _ _ us hl => match us, hl with | [_, _, _], _ => rfl)) rfl, okled_back, kb_no (by decide +kernel), rfl⟩
    · have F := fun_mk (x := T "with_traced") (qual := T "with_traced") (st := top 16) l8 c8 k8
      exact ⟨_, _, _, F, PySem.W.mg_of X G a8, bd_of (F.binds (ps := [T "rows", T "entry", T "marks"]) (fun _ _ _ _ _ _ us hl => match us, hl with | [_, _, _], _ => rfl)) rfl, okwith_traced, kb_no (by decide +kernel), rfl⟩
    · have F := fun_mk (x := T "parting_turn") (qual := T "parting_turn") (st := top 18) l9 c9 k9
      exact ⟨_, _, _, F, PySem.W.mg_of X G a9, bd_of (F.binds (ps := [T "rows", T "rest"]) (fun _ _ _ _ _ _ us hl => match us, hl with | [_, _], _ => rfl)) rfl, okparting_turn, kb_no (by decide +kernel), rfl⟩
    · have F := fun_mk (x := T "known_paper") (qual := T "known_paper") (st := top 19) l10 c10 k10
      exact ⟨_, _, _, F, PySem.W.mg_of X G a10, bd_of (F.binds (ps := [T "words", T "word"]) (fun _ _ _ _ _ _ us hl => match us, hl with | [_, _], _ => rfl)) rfl, okknown_paper, kb_no (by decide +kernel), rfl⟩
    · have F := fun_mk (x := T "is_meeting") (qual := T "is_meeting") (st := top 21) l11 c11 k11
      exact ⟨_, _, _, F, PySem.W.mg_of X G a11, bd_of (F.binds (ps := [T "thing"]) (fun _ _ _ _ _ _ us hl => match us, hl with | [_], _ => rfl)) rfl, okis_meeting, kb_no (by decide +kernel), rfl⟩
    · have F := fun_mk (x := T "rises") (qual := T "rises") (st := top 22) l12 c12 k12
      exact ⟨_, _, _, F, PySem.W.mg_of X G a12, bd_of (F.binds (ps := [T "some"]) (fun _ _ _ _ _ _ us hl => match us, hl with | [_], _ => rfl)) rfl, okrises, kb_no (by decide +kernel), rfl⟩
    · have F := fun_mk (x := T "is_word") (qual := T "is_word") (st := top 23) l13 c13 k13
      exact ⟨_, _, _, F, PySem.W.mg_of X G a13, bd_of (F.binds (ps := [T "thing"]) (fun _ _ _ _ _ _ us hl => match us, hl with | [_], _ => rfl)) rfl, okis_word, kb_no (by decide +kernel), rfl⟩
    · have F := fun_mk (x := T "need") (qual := T "need") (st := top 25) l14 c14 k14
      exact ⟨_, _, _, F, PySem.W.mg_of X G a14, bd_of (F.binds (ps := [T "truth", T "word", T "at"]) (fun _ _ _ _ _ _ us hl => match us, hl with | [_, _, _], _ => rfl)) rfl, okneed, kb_no (by decide +kernel), rfl⟩
    · have F := fun_mk (x := T "is_odd_with") (qual := T "is_odd_with") (st := top 26) l15 c15 k15
      exact ⟨_, _, _, F, PySem.W.mg_of X G a15, bd_of (F.binds (ps := [T "one", T "other"]) (fun _ _ _ _ _ _ us hl => match us, hl with | [_, _], _ => rfl)) rfl, okis_odd_with, kb_no (by decide +kernel), rfl⟩
    · have F := fun_mk (x := T "is_shaped") (qual := T "is_shaped") (st := top 27) l16 c16 k16
      exact ⟨_, _, _, F, PySem.W.mg_of X G a16, bd_of (F.binds (ps := [T "thing"]) (fun _ _ _ _ _ _ us hl => match us, hl with | [_], _ => rfl)) rfl, okis_shaped, kb_no (by decide +kernel), rfl⟩
    · have F := fun_mk (x := T "look_at_places") (qual := T "look_at_places") (st := top 28) l17 c17 k17
      exact ⟨_, _, _, F, PySem.W.mg_of X G a17, bd_of (F.binds (ps := [T "words", T "word", T "places"]) (fun _ _ _ _ _ _ us hl => match us, hl with | [_, _, _], _ => rfl)) rfl, oklook_at_places, kb_no (by decide +kernel), rfl⟩
    · have F := fun_mk (x := T "look_at_turn") (qual := T "look_at_turn") (st := top 29) l18 c18 k18
      exact ⟨_, _, _, F, PySem.W.mg_of X G a18, bd_of (F.binds (ps := [T "words", T "word", T "turn"]) (fun _ _ _ _ _ _ us hl => match us, hl with | [_, _, _], _ => rfl)) rfl, oklook_at_turn, kb_no (by decide +kernel), rfl⟩
    · have F := fun_mk (x := T "lets_known") (qual := T "lets_known") (st := top 30) l19 c19 k19
      exact ⟨_, _, _, F, PySem.W.mg_of X G a19, bd_of (F.binds (ps := [T "words", T "word", T "thing"]) (fun _ _ _ _ _ _ us hl => match us, hl with | [_, _, _], _ => rfl)) rfl, oklets_known, kb_no (by decide +kernel), rfl⟩
    · have F := fun_mk (x := T "all_made") (qual := T "all_made") (st := top 33) l20 c20 k20
      refine ⟨_, _, _, F, PySem.W.mg_of X G a20, ⟨[.int 4096 dt20_0], [.int 4096], fun s us X2 hl => ?_, (.cons ⟨_, rfl⟩ .nil), fun _ => (.cons (.int _) .nil)⟩, okall_made, kb_no (by decide +kernel), rfl⟩
      have hl2 : us.length = 1 := by
        rw [List.length_append] at hl
        have hl3 : us.length + 1 = 2 := hl
        omega
      match us, hl2 with
      | [u0], _ => exact BindsTo.of_looks fun M => KwChain.looks X2 (l := [(T "most", .int 4096 dt20_0)]) (fun q hq => by
          simp only [List.mem_cons, List.not_mem_nil, or_false] at hq
          subst hq
          exact d20_0) ⟨_, _, _, _, _, _, rfl, rfl, rfl⟩
    · have F := fun_mk (x := T "rank_of") (qual := T "rank_of") (st := top 35) l21 c21 k21
      exact ⟨_, _, _, F, PySem.W.mg_of X G a21, bd_of (F.binds (ps := [T "words"]) (fun _ _ _ _ _ _ us hl => match us, hl with | [_], _ => rfl)) rfl, okrank_of, kb_no (by decide +kernel), rfl⟩
    · have F := fun_mk (x := T "_law_feed") (qual := T "_law_feed") (st := top 37) l22 c22 k22
      exact ⟨_, _, _, F, PySem.W.mg_of X G a22, bd_of (F.binds (ps := [T "_law_script"]) (fun _ _ _ _ _ _ us hl => match us, hl with | [_], _ => rfl)) rfl, ok_law_feed, kb_no (by decide +kernel), rfl⟩
    · have F := fun_mk (x := T "_law_draw") (qual := T "_law_draw") (st := top 38) l23 c23 k23
      exact ⟨_, _, _, F, PySem.W.mg_of X G a23, bd_of (F.binds (ps := [T "_law_feed_here", T "_law_many"]) (fun _ _ _ _ _ _ us hl => match us, hl with | [_, _], _ => rfl)) rfl, ok_law_draw, kb_no (by decide +kernel), rfl⟩
    · have F := fun_mk (x := T "_law_plus") (qual := T "_law_plus") (st := top 39) l24 c24 k24
      exact ⟨_, _, _, F, PySem.W.mg_of X G a24, bd_of (F.binds (ps := [T "_law_one", T "_law_other"]) (fun _ _ _ _ _ _ us hl => match us, hl with | [_, _], _ => rfl)) rfl, ok_law_plus, kb_no (by decide +kernel), rfl⟩
    · have F := fun_mk (x := T "_law_word") (qual := T "_law_word") (st := top 40) l25 c25 k25
      exact ⟨_, _, _, F, PySem.W.mg_of X G a25, bd_of (F.binds (ps := [T "_law_feed_here", T "_law_many"]) (fun _ _ _ _ _ _ us hl => match us, hl with | [_, _], _ => rfl)) rfl, ok_law_word, kb_no (by decide +kernel), rfl⟩
    · have F := fun_mk (x := T "_law_lot") (qual := T "_law_lot") (st := top 41) l26 c26 k26
      exact ⟨_, _, _, F, PySem.W.mg_of X G a26, bd_of (F.binds (ps := [T "_law_feed_here", T "_law_many", T "_law_most"]) (fun _ _ _ _ _ _ us hl => match us, hl with | [_, _, _], _ => rfl)) rfl, ok_law_lot, kb_no (by decide +kernel), rfl⟩
    · have F := fun_mk (x := T "_law_let") (qual := T "_law_let") (st := top 42) l27 c27 k27
      exact ⟨_, _, _, F, PySem.W.mg_of X G a27, bd_of (F.binds (ps := [T "_law_some", T "_law_word_here", T "_law_thing"]) (fun _ _ _ _ _ _ us hl => match us, hl with | [_, _, _], _ => rfl)) rfl, ok_law_let, kb_no (by decide +kernel), rfl⟩
    · have F := fun_mk (x := T "_law_size") (qual := T "_law_size") (st := top 43) l28 c28 k28
      exact ⟨_, _, _, F, PySem.W.mg_of X G a28, bd_of (F.binds (ps := [T "_law_rank"]) (fun _ _ _ _ _ _ us hl => match us, hl with | [_], _ => rfl)) rfl, ok_law_size, kb_no (by decide +kernel), rfl⟩
    · have F := fun_mk (x := T "_law_turn_right") (qual := T "_law_turn_right") (st := top 44) l29 c29 k29
      exact ⟨_, _, _, F, PySem.W.mg_of X G a29, bd_of (F.binds (ps := [T "_law_some", T "_law_word_here", T "_law_many", T "_law_own"]) (fun _ _ _ _ _ _ us hl => match us, hl with | [_, _, _, _], _ => rfl)) rfl, ok_law_turn_right, kb_no (by decide +kernel), rfl⟩
    · have F := fun_mk (x := T "_law_is_right") (qual := T "_law_is_right") (st := top 45) l30 c30 k30
      exact ⟨_, _, _, F, PySem.W.mg_of X G a30, bd_of (F.binds (ps := [T "_law_some", T "_law_word_here", T "_law_many"]) (fun _ _ _ _ _ _ us hl => match us, hl with | [_, _, _], _ => rfl)) rfl, ok_law_is_right, kb_no (by decide +kernel), rfl⟩
    · have F := fun_mk (x := T "law") (qual := T "law") (st := top 46) l31 c31 k31
      exact ⟨_, _, _, F, PySem.W.mg_of X G a31, bd_of (F.binds (ps := [T "_law_script"]) (fun _ _ _ _ _ _ us hl => match us, hl with | [_], _ => rfl)) rfl, oklaw, kb_no (by decide +kernel), rfl⟩
end K10
open PySem PySem.W PyProof.Rows
set_option maxRecDepth 100000 in
set_option maxHeartbeats 0 in
theorem PySem.Challenge.cw_metbefore_k10_whole_just_one_is_let_by_holds : PySem.Challenge.rw_metbefore_k10_whole_just_one_is_let_by.Holds := by
  w_on; o_law; k_head; (case hw => w_witness2)
  k_fill
  refine Ev.walk_ev (l := PySem.Challenge.rw_metbefore_k10_whole_just_one_is_let_by) (n := 63) (k := 6) (Tb := K10.defs) (XF := K10.XF) (BN := K10.BN) (GL := K10.GL) (KB := K10.KB) (x := "_law_script") (dl := K10.dlaw) rfl (by decide) rfl ⟨rfl, by decide, by decide⟩ (fun w h Y => PySem.W.kIn_of Y) K10.fdlaw rfl rfl rfl rfl ?F K10.law_t
  case F =>
    intro w mg h KX G
    refine' K10.tb_mk KX G ?a1 ?l1 ?c1 ?k1 ?a2 ?l2 ?c2 ?k2 ?a3 ?l3 ?c3 ?k3 ?a4 ?l4 ?c4 ?k4 ?a5 ?l5 ?c5 ?k5 ?a6 ?l6 ?c6 ?k6 ?a7 ?l7 ?c7 ?k7 ?a8 ?l8 ?c8 ?k8 ?a9 ?l9 ?c9 ?k9 ?a10 ?l10 ?c10 ?k10 ?a11 ?l11 ?c11 ?k11 ?a12 ?l12 ?c12 ?k12 ?a13 ?l13 ?c13 ?k13 ?a14 ?l14 ?c14 ?k14 ?a15 ?l15 ?c15 ?k15 ?a16 ?l16 ?c16 ?k16 ?a17 ?l17 ?c17 ?k17 ?a18 ?l18 ?c18 ?k18 ?a19 ?l19 ?c19 ?k19 ?a20 ?l20 ?c20 ?k20 ?d20_0 ?a21 ?l21 ?c21 ?k21 ?a22 ?l22 ?c22 ?k22 ?a23 ?l23 ?c23 ?k23 ?a24 ?l24 ?c24 ?k24 ?a25 ?l25 ?c25 ?k25 ?a26 ?l26 ?c26 ?k26 ?a27 ?l27 ?c27 ?k27 ?a28 ?l28 ?c28 ?k28 ?a29 ?l29 ?c29 ?k29 ?a30 ?l30 ?c30 ?k30 ?a31 ?l31 ?c31 ?k31 ?z1 ?z2 ?z3 ?z4 ?z5 ?z6 ?z7 ?z8 ?z9 ?z10 ?z11 ?z12 ?z13 ?aCMetError ?iCMetError ?tCMetError ?eCMetError ?aCNoPaper ?iCNoPaper ?tCNoPaper ?eCNoPaper ?gBMetError ?rBMetError ?vBMetError ?hnO ?htO ?hgNoPaper ?hkNoPaper ?hdNoPaper ?haNoPaper ?hmNoPaper ?sfNoPaper ?xLNoPaper ?saNoPaper ?kCNoPaper ?nINoPaper ?tINoPaper ?lINoPaper ?cINoPaper ?kINoPaper ?fdNoPaper_0 ?fdNoPaper_1 ?sNoPaper_NoPaper
    (case a1 => k_is); (case l1 => k_is); (case c1 => k_is); (case k1 => k_is)
    (case a2 => k_is); (case l2 => k_is); (case c2 => k_is); (case k2 => k_is)
    (case a3 => k_is); (case l3 => k_is); (case c3 => k_is); (case k3 => k_is)
    (case a4 => k_is); (case l4 => k_is); (case c4 => k_is); (case k4 => k_is)
    (case a5 => k_is); (case l5 => k_is); (case c5 => k_is); (case k5 => k_is)
    (case a6 => k_is); (case l6 => k_is); (case c6 => k_is); (case k6 => k_is)
    (case a7 => k_is); (case l7 => k_is); (case c7 => k_is); (case k7 => k_is)
    (case a8 => k_is); (case l8 => k_is); (case c8 => k_is); (case k8 => k_is)
    (case a9 => k_is); (case l9 => k_is); (case c9 => k_is); (case k9 => k_is)
    (case a10 => k_is); (case l10 => k_is); (case c10 => k_is); (case k10 => k_is)
    (case a11 => k_is); (case l11 => k_is); (case c11 => k_is); (case k11 => k_is)
    (case a12 => k_is); (case l12 => k_is); (case c12 => k_is); (case k12 => k_is)
    (case a13 => k_is); (case l13 => k_is); (case c13 => k_is); (case k13 => k_is)
    (case a14 => k_is); (case l14 => k_is); (case c14 => k_is); (case k14 => k_is)
    (case a15 => k_is); (case l15 => k_is); (case c15 => k_is); (case k15 => k_is)
    (case a16 => k_is); (case l16 => k_is); (case c16 => k_is); (case k16 => k_is)
    (case a17 => k_is); (case l17 => k_is); (case c17 => k_is); (case k17 => k_is)
    (case a18 => k_is); (case l18 => k_is); (case c18 => k_is); (case k18 => k_is)
    (case a19 => k_is); (case l19 => k_is); (case c19 => k_is); (case k19 => k_is)
    (case a20 => k_is); (case l20 => k_is); (case c20 => k_is); (case k20 => k_is)
    (case d20_0 => k_is); (case a21 => k_is); (case l21 => k_is); (case c21 => k_is)
    (case k21 => k_is); (case a22 => k_is); (case l22 => k_is); (case c22 => k_is)
    (case k22 => k_is); (case a23 => k_is); (case l23 => k_is); (case c23 => k_is)
    (case k23 => k_is); (case a24 => k_is); (case l24 => k_is); (case c24 => k_is)
    (case k24 => k_is); (case a25 => k_is); (case l25 => k_is); (case c25 => k_is)
    (case k25 => k_is); (case a26 => k_is); (case l26 => k_is); (case c26 => k_is)
    (case k26 => k_is); (case a27 => k_is); (case l27 => k_is); (case c27 => k_is)
    (case k27 => k_is); (case a28 => k_is); (case l28 => k_is); (case c28 => k_is)
    (case k28 => k_is); (case a29 => k_is); (case l29 => k_is); (case c29 => k_is)
    (case k29 => k_is); (case a30 => k_is); (case l30 => k_is); (case c30 => k_is)
    (case k30 => k_is); (case a31 => k_is); (case l31 => k_is); (case c31 => k_is)
    (case k31 => k_is); (case z1 => k_is); (case z2 => k_is); (case z3 => k_is)
    (case z4 => k_is); (case z5 => k_is); (case z6 => k_is); (case z7 => k_is)
    (case z8 => k_is); (case z9 => k_is); (case z10 => k_is); (case z11 => k_is)
    (case z12 => k_is); (case z13 => k_is); (case aCMetError => k_is); (case iCMetError => k_is)
    (case tCMetError => k_is); (case eCMetError => k_is); (case aCNoPaper => k_is); (case iCNoPaper => k_is)
    (case tCNoPaper => k_is); (case eCNoPaper => k_is); (case gBMetError => k_is); (case rBMetError => k_is)
    (case vBMetError => k_is); (case hnO => k_is); (case htO => k_is); (case hgNoPaper => k_is)
    (case hkNoPaper => k_is); (case hdNoPaper => k_is); (case haNoPaper => k_is); (case hmNoPaper => k_is)
    (case sfNoPaper => k_is); (case xLNoPaper => k_is); (case saNoPaper => k_is); (case kCNoPaper => k_is)
    (case nINoPaper => k_is); (case tINoPaper => k_is); (case lINoPaper => k_is); (case cINoPaper => k_is)
    (case kINoPaper => k_is); (case fdNoPaper_0 => k_is); (case fdNoPaper_1 => k_is); (case sNoPaper_NoPaper => k_is)
#print axioms PySem.Challenge.cw_metbefore_k10_whole_just_one_is_let_by_holds
