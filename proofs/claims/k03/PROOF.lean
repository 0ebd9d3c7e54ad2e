import PyProof.Rows.All
import HandS.SetFor
import HandS.TupSets
import HandS.Strs
import HandS.SetTxt0
import HandS.ForMost
import HandS.TupAny
import HandS.TupMul
import HandS.IsInst
import HandS.Walk
import HandS.Deep
import HandS.ForExc
import HandS.Wide
import KE.LtData
import KE.DataCmp
import KE.DataFind
import KE.DataMinMax
import KE.DataIsa
import KE.SortData
import HandS.Text
import HandS.Lambda
import HandS.DictTup
import KE.KSortTup
import KE.KSortAsk
import HandS.Style
import HandS.ExcInit
import KE.KExcInit
import HandS.ExcField
import HandS.ExcIs
import OpenK.KCls
import HandS.Flow
import HandS.Zip
import KE.GoesMore
import HandS.TryOnly
import HandS.Comp
import KE.GoesRaise
import HandS.Dict
import KE.KExcIs
import HandS.Conv
import HandS.List
import HandS.FStr
import HandS.Small
import KE.KDictPairs
import PyProof.StrLaws
import HandS.TupLen
import KE.KDictSum
import HandS.Zip0
import HandS.DictComp
import HandS.Iter
import KE.KUnpackStar
import HandS.ExcValue
import HandS.SetBool
import HandS.Ends
import PyProof.FitsInt
import PyProof.ReprLen
import HandS.Defaults
import Wide.All
import OpenK.AllK
import Wide.FinOn
import PySem.Challenge.RW_metbefore_k03_whole_signs_of_sums
set_option Elab.async false
set_option linter.all false
set_option maxHeartbeats 4000000
set_option maxRecDepth 100000
namespace Ev
open PySem PySem.Spec L2 PyProof.Rows
def unl (xs : List Str) : Nat -> Nat
 | 0 => 0
 | i + 1 => match xs[i]? with
  | some x => if x ∈ xs.take i then unl xs i else unl xs i + 1
  | none => unl xs i
def ddT (xs : List Str) : List Str := xs.foldl (fun l x => if x ∈ l then l else x :: l) []
open PySem.Froz
def TxSet (P : Program) (w : World) (h : Heap) (D : Addr) (l : List Str) : Prop := ∃ d : Froz.SD, h.get? D = some (Froz.sObj "set" d) /\ Froz.TxOk P w d l /\ L2.Ris d.2.2.place.toList /\ (w.params.followText "set-order" = true \/ d.2.2.led = true)
theorem TxSet.keep {P : Program} {w : World} {h h' : Heap} {D : Addr} {l : List Str} (x : TxSet P w h D l) (k : ∀ o, h.get? D = some o -> h'.get? D = some o) : TxSet P w h' D l := by
 obtain ⟨d, h1, h2⟩ := x
 exact ⟨d, k _ h1, h2⟩
section
variable {P : Program} {w : World} {A : Around} {E : Value -> Shared -> Prop} {s : Shared}
set_option maxRecDepth 100000 in
set_option maxRecDepth 100000 in
end
end Ev
namespace Ev
open PySem
abbrev D := PyData
abbrev Ky := Int ⊕ Str
def keyO : D -> Option Ky
 | .int i => some (.inl i)
 | .str x => some (.inr x)
 | _ => none
def kyD : Ky -> D
 | .inl i => .int i
 | .inr x => .str x
inductive Fc where
 | val (d : D)
 | lst (ds : List D)
 | dct (kvs : List (Ky × D))
inductive Ot where
 | v (d : D)
 | l (ts : List Ot)
 | k (ks : List Ky) (ts : List Ot)
 | d (kvs : List (List Int × D))
 | o (cls : Str) (ns : List Str) (ts : List Ot)
inductive C where
 | lst (ds : List D)
 | dct (kvs : List (Ky × D))
 | tr (t : Ot)
 | obj (cls : Str) (fs : List (Str × Fc))
structure Xn where
 cls : Str
 fs : List (Str × D)
abbrev Th := Addr × L2.Hp
inductive Sl where
 | un
 | fz (d : D)
 | bo (d : D)
 | mu (lent locked : Bool) (c : C)
 | xc (x : Xn)
 | th (f : Th)
 | fns (fs : List String)
 | fnc (f : String)
 | bt (u : Ot)
abbrev Env := List Sl
inductive R where
 | val (d : D)
 | slot (i : Nat)
 | fresh (c : C)
inductive Res (α : Type) where
 | bad
 | ok (a : α) (e : Env)
 | exc (x : Xn) (e : Env)
def Res.bind {α β : Type} : Res α -> (α -> Env -> Res β) -> Res β
 | .bad, _ => .bad
 | .ok a e, f => f a e
 | .exc x e, _ => .exc x e
@[simp] theorem bind_ok {α β : Type} (a : α) (e : Env) (f : α -> Env -> Res β) : (Res.ok a e).bind f = f a e := rfl
@[simp] theorem bind_bad {α β : Type} (f : α -> Env -> Res β) : (Res.bad : Res α).bind f = .bad := rfl
@[simp] theorem bind_exc {α β : Type} (x : Xn) (e : Env) (f : α -> Env -> Res β) : (Res.exc x e : Res α).bind f = .exc x e := rfl
inductive AskR where
 | val (d : D)
 | exc (x : Xn)
def ofO {α : Type} (o : Option α) (e : Env) : Res α := match o with
 | some a => .ok a e
 | none => .bad
@[simp] theorem ofO_some {α : Type} (a : α) (e : Env) : ofO (some a) e = .ok a e := rfl
@[simp] theorem ofO_none {α : Type} (e : Env) : ofO (none : Option α) e = .bad := rfl
inductive Mo where
 | f | b | l
 | d
 deriving DecidableEq
inductive FRes where
 | bad
 | ret (d : D) (ls : List C)
 | fresh (c : C) (ls : List C)
 | exc (x : Xn) (ls : List C)
def encKv (p : Ky × D) : D × D := (kyD p.1, p.2)
def decKv : List (D × D) -> Option (List (Ky × D))
 | [] => some []
 | (k, d) :: r => (keyO k).bind fun q => (decKv r).map ((q, d) :: ·)
theorem key_ky (k : Ky) : keyO (kyD k) = some k := by cases k <;> rfl
theorem dec_enc : ∀ kvs : List (Ky × D), decKv (kvs.map encKv) = some kvs
 | [] => rfl
 | (k, d) :: r => by
  show ((keyO (kyD k)).bind fun q => (decKv (r.map encKv)).map ((q, d) :: ·)) = _
  rw [dec_enc r, key_ky]
  rfl
def Fc.d : Fc -> D
 | .val d => .tuple [d]
 | .lst ds => .list ds
 | .dct kvs => .dict (kvs.map encKv)
def encF (p : Str × Fc) : D := .tuple [.str p.1, p.2.d]
def decFc : D -> Option Fc
 | .tuple [d] => some (.val d)
 | .list ds => some (.lst ds)
 | .dict kvs => (decKv kvs).map .dct
 | _ => none
def decFs : List D -> Option (List (Str × Fc))
 | [] => some []
 | .tuple [.str n, d] :: r => (decFc d).bind fun f => (decFs r).map ((n, f) :: ·)
 | _ => none
theorem decFc_d : ∀ f : Fc, decFc f.d = some f
 | .val _ => rfl
 | .lst _ => rfl
 | .dct kvs => by
  show (decKv (kvs.map encKv)).map Fc.dct = _
  rw [dec_enc]
  rfl
theorem decFs_enc : ∀ fs : List (Str × Fc), decFs (fs.map encF) = some fs
 | [] => rfl
 | (n, f) :: r => by
  show ((decFc f.d).bind fun f => (decFs (r.map encF)).map ((n, f) :: ·)) = _
  rw [decFs_enc r, decFc_d]
  rfl
mutual
def Ot.enc : Ot -> D
 | .v d => .tuple [.int 0, d]
 | .l ts => .tuple (.int 1 :: encTs ts)
 | .k ks ts => .tuple (.int 2 :: .tuple (ks.map kyD) :: encTs ts)
 | .d kvs => .tuple (.int 3 :: kvs.map fun p => .tuple [.tuple (p.1.map .int), p.2])
 | .o cls ns ts => .tuple (.int 4 :: .str cls :: .tuple (ns.map .str) :: encTs ts)
def encTs : List Ot -> List D
 | [] => []
 | t :: ts => t.enc :: encTs ts
end
theorem kyD_inj {a b : Ky} (h : kyD a = kyD b) : a = b := by
 have := congrArg keyO h
 rw [key_ky, key_ky] at this
 exact Option.some.inj this
theorem map_inj' {α β : Type} {f : α -> β} (h : ∀ a b, f a = f b -> a = b) : ∀ {l m : List α}, l.map f = m.map f -> l = m
 | [], [], _ => rfl
 | [], _ :: _, e => by cases e
 | _ :: _, [], e => by cases e
 | a :: l, b :: m, e => by
  rw [List.map_cons, List.map_cons] at e
  obtain ⟨e1, e2⟩ := List.cons.inj e
  rw [h _ _ e1, map_inj' h e2]
mutual
theorem Ot.enc_inj : ∀ {a b : Ot}, a.enc = b.enc -> a = b
 | .v d, b, h => by cases b <;> simp [Ot.enc] at h; rw [h]
 | .l ts, b, h => by cases b <;> simp [Ot.enc] at h; rw [encTs_inj h]
 | .k ks ts, b, h => by cases b <;> simp [Ot.enc] at h; rw [map_inj' (fun _ _ => kyD_inj) h.1, encTs_inj h.2]
 | .d kvs, b, h => by
  cases b <;> simp only [Ot.enc, PyData.tuple.injEq, List.cons.injEq, PyData.int.injEq, reduceCtorEq, false_and, true_and] at h <;> first | (exact absurd h (by simp); done) | skip
  rw [map_inj' (fun p q e => by
   obtain ⟨p1, p2⟩ := p
   obtain ⟨q1, q2⟩ := q
   simp only [PyData.tuple.injEq, List.cons.injEq, and_true] at e
   rw [map_inj' (fun _ _ e => by cases e; rfl) e.1, e.2]) h]
 | .o cls ns ts, b, h => by cases b <;> simp [Ot.enc] at h; rw [h.1, map_inj' (fun _ _ e => by cases e; rfl) h.2.1, encTs_inj h.2.2]
theorem encTs_inj : ∀ {a b : List Ot}, encTs a = encTs b -> a = b
 | [], [], _ => rfl
 | [], _ :: _, h => by simp [encTs] at h
 | _ :: _, [], h => by simp [encTs] at h
 | a :: l, b :: m, h => by
  simp only [encTs, List.cons.injEq] at h
  rw [Ot.enc_inj h.1, encTs_inj h.2]
end
def Ot.nod : Ot -> Bool
 | .v _ => false
 | _ => true
def C.d : C -> D
 | .lst ds => .list ds
 | .dct kvs => .dict (kvs.map encKv)
 | .obj cls fs => .tuple (.str cls :: fs.map encF)
 | .tr t => .tuple [.none, t.enc]
def isL : D -> Bool
 | .list _ => true
 | _ => false
def isN : D -> Bool
 | .none => true
 | _ => false
def big : Nat := 16777216
def bop : Operator -> D -> D -> Option R
 | .Add, .int i, .int j => some (.val (.int (i + j)))
 | .Add, .str x, .str y => if x.length + y.length <= big then some (.val (.str (x ++ y))) else none
 | .Add, .tuple xs, .tuple ys => if xs.length + ys.length <= big then some (.val (.tuple (xs ++ ys))) else none
 | .Add, .list xs, .list ys => if xs.length + ys.length <= big then some (.fresh (.lst (xs ++ ys))) else none
 | .Sub, .int i, .int j => some (.val (.int (i - j)))
 | .Mult, .int i, .int j => if (-(2 ^ 64) < i /\ i < 2 ^ 64) \/ (-(2 ^ 64) < j /\ j < 2 ^ 64) then some (.val (.int (i * j))) else none
 | .Mult, .tuple xs, .int k => if xs ≠ [] /\ 2 <= k /\ k <= 1000 /\ xs.length <= 1000 then some (.val (.tuple (List.replicate k.toNat xs).flatten)) else none
 | .Mult, .str x, .int k => if 0 <= k /\ k <= 1000 /\ x.length <= 1000 then some (.val (.str (Txt.mul x k))) else none
 | .Mult, .list xs, .int k => if -(2 ^ 63) <= k /\ k < 2 ^ 63 /\ xs.length * k.toNat <= big then some (.fresh (.lst (List.replicate k.toNat xs).flatten)) else none
 | .FloorDiv, .int i, .int j => if 0 < j /\ j.natAbs.log2 < 9000 then some (.val (.int (i / j))) else none
 | .Mod, .int i, .int j => if 0 < j then some (.val (.int (i % j))) else none
 | .Pow, .int i, .int j => if 0 <= j /\ j <= 1000000 /\ i.natAbs < 2 ^ 64 then some (.val (.int (i ^ j.toNat))) else none
 | .LShift, .int i, .int j => if 0 <= j /\ j <= 1000000 /\ i.natAbs < 2 ^ 64 then some (.val (.int (i * 2 ^ j.toNat))) else none
 | .RShift, .int i, .int j => if 0 <= j then some (.val (.int (i / 2 ^ j.toNat))) else none
 | .BitAnd, .int i, .int j => some (.val (.int (Builtin.bitAnd i j)))
 | .BitXor, .int i, .int j => some (.val (.int (Builtin.bitXor i j)))
 | .BitOr, .int i, .int j => some (.val (.int (Builtin.bitOr i j)))
 | _, _, _ => none
def ltD (x y : D) : Option Bool := match x, y with
 | .int i, .int j => some (decide (i < j))
 | .str a, .str b => some (decide (a.cps.toList < b.cps.toList))
 | x, y => if W.alike x y = true /\ isN x = false /\ PyData.depth x <= 60 then some (W.dataLt x y) else none
def leD (x y : D) : Option Bool := (ltD y x).map (!·)
def shp (d : D) : Bool := SeqAt.shaped d
def inD : D -> D -> Option Bool
 | .str x, .str z => if x.cps.size = 1 then some (decide (x.cps.getD 0 0 ∈ z.cps.toList)) else none
 | x, .list ys => if shp x = true /\ shp (.list ys) = true then some (ys.any fun y => PyData.eqv y x) else none
 | x, .tuple ys => if shp x = true /\ shp (.tuple ys) = true then some (ys.any fun y => PyData.eqv y x) else none
 | _, _ => none
def isD : D -> D -> Option Bool
 | x, .none => some (isN x)
 | .bool a, .bool b => some (decide (a = b))
 | _, _ => none
def eqD : D -> D -> Option Bool
 | .str a, .str b => some (decide (a = b))
 | x, y => if shp x = true /\ shp y = true then some (PyData.eqv x y) else none
def cop : CmpOp -> D -> D -> Option Bool
 | .Eq, x, y => eqD x y
 | .NotEq, x, y => (eqD x y).map (!·)
 | .Lt, x, y => ltD x y
 | .Gt, x, y => ltD y x
 | .LtE, x, y => leD x y
 | .GtE, x, y => leD y x
 | .Is, x, y => isD x y
 | .IsNot, x, y => (isD x y).map (!·)
 | .In, x, y => inD x y
 | .NotIn, x, y => (inD x y).map (!·)
def iop : D -> D -> Option D
 | .list xs, .int i => L2.atI xs i
 | .tuple xs, .int i => L2.atI xs i
 | .str z, .int i => if z.length <= big then (L2.atI z.cps.toList i).map fun c => .str ⟨#[c]⟩ else none
 | _, _ => none
def cutD {α : Type} (xs : List α) (lo hi : Option Int) : List α := (xs.drop (HT.sIx xs.length 0 lo)).take (HT.sIx xs.length xs.length hi - HT.sIx xs.length 0 lo)
def sop : D -> Option Int -> Option Int -> Option R
 | .list xs, lo, hi => some (.fresh (.lst (cutD xs lo hi)))
 | .tuple xs, lo, hi => some (.val (.tuple (cutD xs lo hi)))
 | .str z, lo, hi => if z.length <= big then some (.val (.str (L2.cutS z lo hi))) else none
 | _, _, _ => none
def truD : D -> Option Bool
 | .none => some false
 | .bool b => some b
 | .int i => some (i != 0)
 | .str x => if x.length <= big then some ((x.length : Int) != 0) else none
 | .list xs => some (!xs.isEmpty)
 | .tuple xs => some (!xs.isEmpty)
 | _ => none
def intsD : List D -> Option (List Int)
 | [] => some []
 | .int i :: r => (intsD r).map (i :: ·)
 | _ => none
def boolsD : List D -> Option (List Bool)
 | [] => some []
 | .bool b :: r => (boolsD r).map (b :: ·)
 | _ => none
def tyN : D -> String
 | .none => "NoneType"
 | .bool _ => "bool"
 | .int _ => "int"
 | .str _ => "str"
 | .list _ => "list"
 | .tuple _ => "tuple"
 | .dict _ => "dict"
def isK (d : D) (t : String) : Option Bool := L2.kitB (tyN d) t
def allAlike (ds : List D) : Bool := ds.all fun d => ds.all fun e => W.alike d e
def sortable (ds : List D) : Bool := (ds.all fun d => match d with | .tuple (_ :: _) => true | _ => false) || (ds.all fun d => match d with | .none => false | .tuple _ => false | _ => true) || match ds with
 | .tuple [] :: _ => ds.all fun d => match d with | .tuple _ => true | _ => false
 | _ => false
def sortD (ds : List D) : List D := ds.mergeSort (fun a b => !W.dataLt b a)
inductive Bi where
 | len | tuple | list | sum | any | all | abs | min2 | max2 | repr | strInt | sorted | minL | maxL | intB | lenset | sortset | sortxor
 deriving DecidableEq
def minI : List Int -> Option Int
 | [] => none
 | x :: r => some (r.foldl (fun a b => if b < a then b else a) x)
def maxI : List Int -> Option Int
 | [] => none
 | x :: r => some (r.foldl (fun a b => if a < b then b else a) x)
def bi : Bi -> List D -> Option R
 | .len, [.list xs] => some (.val (.int xs.length))
 | .len, [.tuple xs] => some (.val (.int xs.length))
 | .len, [.str x] => if x.length <= big then some (.val (.int x.length)) else none
 | .tuple, [.list xs] => some (.val (.tuple xs))
 | .tuple, [.tuple xs] => some (.val (.tuple xs))
 | .list, [.list xs] => some (.fresh (.lst xs))
 | .list, [.tuple xs] => some (.fresh (.lst xs))
 | .sum, [.list xs] => (intsD xs).map fun ns => .val (.int ns.sum)
 | .sum, [.tuple xs] => (intsD xs).map fun ns => .val (.int ns.sum)
 | .any, [.list xs] => (boolsD xs).map fun bs => .val (.bool (bs.any id))
 | .all, [.list xs] => (boolsD xs).map fun bs => .val (.bool (bs.all id))
 | .abs, [.int i] => some (.val (.int (if i < 0 then -i else i)))
 | .minL, [.list xs] => (intsD xs).bind fun ns => (minI ns).map fun n => .val (.int n)
 | .maxL, [.list xs] => (intsD xs).bind fun ns => (maxI ns).map fun n => .val (.int n)
 | .maxL, [.tuple xs] => (intsD xs).bind fun ns => (maxI ns).map fun n => .val (.int n)
 | .min2, [.int i, .int j] => some (.val (.int (if j < i then j else i)))
 | .max2, [.int i, .int j] => some (.val (.int (if j > i then j else i)))
 | .repr, [d] => if d.showable = true /\ d.hasDict = false /\ d.depth <= 60 /\ d.shown.length <= big then some (.val (.str d.shown)) else none
 | .sorted, [.list xs] => if allAlike xs = true /\ sortable xs = true /\ (xs.all fun d => decide (d.depth <= 60)) = true then some (.fresh (.lst (sortD xs))) else none
 | .sorted, [.tuple xs] => if allAlike xs = true /\ sortable xs = true /\ (xs.all fun d => decide (d.depth <= 60)) = true then some (.fresh (.lst (sortD xs))) else none
 | .intB, [.bool b] => some (.val (.int (if b = true then 1 else 0)))
 | .intB, [.str a] => if a.length <= 640 then (PySem.intText? a).map fun n => .val (.int n) else none
 | .strInt, [.int i] => if i.natAbs.log2 < 1920 then some (.val (.str (toString i))) else none
 | _, _ => none
inductive ME where
 | var (i : Nat)
 | con (d : D)
 | glo (x : String) (d : D)
 | tup (es : List ME)
 | lst (es : List ME)
 | bin (op : Operator) (a b : ME)
 | neg (a : ME)
 | cmp (op : CmpOp) (a b : ME)
 | chn (op op' : CmpOp) (a b c : ME)
 | and (a b : ME)
 | or (a b : ME)
 | not (a : ME)
 | ite (c a b : ME)
 | idx (a i : ME)
 | sli (a : ME) (lo hi : Option ME)
 | rev (a : ME)
 | sx (a b : ME)
 | ssl (a : ME)
 | isi (a : ME) (ty : String)
 | bif (f : Bi) (es : List ME)
 | cal (f : String) (es : List ME)
 | mth (m : String) (o : ME) (es : List ME)
 | lc (own : List (String × Nat)) (tg : List Nat) (pair : Bool) (it : ME) (c : Option ME) (e : ME)
 | lcx (own : List (String × Nat)) (tg : List Nat) (pair : Bool) (it : ME) (e : ME)
 | lc2x (own : List (String × Nat)) (tg : List Nat) (pair : Bool) (it : ME) (tg1 : List Nat) (pair1 : Bool) (it1 : ME) (x : ME)
 | lc2 (own : List (String × Nat)) (tg : List Nat) (pair : Bool) (it : ME) (c : Option ME) (tg1 : List Nat) (pair1 : Bool) (it1 : ME) (c1 : Option ME) (e : ME)
 | lc3 (st : Bool) (own : List (String × Nat)) (tg : List Nat) (pair : Bool) (it : ME) (tg1 : List Nat) (pair1 : Bool) (it1 : ME) (tg2 : List Nat) (pair2 : Bool) (it2 : ME) (x : ME)
 | inx (a b : ME)
 | cnt (a b : ME)
 | pop (i : Nat) (k : Option ME)
 | dix (i : Nat) (k : ME)
 | din (n : Bool) (k : ME) (i : Nat)
 | dgt (i : Nat) (k : ME) (x : Option ME)
 | dmk (a : ME)
 | lsi (a : ME)
 | joi (sep : String) (a : ME)
 | spl (a : ME) (sep : String)
 | fmt (a : ME)
 | fst (es : List ME)
 | dg (i : Nat) (k : String)
 | dct (ks : List String) (es : List ME)
 | cak (f : String) (ks : List String) (perm : List Nat) (dl : List (Option Int)) (es kes : List ME)
 | rg1 (a : ME)
 | rg2 (a b : ME)
 | en (e : ME)
 | zp (a b : ME)
 | zps (a b : ME)
 | fz (a : ME)
 | xis (i : Nat) (cs : List String) (tup : Bool)
 | xat (i : Nat) (f : String)
 | rt1 (l : Bool) (a : ME)
 | rt2 (l : Bool) (a b : ME)
 | rt3 (a b c : Int) (n : Nat)
 | ask (i : Nat)
 | lam (h : String) (e : ME)
 | att (i : Nat) (f : String)
 | adx (i : Nat) (f : String) (j : Nat)
 | mko (cls : String) (es : List ME)
 | mca (cls m : String) (i : Nat) (es : List ME)
 | mcm (cls m : String) (es : List ME) (is : List Nat)
 | mcf (cls f : String) (es : List ME) (is : List Nat)
 | fln (i : Nat)
 | fe0 (i : Nat)
 | fap (a b i : Nat) (e : ME)
 | kin (neg : Bool) (g : String) (e : ME)
 | kix (g : String) (e : ME)
 | stp (a : ME) (n : Int)
 | tlk (own : List (String × Nat)) (tg : List Nat) (i : Nat) (c : Option ME) (e : ME)
 | tde
 | tdi (n : Bool) (k : ME) (i : Nat)
 | tdx (i : Nat) (k : ME)
 | tdg (i : Nat) (k x : ME)
 | tdl (i : Nat)
 | tdk (i : Nat)
 | clv (i : Nat) (es : List ME)
 | cdf (f : String) (es : List ME) (gs : List String)
 | cb1 (f : String) (i : Nat) (e : ME)
 | dd1 (k v : ME)
 | dmc (own : List (String × Nat)) (tg : List Nat) (pair : Bool) (it : ME) (c : Option ME) (k v : ME)
 | dls (i : Nat)
 | lck (own : List (String × Nat)) (tg : List Nat) (i : Nat) (c : Option ME) (e : ME)
inductive MS where
 | asg (i : Nat) (e : ME)
 | unp (is : List Nat) (e : ME)
 | stu (is : List Nat) (j : Nat) (e : ME)
 | lks (i : Nat) (g : String) (j : Nat)
 | stf (j i : Nat) (e : ME)
 | unn (i : Nat) (is : List Nat) (e : ME)
 | par (i j : Nat) (a b : ME)
 | par3 (i j l : Nat) (a b c : ME)
 | parL (i j : Nat) (a b : ME)
 | parE (i j : Nat) (a : ME)
 | parO (i j : Nat) (a : ME)
 | parC (i j : Nat) (a : ME) (n : Int)
 | sto (i : Nat) (k e : ME)
 | aug (i : Nat) (op : Operator) (e : ME)
 | app (i : Nat) (e : ME)
 | dst (i : Nat) (k : String) (e : ME)
 | dpt (i : Nat) (k e : ME)
 | tdp (i : Nat) (k e : ME)
 | par0 (i j : Nat) (e : ME)
 | parT (i j : Nat) (a b : ME)
 | ext (i : Nat) (e : ME)
 | upd (i : Nat) (e : ME)
 | ast (i : Nat) (f : String) (own : Bool) (e : ME)
 | adp (i : Nat) (f : String) (j : Nat) (e : ME)
 | exp (e : ME)
 | ret (e : ME)
 | retN
 | ite (c : ME) (t f : List MS)
 | fr (tg : List Nat) (pair : Bool) (it : ME) (b : List MS)
 | frn (i : Nat) (is : List Nat) (it : ME) (b : List MS)
 | for2 (x j : Nat) (e : ME) (b : List MS)
 | whl (c : ME) (b : List MS)
 | rai (cls : String) (es : List ME)
 | tra (i : Nat) (cs : List String) (b su : List MS)
 | tro (cs : List String) (b su : List MS)
 | swp (i : Nat) (k l e : ME)
 | nev
 | pas
 | brk
 | cnt
structure Df where
 name : String
 ps : List String
 mo : List Mo
 N : List String
 body : List MS
 df : List D
structure Hd where
 name : String
 par : String
 N : List String
 body : List MS
inductive Te where
 | fs (fs : List String)
 | dat (d : D)
structure Xt where
 xc : String -> List Str
 sub : Str -> String -> Option Bool
 fld : Str -> String -> Bool
 kn : List String
 hds : List Hd
 mts : List (String × Df)
 atr : Str -> String -> Bool
 tb : String -> Option (List (Str × Te))
structure Gm where
 fn : String -> Option (List Mo × (List D -> FRes))
 fk : String -> Option (List Mo × (List D -> FRes))
 xc : String -> List Str
 sub : Str -> String -> Option Bool
 fld : Str -> String -> Bool
 kn : List String
 fn1 : String -> Option (List Mo × (List D -> FRes))
 fk1 : String -> Option (List Mo × (List D -> FRes))
 fl : String -> Option (List Mo × (List D -> FRes))
 fkl : String -> Option (List Mo × (List D -> FRes))
 lm : String -> AskR -> FRes
 ask : Option (Th × AskR)
 mt : String -> String -> Option (List Mo × (List D -> FRes))
 mt1 : String -> String -> Option (List Mo × (List D -> FRes))
 mtl : String -> String -> Option (List Mo × (List D -> FRes))
 atr : Str -> String -> Bool
 tb : String -> Option (List (Str × Te))
def Gm.lo (G : Gm) : Gm := { G with fn := G.fl, fk := G.fkl, mt := fun _ _ => none, lm := fun _ _ => .bad, ask := none }
def rd (e : Env) : R -> Option D
 | .val d => some d
 | .fresh (.lst ds) => some (.list ds)
 | .fresh _ => none
 | .slot i => match e[i]? with
  | some (.mu _ _ (.lst ds)) => some (.list ds)
  | some (.bo d) => some d
  | _ => none
def esc (e : Env) : R -> Res D
 | .val d => .ok d e
 | .fresh (.lst ds) => .ok (.list ds) e
 | .fresh _ => .bad
 | .slot i => match e[i]? with
  | some (.mu false false (.lst ds)) => .ok (.list ds) (e.set i (.fz (.list ds)))
  | _ => .bad
def setl (e : Env) : R -> Res R
 | .fresh (.lst ds) => .ok (.val (.list ds)) e
 | .fresh _ => .bad
 | r => .ok r e
def rdAll (e : Env) : List R -> Option (List D)
 | [] => some []
 | r :: rs => (rd e r).bind fun d => (rdAll e rs).map (d :: ·)
def escAll : List Mo -> List R -> Env -> Option (List R × Env)
 | [], [], e => some ([], e)
 | .f :: ms, r :: rs, e => match esc e r with
  | .ok d e' => (escAll ms rs e').map fun q => (.val d :: q.1, q.2)
  | _ => none
 | .b :: ms, r :: rs, e => (escAll ms rs e).map fun q => (r :: q.1, q.2)
 | .l :: ms, r :: rs, e => (escAll ms rs e).map fun q => (r :: q.1, q.2)
 | _, _, _ => none
def readAll (e : Env) : List Mo -> List R -> Option (List D × List Nat)
 | [], [] => some ([], [])
 | .f :: ms, .val d :: rs => (readAll e ms rs).map fun q => (d :: q.1, q.2)
 | .b :: ms, r :: rs => (rd e r).bind fun d => (readAll e ms rs).map fun q => (d :: q.1, q.2)
 | .l :: ms, .slot i :: rs => match e[i]? with
  | some (.mu _ false c) => (readAll e ms rs).map fun q => (c.d :: q.1, i :: q.2)
  | _ => none
 | _, _ => none
def apart (ls : List Nat) : List Mo -> List R -> Bool
 | .b :: ms, .slot j :: rs => !ls.contains j && apart ls ms rs
 | _ :: ms, _ :: rs => apart ls ms rs
 | _, _ => true
def uniq : List Nat -> Bool
 | [] => true
 | x :: xs => !xs.contains x && uniq xs
def putBack : List Nat -> List C -> Env -> Option Env
 | [], [], e => some e
 | i :: is, c :: cs, e => match e[i]? with
  | some (.mu t false _) => putBack is cs (e.set i (.mu t false c))
  | _ => none
 | _, _, _ => none
def behind (ls : List Nat) (e : Env) : FRes -> Res R
 | .bad => .bad
 | .ret d cs => match putBack ls cs e with
  | some e' => .ok (.val d) e'
  | none => .bad
 | .fresh c cs => match putBack ls cs e with
  | some e' => .ok (.fresh c) e'
  | none => .bad
 | .exc x cs => match putBack ls cs e with
  | some e' => .exc x e'
  | none => .bad
def callO (o : Option (List Mo × (List D -> FRes))) (rs : List R) (e : Env) : Res R := match o with
 | some (ms, φ) => match escAll ms rs e with
  | some (qs, e2) => match readAll e2 ms qs with
   | some (ds, ls) => if apart ls ms qs = true /\ uniq ls = true then behind ls e2 (φ ds) else .bad
   | none => .bad
  | none => .bad
 | none => .bad
def callD (G : Gm) (f : String) (rs : List R) (e : Env) : Res R := callO (G.fn f) rs e
def itemsD : D -> Option (List D)
 | .list xs => some xs
 | .tuple xs => some xs
 | .str z => some (z.cps.toList.map fun c => .str ⟨#[c]⟩)
 | _ => none
def seqD : D -> Option (List D)
 | .list xs => some xs
 | .tuple xs => some xs
 | _ => none
def rngD (lo : Int) (n : Nat) : List D := (List.range n).map fun (k : Nat) => .int (lo + (k : Int))
def enumD (xs : List D) : List D := xs.zipIdx.map fun p => .tuple [.int p.2, p.1]
def zipD (xs ys : List D) : List D := (xs.zip ys).map fun p => .tuple [p.1, p.2]
def putAll : List Nat -> List D -> Env -> Option Env
 | [], [], e => some e
 | i :: is, d :: ds, e => match e[i]? with
  | some (.mu _ true _) => none
  | some (.mu true _ _) => none
  | some _ => putAll is ds (e.set i (.fz d))
  | none => none
 | _, _, _ => none
def putT (tg : List Nat) (pair : Bool) (d : D) (e : Env) : Option Env := match pair, tg, d with
 | false, [i], d => putAll [i] [d] e
 | true, is, .tuple ds => if ds.length = is.length then putAll is ds e else none
 | true, is, .list ds => if ds.length = is.length then putAll is ds e else none
 | _, _, _ => none
inductive Src where
 | vals (ds : List D)
 | slot (i : Nat) (en : Bool)
def stb (e : Env) : R -> Option D
 | .val d => some d
 | .fresh _ => none
 | .slot i => match e[i]? with
  | some (.bo d) => some d
  | _ => none
def srcOf (en : Bool) (e : Env) : R -> Res Src
 | .val d => (ofO (if en = true then seqD d else itemsD d) e).bind fun ds e1 => .ok (.vals (if en = true then enumD ds else ds)) e1
 | .fresh _ => .bad
 | .slot i => match e[i]? with
  | some (.bo (.list ds)) => .ok (.vals (if en = true then enumD ds else ds)) e
  | some (.mu _ _ (.lst _)) => .ok (.slot i en) e
  | _ => .bad
def lockE (i : Nat) (e : Env) : Option Env := match e[i]? with
 | some (.mu t _ c) => some (e.set i (.mu t true c))
 | _ => none
def unlockE (i : Nat) (e₀ e : Env) : Option Env := match e₀[i]?, e[i]? with
 | some (.mu t k _), some (.mu t' true c) => if t = t' then some (e.set i (.mu t k c)) else none
 | _, _ => none
def itemAt (i : Nat) (en : Bool) (k : Nat) (e : Env) : Option (Option D) := match e[i]? with
 | some (.mu _ true (.lst ds)) => some (if en = true then (ds[k]?).map fun d => .tuple [.int k, d] else ds[k]?)
 | _ => none
def noX {α : Type} : Res α -> Res α
 | .exc _ _ => .bad
 | r => r
def consO : Option D -> List D -> List D
 | some x, r => x :: r
 | none, r => r
def lcGo (turn : D -> Env -> Res (Option D)) : List D -> Env -> Res (List D)
 | [], e => .ok [] e
 | d :: ds, e => (turn d e).bind fun o e1 => (lcGo turn ds e1).bind fun r e2 => .ok (consO o r) e2
def lcGoN (turn : D -> Env -> Res (Option D)) (nx : Nat -> Env -> Option (Option D)) : Nat -> Nat -> Env -> Res (List D)
 | 0, _, _ => .bad
 | n + 1, k, e => match nx k e with
  | none => .bad
  | some none => .ok [] e
  | some (some d) => (turn d e).bind fun o e1 => (lcGoN turn nx n (k + 1) e1).bind fun r e2 => .ok (consO o r) e2
def wipeE (e : Env) : List Nat -> Option Env
 | [] => some e
 | i :: is => match e[i]? with
  | some (.mu _ _ _) => none
  | some _ => wipeE (e.set i .un) is
  | none => none
def backE (e₀ e : Env) : List Nat -> Env
 | [] => e
 | i :: is => backE e₀ (e.set i (e₀[i]?.getD .un)) is
def fnsI (i : Nat) (e : Env) : Option (List String) := match e[i]? with
 | some (.fns fs) => some fs
 | _ => none
abbrev Vc := Env -> Res R
structure Dn where
 v : Vc
 t : Env -> Res Bool
 w : Env -> Res Src
def vN (c : Vc) : Vc := fun e => (c e).bind fun r e1 => setl e1 r
def vD (c : Vc) : Env -> Res D := fun e => (c e).bind fun r e1 => ofO (rd e1 r) e1
def v2 (a b : Vc) : Env -> Res (D × D) := fun e => (vN a e).bind fun r e1 => (vN b e1).bind fun q e2 => (ofO (rd e2 r) e2).bind fun x e3 => (ofO (rd e3 q) e3).bind fun y e4 => .ok (x, y) e4
def vE (c : Vc) : Env -> Res D := fun e => (c e).bind fun r e1 => esc e1 r
def vEs : List Vc -> Env -> Res (List D)
 | [], e => .ok [] e
 | c :: cs, e => (vE c e).bind fun d e1 => (vEs cs e1).bind fun ds e2 => .ok (d :: ds) e2
def vNs : List Vc -> Env -> Res (List R)
 | [], e => .ok [] e
 | c :: cs, e => (vN c e).bind fun d e1 => (vNs cs e1).bind fun ds e2 => .ok (d :: ds) e2
def tOf (c : Vc) : Env -> Res Bool := fun e => (vD c e).bind fun d e1 => ofO (truD d) e1
def wOf (c : Vc) : Env -> Res Src := fun e => (vN c e).bind fun r e1 => srcOf false e1 r
def mkV (c : Vc) : Dn := ⟨c, tOf c, wOf c⟩
def mkT (c : Vc) (t : Env -> Res Bool) : Dn := ⟨c, t, wOf c⟩
def mkW (w : Env -> Res Src) : Dn := ⟨fun _ => .bad, fun _ => .bad, w⟩
def boolR (c : Env -> Res Bool) : Vc := fun e => (c e).bind fun k e1 => .ok (.val (.bool k)) e1
def varC (i : Nat) : Vc := fun e => match e[i]? with
 | some (.fz d) => .ok (.val d) e
 | some (.bo d) => if isL d = true then .ok (.slot i) e else .ok (.val d) e
 | some (.mu _ _ _) => .ok (.slot i) e
 | some (.bt _) => .ok (.slot i) e
 | _ => .bad
def conC (d : D) : Vc := fun e => .ok (.val d) e
def tupC (cs : List Vc) : Vc := fun e => (vEs cs e).bind fun ds e1 => .ok (.val (.tuple ds)) e1
def lstC (cs : List Vc) : Vc := fun e => (vEs cs e).bind fun ds e1 => .ok (.fresh (.lst ds)) e1
def binC (op : Operator) (a b : Vc) : Vc := fun e => (v2 a b e).bind fun p e2 => ofO (bop op p.1 p.2) e2
def negC (a : Vc) : Vc := fun e => (vD a e).bind fun d e1 => match d with
 | .int i => .ok (.val (.int (-i))) e1
 | _ => .bad
def cmpB (op : CmpOp) (a b : Vc) : Env -> Res Bool := fun e => (v2 a b e).bind fun p e2 => ofO (cop op p.1 p.2) e2
def chnB (op op' : CmpOp) (a b c : Vc) : Env -> Res Bool := fun e => (v2 a b e).bind fun p e2 => (ofO (if isL p.2 = true then none else cop op p.1 p.2) e2).bind fun k e3 =>
 if k = true then (vD c e3).bind fun z e4 => ofO (cop op' p.2 z) e4 else .ok false e3
def bolD : D -> Option Bool
 | .bool k => some k
 | _ => none
def andC (a b : Vc) : Vc := fun e => (vD a e).bind fun d e1 => (ofO (bolD d) e1).bind fun k e2 => if k = true then b e2 else .ok (.val (.bool false)) e2
def orC (a b : Vc) : Vc := fun e => (vD a e).bind fun d e1 => (ofO (bolD d) e1).bind fun k e2 => if k = true then .ok (.val (.bool true)) e2 else b e2
def andT (a b : Env -> Res Bool) : Env -> Res Bool := fun e => (a e).bind fun k e1 => if k = true then b e1 else .ok false e1
def orT (a b : Env -> Res Bool) : Env -> Res Bool := fun e => (a e).bind fun k e1 => if k = true then .ok true e1 else b e1
def notC (a : Vc) : Vc := fun e => (vD a e).bind fun d e1 => (ofO (truD d) e1).bind fun k e2 => .ok (.val (.bool (!k))) e2
def notT (a : Env -> Res Bool) : Env -> Res Bool := fun e => (a e).bind fun k e1 => .ok (!k) e1
def iteC (t : Env -> Res Bool) (a b : Vc) : Vc := fun e => (t e).bind fun k e1 => if k = true then a e1 else b e1
def idxC (a i : Vc) : Vc := fun e => (v2 a i e).bind fun p e2 => (ofO (iop p.1 p.2) e2).bind fun d e3 => .ok (.val d) e3
def intD : D -> Option Int
 | .int i => some i
 | _ => none
def optC : Option Vc -> Env -> Res (Option Int)
 | none, e => .ok none e
 | some c, e => (vD c e).bind fun d e1 => (ofO (intD d) e1).bind fun i e2 => .ok (some i) e2
def sliC (a : Vc) (lo hi : Option Vc) : Vc := fun e => (vN a e).bind fun r e1 => (optC lo e1).bind fun x e2 => (optC hi e2).bind fun y e3 => (ofO (rd e3 r) e3).bind fun d e4 => ofO (sop d x y) e4
def revD : D -> Option R
 | .tuple xs => some (.val (.tuple xs.reverse))
 | .list xs => some (.fresh (.lst xs.reverse))
 | _ => none
def revC (a : Vc) : Vc := fun e => (vD a e).bind fun d e1 => ofO (revD d) e1
def insI (k : Int) : List Int -> List Int
 | [] => [k]
 | x :: l => if k < x then k :: x :: l else if k = x then x :: l else x :: insI k l
def symI (ns ms : List Int) : List Int := ((ns.filter fun k => !ms.contains k) ++ (ms.filter fun k => !ns.contains k)).foldr insI []
def intsL : List D -> Option (List Int)
 | [] => some []
 | .int i :: ds => (intsL ds).map (i :: ·)
 | _ => none
def intsT : D -> Option (List Int)
 | .tuple ds => (intsL ds).bind fun ns => if ns.length < 64 then some ns else none
 | _ => none
def sxC (ca cb : Vc) : Vc := fun e => (vD ca e).bind fun d e1 => (ofO (intsT d) e1).bind fun ns e2 => (vD cb e2).bind fun d' e3 => (ofO (intsT d') e3).bind fun ms e4 =>
 (ofO (if ns.length + ms.length < 64 then some (PyData.tuple ((symI ns ms).map .int)) else none) e4).bind fun d e5 => .ok (.val d) e5
def wordsL : List D -> Option (List (List Int))
 | [] => some []
 | .tuple ds :: r => (intsL ds).bind fun k => (wordsL r).map (k :: ·)
 | _ => none
def ddW (ks : List (List Int)) : List (List Int) := ks.foldr (fun k r => if r.contains k = true then r else k :: r) []
def srtK (ks : List (List Int)) : List (List Int) := (ddW ks).mergeSort fun a b => !decide (b < a)
def fewW (ks : List (List Int)) : Bool := decide (ks.length < 64) || (decide ((ddW ks).length < 63) && decide (ks.length <= 4000))
def sslW (ds : List D) : Option R := (wordsL ds).bind fun ks => if fewW ks = true /\ (ks.all fun k => !k.isEmpty) = true then some (.fresh (.lst ((srtK ks).map fun k => .tuple (k.map .int)))) else none
def strsD : List D -> Option (List Str)
 | [] => some []
 | .str x :: r => (strsD r).map (x :: ·)
 | _ => none
def sslT (ys : List Str) : Option R := if ys.length < 64 then some (.fresh (.lst (sortD ((ddT ys).map .str)))) else none
def sslD : D -> Option R
 | .list ds => match intsL ds with
  | some ns => if (ns.foldr insI []).length < 64 /\ ns.length <= 4000 then some (.fresh (.lst ((ns.foldr insI []).map .int))) else none
  | none => match strsD ds with
   | some ys => sslT ys
   | none => sslW ds
 | .tuple ds => match intsL ds with
  | some ns => if (ns.foldr insI []).length < 64 /\ ns.length < 64 then some (.fresh (.lst ((ns.foldr insI []).map .int))) else none
  | none => match strsD ds with
   | some ys => sslT ys
   | none => sslW ds
 | _ => none
def sslC (ca : Vc) : Vc := fun e => (vD ca e).bind fun d e1 => ofO (sslD d) e1
def isiC (a : Vc) (ty : String) : Vc := fun e => (vD a e).bind fun d e1 => (ofO (isK d ty) e1).bind fun k e2 => .ok (.val (.bool k)) e2
def bifC (f : Bi) (cs : List Vc) : Vc := fun e => (vNs cs e).bind fun rs e1 => (ofO (rdAll e1 rs) e1).bind fun ds e2 => ofO (bi f ds) e2
def calC (G : Gm) (f : String) (cs : List Vc) : Vc := fun e => if (G.fn f).isSome = true then (vNs cs e).bind fun rs e1 => callD G f rs e1 else .bad
def keyD (kvs : List (Ky × D)) (k : Ky) : Option D := (kvs.find? fun p => decide (p.1 = k)).map (·.2)
def putD (kvs : List (Ky × D)) (k : Ky) (d : D) : Option (List (Ky × D)) := if (kvs.any fun p => decide (p.1 = k)) = true then some (kvs.map fun p => if p.1 = k then (p.1, d) else p) else none
def dgC (i : Nat) (k : String) : Vc := fun e => match e[i]? with
 | some (.mu _ _ (.dct kvs)) => (ofO (keyD kvs (.inr (Str.ofString k))) e).bind fun d e1 => .ok (.val d) e1
 | _ => .bad
def dctC (ks : List String) (cs : List Vc) : Vc := fun e => (vEs cs e).bind fun ds e1 => .ok (.fresh (.dct (((ks.map Str.ofString).map Sum.inr).zip ds))) e1
def putG (kvs : List (Ky × D)) (k : Ky) (d : D) : List (Ky × D) := if (kvs.any fun p => decide (p.1 = k)) = true then kvs.map fun p => if p.1 = k then (p.1, d) else p else kvs ++ [(k, d)]
def mergeG (acc more : List (Ky × D)) : List (Ky × D) := more.foldl (fun acc p => putG acc p.1 p.2) acc
def dctS : Option Sl -> Option (List (Ky × D))
 | some (.mu _ _ (.dct kvs)) => some kvs
 | _ => none
def dctM : Option Sl -> Option (Bool × List (Ky × D))
 | some (.mu t false (.dct kvs)) => some (t, kvs)
 | _ => none
def dixC (i : Nat) (k : Vc) : Vc := fun e => (ofO (dctS e[i]?) e).bind fun _ e0 => (vD k e0).bind fun kd e1 => (ofO (keyO kd) e1).bind fun q e2 => (ofO (dctS e2[i]?) e2).bind fun kvs e3 => (ofO (keyD kvs q) e3).bind fun d e4 => .ok (.val d) e4
def dinB (n : Bool) (k : Vc) (i : Nat) : Env -> Res Bool := fun e => (vD k e).bind fun kd e1 => (ofO (keyO kd) e1).bind fun q e2 => (ofO (dctS e2[i]?) e2).bind fun kvs e3 => .ok ((keyD kvs q).isSome != n) e3
def dgtC (i : Nat) (k : Vc) : Option Vc -> Vc
 | none => fun e => (ofO (dctS e[i]?) e).bind fun _ e0 => (vD k e0).bind fun kd e1 => (ofO (keyO kd) e1).bind fun q e2 => (ofO (dctS e2[i]?) e2).bind fun kvs e3 => .ok (.val ((keyD kvs q).getD .none)) e3
 | some x => fun e => (ofO (dctS e[i]?) e).bind fun _ e0 => (vE k e0).bind fun kd e1 => (ofO (keyO kd) e1).bind fun q e2 => (vE x e2).bind fun y e3 => (ofO (dctS e3[i]?) e3).bind fun kvs e4 => .ok (.val ((keyD kvs q).getD y)) e4
def pairsD : List D -> Option (List (Ky × D))
 | [] => some []
 | .tuple [k, d] :: r => (keyO k).bind fun q => (pairsD r).map ((q, d) :: ·)
 | _ => none
def seqO : D -> Option (List D)
 | .list xs => some xs
 | .tuple xs => some xs
 | _ => none
def dmkC (a : Vc) : Vc := fun e => (vD a e).bind fun d e1 => (ofO (seqO d) e1).bind fun ds e2 => (ofO (pairsD ds) e2).bind fun kvs e3 => .ok (.fresh (.dct (mergeG [] kvs))) e3
def muLs : Option Sl -> Option (Bool × List D)
 | some (.mu t false (.lst xs)) => some (t, xs)
 | _ => none
def popC (i : Nat) : Option Vc -> Vc
 | none => fun e => (ofO (muLs e[i]?) e).bind fun p e1 => (ofO p.2[p.2.length - 1]? e1).bind fun d e2 => .ok (.val d) (e2.set i (.mu p.1 false (.lst p.2.dropLast)))
 | some k => fun e => (ofO (muLs e[i]?) e).bind fun _ e0 => (vD k e0).bind fun kd e1 => (ofO (intD kd) e1).bind fun n e2 => (ofO (muLs e2[i]?) e2).bind fun p e3 => (ofO (if p.2.length <= big then L2.ixN p.2.length n else none) e3).bind fun j e4 => (ofO p.2[j]? e4).bind fun d e5 => .ok (.val d) (e5.set i (.mu p.1 false (.lst (p.2.eraseIdx j))))
def lstO (e : Env) (r : R) : Option Unit := match rd e r with
 | some (.list _) => some ()
 | _ => none
def cntD (x d : D) : Option Nat := match x with
 | .list ds => if shp d = true /\ shp (.list ds) = true then some (ds.countP fun z => PyData.eqv z d) else none
 | _ => none
def cntC (a b : Vc) : Vc := fun e => (vN a e).bind fun r e1 => (ofO (lstO e1 r) e1).bind fun _ e2 => (vN b e2).bind fun q e3 => (ofO (rd e3 r) e3).bind fun x e4 => (ofO (rd e4 q) e4).bind fun y e5 => (ofO (cntD x y) e5).bind fun n e6 => .ok (.val (.int (n : Nat))) e6
def lsiW (ds : List D) : Option Int := (wordsL ds).bind fun ks => if fewW ks = true then some ((ddW ks).length : Nat) else none
@[simp] def lsiT (ds : List D) : Option Int := match strsD ds with
 | some ys => if ys.length <= 4000 then some (unl ys ys.length : Nat) else none
 | none => lsiW ds
def lsiD : D -> Option Int
 | .list ds => match intsL ds with
  | some ns => if ns.length <= 4000 then some ((ns.foldr insI []).length : Nat) else none
  | none => lsiT ds
 | .tuple ds => lsiT ds
 | _ => none
def lsiC (a : Vc) : Vc := fun e => (vD a e).bind fun d e1 => (ofO (lsiD d) e1).bind fun n e2 => .ok (.val (.int n)) e2
def idxD (k : Bool) (x d : D) : Option Nat := match k, x with
 | false, .list ds => if shp d = true /\ shp (.list ds) = true then ds.findIdx? (fun z => PyData.eqv z d) else none
 | true, .tuple ds => match d with
  | .str z => (strsD ds).bind fun ys => ys.findIdx? (fun y => decide (y = z))
  | _ => none
 | _, _ => none
def lsqO (e : Env) (r : R) : Option Bool := match rd e r with
 | some (.list _) => some false
 | some (.tuple _) => some true
 | _ => none
def inxC (a b : Vc) : Vc := fun e => (vN a e).bind fun r e1 => (ofO (lsqO e1 r) e1).bind fun k e2 => (vN b e2).bind fun q e3 => (ofO (rd e3 r) e3).bind fun x e4 => (ofO (rd e4 q) e4).bind fun y e5 => (ofO (idxD k x y) e5).bind fun n e6 => .ok (.val (.int (n : Nat))) e6
def joiD (sep : Str) (d : D) : Option D := (seqO d).bind fun ds => (strsD ds).bind fun ys => if (ys.map (·.length)).sum + ys.length * sep.length <= big then some (.str (Txt.join sep ys)) else none
def joiC (sep : String) (a : Vc) : Vc := fun e => (vD a e).bind fun d e1 => (ofO (joiD (Str.ofString sep) d) e1).bind fun x e2 => .ok (.val x) e2
def splD (sep : Str) : D -> Option (List D)
 | .str x => if x.length + 2 <= big then some ((Txt.split x sep).map .str) else none
 | _ => none
def splC (a : Vc) (sep : String) : Vc := fun e => (vD a e).bind fun d e1 => (ofO (splD (Str.ofString sep) d) e1).bind fun ys e2 => .ok (.fresh (.lst ys)) e2
def fmtD : D -> Option D
 | .str x => if x.length <= big then some (.str x) else none
 | .int i => if i.natAbs.log2 < 1920 then some (.str (toString i)) else none
 | _ => none
def fmtC (a : Vc) : Vc := fun e => (vD a e).bind fun d e1 => (ofO (fmtD d) e1).bind fun x e2 => .ok (.val x) e2
def catS (acc : Str) : D -> Option Str
 | .str x => if (acc ++ x).length <= big then some (acc ++ x) else none
 | _ => none
def fstGo : List Vc -> Str -> Env -> Res Str
 | [], acc, e => .ok acc e
 | c :: cs, acc, e => (vE c e).bind fun d e1 => (ofO (catS acc d) e1).bind fun acc' e2 => fstGo cs acc' e2
def fstC (cs : List Vc) : Vc := fun e => (fstGo cs Str.empty e).bind fun x e1 => .ok (.val (.str x)) e1
def pick {α : Type} : List Nat -> List α -> Option (List α)
 | [], _ => some []
 | i :: is, l => (l[i]?).bind fun a => (pick is l).map (a :: ·)
def dfD : Option Int -> D
 | some n => .int n
 | none => .tuple []
def cakC (G : Gm) (f : String) (perm : List Nat) (dl : List (Option Int)) (cs : List Vc) : Vc := fun e => if (G.fk f).isSome = true then (vNs cs e).bind fun rs e1 => (ofO (pick perm (rs ++ dl.map fun d => R.val (dfD d))) e1).bind fun qs e2 => callO (G.fk f) qs e2 else .bad
def tstC : Option (Env -> Res Bool) -> Env -> Res Bool
 | none, e => .ok true e
 | some t, e => t e
def lcTurn (own : List Nat) (tg : List Nat) (pair : Bool) (c : Option (Env -> Res Bool)) (x : Vc) : D -> Env -> Res (Option D) := fun d s =>
 match putT tg pair d s with
 | none => .bad
 | some s1 => noX ((tstC c s1).bind fun k s2 => if k = true then (vE x s2).bind fun d s3 => match wipeE s3 own with
    | some s4 => .ok (some d) s4
    | none => .bad
     else match wipeE s2 own with
    | some s4 => .ok none s4
    | none => .bad)
def lcRun (own : List Nat) (turn : D -> Env -> Res (Option D)) : Src -> Env -> Res (List D)
 | .vals ds, e => match wipeE e own with
  | none => .bad
  | some e2 => if ds.length < big then (lcGo turn ds e2).bind fun ds e3 => .ok ds (backE e e3 own) else .bad
 | .slot i en, e => match lockE i e with
  | none => .bad
  | some e1 => match wipeE e1 own with
   | none => .bad
   | some e2 => (lcGoN turn (itemAt i en) 1000000 0 e2).bind fun ds e3 => (ofO (unlockE i e (backE e1 e3 own)) e3).bind fun e4 _ => .ok ds e4
def lcC (own : List Nat) (tg : List Nat) (pair : Bool) (w : Env -> Res Src) (c : Option (Env -> Res Bool)) (x : Vc) : Vc := fun e =>
 (w e).bind fun p e1 => (lcRun own (lcTurn own tg pair c x) p e1).bind fun ds e2 => .ok (.fresh (.lst ds)) e2
def lcTurnX (own : List Nat) (tg : List Nat) (pair : Bool) (x : Vc) : D -> Env -> Res (Option D) := fun d s =>
 match putT tg pair d s with
 | none => .bad
 | some s1 => match vE x s1 with
  | .bad => .bad
  | .ok d s3 => (match wipeE s3 own with
   | some s4 => .ok (some d) s4
   | none => .bad)
  | .exc y s3 => (match wipeE s3 own with
   | some s4 => .exc y s4
   | none => .bad)
def endX {α : Type} (f : Env -> Option Env) : Res α -> Res α
 | .bad => .bad
 | .ok a e => (match f e with
  | some e' => .ok a e'
  | none => .bad)
 | .exc y e => (match f e with
  | some e' => .exc y e'
  | none => .bad)
def lcRunX (own : List Nat) (turn : D -> Env -> Res (Option D)) : Src -> Env -> Res (List D)
 | .vals ds, e => match wipeE e own with
  | none => .bad
  | some e2 => if ds.length < big then endX (fun e3 => some (backE e e3 own)) (lcGo turn ds e2) else .bad
 | .slot i en, e => match lockE i e with
  | none => .bad
  | some e1 => match wipeE e1 own with
   | none => .bad
   | some e2 => endX (fun e3 => unlockE i e (backE e1 e3 own)) (lcGoN turn (itemAt i en) 1000000 0 e2)
def lcxC (own : List Nat) (tg : List Nat) (pair : Bool) (w : Env -> Res Src) (x : Vc) : Vc := fun e =>
 (w e).bind fun p e1 => (lcRunX own (lcTurnX own tg pair x) p e1).bind fun ds e2 => .ok (.fresh (.lst ds)) e2
def dd1C (k v : Vc) : Vc := fun e => (vE k e).bind fun kd e1 => (ofO (keyO kd) e1).bind fun q e2 => (vE v e2).bind fun d e3 => .ok (.fresh (.dct [(q, d)])) e3
def dlsC (i : Nat) : Vc := fun e => (ofO (dctS e[i]?) e).bind fun kvs e1 => .ok (.fresh (.lst (kvs.map fun p => kyD p.1))) e1
def lckC (own : List Nat) (tg : List Nat) (i : Nat) (c : Option (Env -> Res Bool)) (x : Vc) : Vc := fun e => (ofO (dctM e[i]?) e).bind fun p _ => match wipeE (e.set i .un) own with
 | none => .bad
 | some e2 => if p.2.length < big /\ p.1 = false then (lcGo (lcTurn own tg false c x) (p.2.map fun q => kyD q.1) e2).bind fun ds e3 => match (backE (e.set i .un) e3 own)[i]? with
   | some .un => .ok (.fresh (.lst ds)) ((backE (e.set i .un) e3 own).set i (.mu false false (.dct p.2)))
   | _ => .bad
  else .bad
def pickL {α : Type} (xs : List α) (n : Int) : List α := (sliceRange 0 xs.length n).filterMap (xs[·]?)
def stpD (n : Int) : D -> Option R
 | .list ds => some (.fresh (.lst (pickL ds n)))
 | _ => none
def stpC (a : Vc) (n : Int) : Vc := fun e => (vD a e).bind fun d e1 => (ofO (stpD n d) e1).bind fun r e2 => .ok r e2
def wF (c : Vc) : Env -> Res Src := fun e => (vE c e).bind fun d e1 => (ofO (itemsD d) e1).bind fun ds e2 => .ok (.vals ds) e2
def lc2Go (turn : D -> Env -> Res (List D)) : List D -> Env -> Res (List D)
 | [], e => .ok [] e
 | d :: ds, e => (turn d e).bind fun o e1 => (lc2Go turn ds e1).bind fun r e2 => .ok (o ++ r) e2
def lc2GoN (turn : D -> Env -> Res (List D)) (nx : Nat -> Env -> Option (Option D)) : Nat -> Nat -> Env -> Res (List D)
 | 0, _, _ => .bad
 | n + 1, k, e => match nx k e with
  | none => .bad
  | some none => .ok [] e
  | some (some d) => (turn d e).bind fun o e1 => (lc2GoN turn nx n (k + 1) e1).bind fun r e2 => .ok (o ++ r) e2
def appsC (G : Gm) (a b : Nat) : List String -> List D -> Env -> Res (List D)
 | [], [], e => .ok [] e
 | f :: fs, d :: ds, e => noX ((callD G f [.val d] ((e.set a (.fnc f)).set b (.fz d))).bind fun r e1 => (esc e1 r).bind fun x e2 => (ofO (wipeE e2 [a, b]) e2).bind fun e3 _ => (appsC G a b fs ds e3).bind fun rs e4 => .ok (x :: rs) e4)
 | _, _, _ => .bad
def lstO' : D -> Option (List D)
 | .list ds => some ds
 | _ => none
def flnC (i : Nat) : Vc := fun e => (ofO (fnsI i e) e).bind fun fs e1 => .ok (.val (.int fs.length)) e1
def fe0B (i : Nat) : Env -> Res Bool := fun e => (ofO (fnsI i e) e).bind fun fs e1 => .ok fs.isEmpty e1
def fsO : Option Te -> Option (List String)
 | none => some []
 | some (.fs fs) => some fs
 | some (.dat _) => none
def datO : Option Te -> Option D
 | some (.dat d) => some d
 | _ => none
def strO' : D -> Option Str
 | .str x => some x
 | _ => none
def kinB (G : Gm) (n : Bool) (g : String) (c : Vc) : Env -> Res Bool := fun e => (ofO (G.tb g) e).bind fun tbl e0 => (vD c e0).bind fun d e1 => (ofO (strO' d) e1).bind fun x e2 => .ok (if n = true then !(tbl.lookup x).isSome else (tbl.lookup x).isSome) e2
def kixC (G : Gm) (g : String) (c : Vc) : Vc := fun e => (ofO (G.tb g) e).bind fun tbl e0 => (vD c e0).bind fun d e1 => (ofO (strO' d) e1).bind fun x e2 => (ofO (datO (tbl.lookup x)) e2).bind fun d e3 => .ok (.val d) e3
def fapC (G : Gm) (a b i : Nat) (c : Vc) : Vc := fun e => (ofO (fnsI i e) e).bind fun fs e0 => (vE c e0).bind fun d e1 => (ofO (lstO' d) e1).bind fun ds e2 => if fs.length = ds.length /\ ds.length < big /\ a ≠ b then match wipeE e2 [a, b] with
  | none => .bad
  | some e3 => (appsC G a b fs ds e3).bind fun rs e4 => .ok (.fresh (.lst rs)) (backE e2 e4 [a, b])
 else .bad
def lcIn (tg1 : List Nat) (turn : D -> Env -> Res (Option D)) : Src -> Env -> Res (List D)
 | .vals ds, e => match wipeE e tg1 with
  | none => .bad
  | some e2 => if ds.length < big then lcGo turn ds e2 else .bad
 | .slot _ _, _ => .bad
def lc2Turn (own : List Nat) (tg : List Nat) (pair : Bool) (c : Option (Env -> Res Bool)) (w1 : Env -> Res Src) (tg1 : List Nat) (turn1 : D -> Env -> Res (Option D)) : D -> Env -> Res (List D) := fun d s =>
 match putT tg pair d s with
 | none => .bad
 | some s1 => noX ((tstC c s1).bind fun k s2 => if k = true then (w1 s2).bind fun p s3 => (lcIn tg1 turn1 p s3).bind fun ds s4 => match wipeE s4 own with
    | some s5 => .ok ds s5
    | none => .bad
     else match wipeE s2 own with
    | some s4 => .ok [] s4
    | none => .bad)
def lc2Run (own : List Nat) (turn : D -> Env -> Res (List D)) : Src -> Env -> Res (List D)
 | .vals ds, e => match wipeE e own with
  | none => .bad
  | some e2 => (lc2Go turn ds e2).bind fun rs e3 => if rs.length < big /\ ds.length < big then .ok rs (backE e e3 own) else .bad
 | .slot i en, e => match lockE i e with
  | none => .bad
  | some e1 => match wipeE e1 own with
   | none => .bad
   | some e2 => (lc2GoN turn (itemAt i en) 1000000 0 e2).bind fun rs e3 => if rs.length < big then (ofO (unlockE i e (backE e1 e3 own)) e3).bind fun e4 _ => .ok rs e4 else .bad
def lc2C (own : List Nat) (tg : List Nat) (pair : Bool) (w : Env -> Res Src) (c : Option (Env -> Res Bool)) (tg1 : List Nat) (pair1 : Bool) (w1 : Env -> Res Src) (c1 : Option (Env -> Res Bool)) (x : Vc) : Vc := fun e =>
 (w e).bind fun p e1 => (lc2Run own (lc2Turn own tg pair c w1 tg1 (lcTurn tg1 tg1 pair1 c1 x)) p e1).bind fun ds e2 => .ok (.fresh (.lst ds)) e2
def lc2TurnX (own tg : List Nat) (pair : Bool) (w1 : Env -> Res Src) (tg1 : List Nat) (turn1 : D -> Env -> Res (Option D)) : D -> Env -> Res (List D) := fun d s =>
 match putT tg pair d s with
 | none => .bad
 | some s1 => match w1 s1 with
  | .bad => .bad
  | .exc y s3 => (match wipeE s3 own with
   | some s4 => .exc y s4
   | none => .bad)
  | .ok p s3 => noX ((lcIn tg1 turn1 p s3).bind fun ds s4 => if ds.length < 1024 then (match wipeE s4 own with
   | some s5 => .ok ds s5
   | none => .bad) else .bad)
def lc2RunX (own : List Nat) (turn : D -> Env -> Res (List D)) : Src -> Env -> Res (List D)
 | .vals ds, e => match wipeE e own with
  | none => .bad
  | some e2 => if ds.length < 1024 then endX (fun e3 => some (backE e e3 own)) (lc2Go turn ds e2) else .bad
 | .slot _ _, _ => .bad
def lc2xC (own tg : List Nat) (pair : Bool) (w : Env -> Res Src) (tg1 : List Nat) (pair1 : Bool) (w1 : Env -> Res Src) (x : Vc) : Vc := fun e =>
 (w e).bind fun p e1 => (lc2RunX own (lc2TurnX own tg pair w1 tg1 (lcTurn tg1 tg1 pair1 none x)) p e1).bind fun ds e2 => .ok (.fresh (.lst ds)) e2
def cgTurn (own tg : List Nat) (pair : Bool) (c : Option (Env -> Res Bool)) (bd : Env -> Res (List D)) : D -> Env -> Res (List D) := fun d s =>
 match putT tg pair d s with
 | none => .bad
 | some s1 => noX ((tstC c s1).bind fun k s2 => if k = true then (bd s2).bind fun ds s3 => match wipeE s3 own with
    | some s4 => .ok ds s4
    | none => .bad
     else match wipeE s2 own with
    | some s4 => .ok [] s4
    | none => .bad)
def cgIn (own : List Nat) (turn : D -> Env -> Res (List D)) : Src -> Env -> Res (List D)
 | .vals ds, e => match wipeE e own with
  | none => .bad
  | some e2 => if ds.length < big then lc2Go turn ds e2 else .bad
 | .slot _ _, _ => .bad
def cgLev (w : Env -> Res Src) (own : List Nat) (turn : D -> Env -> Res (List D)) : Env -> Res (List D) := fun e => (w e).bind fun p e1 => cgIn own turn p e1
def cgEm (x : Vc) : Env -> Res (List D) := fun e => (vE x e).bind fun d e1 => .ok [d] e1
def lc3R : Bool -> List D -> Option R
 | false, ds => some (.fresh (.lst ds))
 | true, ds => (wordsL ds).bind fun ks => if (ddW ks).length < 63 /\ (ks.all fun k => !k.isEmpty) = true then some (.fresh (.lst ((srtK ks).map fun k => .tuple (k.map .int)))) else none
def lc3T (own tg : List Nat) (pair : Bool) (tg1 : List Nat) (pair1 : Bool) (w1 : Env -> Res Src) (tg2 : List Nat) (pair2 : Bool) (w2 : Env -> Res Src) (x : Vc) : D -> Env -> Res (List D) :=
 cgTurn own tg pair none (cgLev w1 (tg1 ++ tg2) (cgTurn (tg1 ++ tg2) tg1 pair1 none (cgLev w2 tg2 (cgTurn tg2 tg2 pair2 none (cgEm x)))))
def lc3C (st : Bool) (own tg : List Nat) (pair : Bool) (w : Env -> Res Src) (tg1 : List Nat) (pair1 : Bool) (w1 : Env -> Res Src) (tg2 : List Nat) (pair2 : Bool) (w2 : Env -> Res Src) (x : Vc) : Vc := fun e =>
 (w e).bind fun p e1 => (lc2Run own (lc3T own tg pair tg1 pair1 w1 tg2 pair2 w2 x) p e1).bind fun ds e2 => ofO (lc3R st ds) e2
def rg1W (a : Vc) : Env -> Res Src := fun e => (vD a e).bind fun d e1 => (ofO (intD d) e1).bind fun j e2 => if -(big : Int) <= j /\ j <= big then .ok (.vals (rngD 0 j.toNat)) e2 else .bad
def rg2W (a b : Vc) : Env -> Res Src := fun e => (v2 a b e).bind fun p e1 => (ofO (intD p.1) e1).bind fun i e2 => (ofO (intD p.2) e2).bind fun j e3 =>
 if -(big : Int) <= i /\ i <= big /\ -(big : Int) <= j /\ j <= big then .ok (.vals (rngD i (j - i).toNat)) e3 else .bad
def enW (a : Vc) : Env -> Res Src := fun e => (vN a e).bind fun r e1 => srcOf true e1 r
def zpW (a b : Vc) : Env -> Res Src := fun e => (vN a e).bind fun r e1 => (vN b e1).bind fun q e2 => (ofO (stb e2 r) e2).bind fun x e3 => (ofO (stb e3 q) e3).bind fun y e4 =>
 (ofO (seqD x) e4).bind fun xs e5 => (ofO (seqD y) e5).bind fun ys e6 => if isL x = isL y then .ok (.vals (zipD xs ys)) e6 else .bad
def zpsW (a b : Vc) : Env -> Res Src := fun e => (vN a e).bind fun r e1 => (vN b e1).bind fun q e2 => (ofO (stb e2 r) e2).bind fun x e3 => (ofO (stb e3 q) e3).bind fun y e4 =>
 (ofO (seqD x) e4).bind fun xs e5 => (ofO (seqD y) e5).bind fun ys e6 => if xs.length = ys.length then .ok (.vals (zipD xs ys)) e6 else .bad
noncomputable def okRg (i j : Int) : Bool := @decide ((-(big : Int) <= i /\ i <= big /\ -(big : Int) <= j /\ j <= big) /\ (j - i).toNat <= big) (Classical.propDecidable _)
noncomputable def rtR (q : Bool) : D -> D -> Option R
 | .int i, .int j => if okRg i j = true then some (if q = true then .fresh (.lst (rngD i (j - i).toNat)) else .val (.tuple (rngD i (j - i).toNat))) else none
 | _, _ => none
noncomputable def rt1C (q : Bool) (a : Vc) : Vc := fun e => (vD a e).bind fun d e1 => ofO (rtR q (.int 0) d) e1
noncomputable def rt2C (q : Bool) (a b : Vc) : Vc := fun e => (v2 a b e).bind fun p e1 => ofO (rtR q p.1 p.2) e1
def rng3D (a c : Int) (n : Nat) : List D := (List.range n).map fun (k : Nat) => .int (a + (k : Int) * c)
def rt3C (a c : Int) (n : Nat) : Vc := fun e => .ok (.fresh (.lst (rng3D a c n))) e
def anyX (G : Gm) (c : Str) : List String -> Option Bool
 | [] => some false
 | x :: r => match G.sub c x, anyX G c r with
  | some b, some d => some (b || d)
  | _, _ => none
def xisC (G : Gm) (i : Nat) (cs : List String) : Vc := fun e => match e[i]? with
 | some (.xc x) => match anyX G x.cls cs with
  | some b => .ok (.val (.bool b)) e
  | none => .bad
 | _ => .bad
def xatC (G : Gm) (i : Nat) (f : String) : Vc := fun e => match e[i]? with
 | some (.xc x) => if G.fld x.cls f = false then .bad else match x.fs.lookup (Str.ofString f) with
  | some d => .ok (.val d) e
  | none => .bad
 | _ => .bad
def fzS : Sl -> Sl
 | .fz d => .fz d
 | .bo d => if isL d = true then .un else .fz d
 | _ => .un
def fzE (e : Env) : Env := e.map fzS
noncomputable def askC (G : Gm) (i : Nat) : Vc := fun e => match e[i]?, G.ask with
 | some (.th f), some (g, t) => @ite _ (f = g) (Classical.propDecidable _) (match t with
   | .val d => .ok (.val d) e
   | .exc x => .exc x e) .bad
 | _, _ => .bad
def asked : Res R -> Option AskR
 | .ok (.val d) _ => some (.val d)
 | .exc x _ => some (.exc x)
 | _ => none
def lamC (G : Gm) (h : String) (c : Vc) : Vc := fun e => match asked (c (fzE e)) with
 | some t => match G.lm h t with
  | .ret d [] => .ok (.val d) e
  | .fresh c [] => .ok (.fresh c) e
  | _ => .bad
 | none => .bad
def atT (kvs : List (List Int × D)) (k : List Int) : Option D := (kvs.find? fun p => decide (p.1 = k)).map (·.2)
def putT2 (kvs : List (List Int × D)) (k : List Int) (d : D) : List (List Int × D) := if (atT kvs k).isSome then kvs.map fun p => if p.1 = k then (p.1, d) else p else kvs ++ [(k, d)]
def keyT : D -> Option (List Int)
 | .tuple ds => intsL ds
 | _ => none
def trS : Option Sl -> Option Ot
 | some (.mu _ _ (.tr u)) => some u
 | some (.bt u) => some u
 | _ => none
def trM : Option Sl -> Option (Bool × Ot)
 | some (.mu t false (.tr u)) => some (t, u)
 | _ => none
def dtT : Ot -> Option (List (List Int × D))
 | .d kvs => some kvs
 | _ => none
def tdS (o : Option Sl) : Option (List (List Int × D)) := (trS o).bind dtT
def tdM : Option Sl -> Option (Bool × List (List Int × D))
 | some (.mu t false (.tr (.d kvs))) => some (t, kvs)
 | _ => none
def tdeC : Vc := fun e => .ok (.fresh (.tr (.d []))) e
def tdiB (n : Bool) (k : Vc) (i : Nat) : Env -> Res Bool := fun e => (vD k e).bind fun kd e1 => (ofO (keyT kd) e1).bind fun q e2 => (ofO (tdS e2[i]?) e2).bind fun kvs e3 => .ok ((atT kvs q).isSome != n) e3
def tdxC (i : Nat) (k : Vc) : Vc := fun e => (ofO (tdS e[i]?) e).bind fun _ e0 => (vD k e0).bind fun kd e1 => (ofO (keyT kd) e1).bind fun q e2 => (ofO (tdS e2[i]?) e2).bind fun kvs e3 => (ofO (atT kvs q) e3).bind fun d e4 => .ok (.val d) e4
def tdgC (i : Nat) (k x : Vc) : Vc := fun e => (ofO (tdS e[i]?) e).bind fun _ e0 => (vE k e0).bind fun kd e1 => (ofO (keyT kd) e1).bind fun q e2 => (vE x e2).bind fun y e3 => (ofO (tdS e3[i]?) e3).bind fun kvs e4 => .ok (.val ((atT kvs q).getD y)) e4
def tdlC (i : Nat) : Vc := fun e => (ofO (tdS e[i]?) e).bind fun kvs e1 => if kvs.length <= big then .ok (.val (.int kvs.length)) e1 else .bad
def keysT (kvs : List (List Int × D)) : List D := kvs.map fun p => .tuple (p.1.map .int)
def tlkC (own : List Nat) (tg : List Nat) (i : Nat) (c : Option (Env -> Res Bool)) (x : Vc) : Vc := fun e => (ofO (tdM e[i]?) e).bind fun p _ => match wipeE (e.set i (.bt (.d p.2))) own with
 | none => .bad
 | some e2 => if p.2.length < big /\ p.1 = false then (lcGo (lcTurn own tg false c x) (keysT p.2) e2).bind fun ds e3 => match (backE (e.set i (.bt (.d p.2))) e3 own)[i]? with
   | some (.bt _) => .ok (.fresh (.lst ds)) ((backE (e.set i (.bt (.d p.2))) e3 own).set i (.mu false false (.tr (.d p.2))))
   | _ => .bad
  else .bad
def tdkC (i : Nat) : Vc := fun e => (ofO (tdS e[i]?) e).bind fun kvs e1 => (ofO (if kvs.length <= big then bi .sorted [.list (keysT kvs)] else none) e1).bind fun r e2 => .ok r e2
def atO : Option Sl -> Str -> Option (Str × Fc)
 | some (.mu _ _ (.obj c fs)), f => (fs.lookup f).map fun x => (c, x)
 | _, _ => none
def attC (G : Gm) (i : Nat) (f : String) : Vc := fun e => match atO e[i]? (Str.ofString f) with
 | some (c, .val d) => if G.atr c f = true then .ok (.val d) e else .bad
 | _ => .bad
def adO (G : Gm) (o : Option Sl) (f : String) : Option (List (Ky × D)) := match atO o (Str.ofString f) with
 | some (c, .dct kvs) => if G.atr c f = true then some kvs else none
 | _ => none
def nmD (e : Env) (j : Nat) : Option D := match e[j]? with
 | some (.fz d) => some d
 | some (.bo d) => if isL d = true then none else some d
 | _ => none
def adxC (G : Gm) (i : Nat) (f : String) (j : Nat) : Vc := fun e => (ofO (adO G e[i]? f) e).bind fun kvs e0 => (ofO ((nmD e0 j).bind keyO) e0).bind fun q e1 => (ofO (keyD kvs q) e1).bind fun d e2 => .ok (.val d) e2
inductive ORes where
 | bad
 | ok (r : R) (c : C) (e : Env)
 | exc (x : Xn) (e : Env)
def behindN (ls : List Nat) (e : Env) : FRes -> ORes
 | .ret d (c :: cs) => match putBack ls cs e with
  | some e' => .ok (.val d) c e'
  | none => .bad
 | .fresh d (c :: cs) => match putBack ls cs e with
  | some e' => .ok (.fresh d) c e'
  | none => .bad
 | .exc x (_ :: cs) => match putBack ls cs e with
  | some e' => .exc x e'
  | none => .bad
 | _ => .bad
def callN (ms : List Mo) (φ : List D -> FRes) (c : C) (qs : List R) (e : Env) : ORes := match readAll e ms qs with
 | some (ds, ls) => if apart ls ms qs = true /\ uniq ls = true then behindN ls e (φ (c.d :: ds)) else .bad
 | none => .bad
def mkoC (G : Gm) (cls : String) (cs : List Vc) : Vc := fun e => match G.mt cls "__init__" with
 | some (.l :: ms, φ) => (vNs cs e).bind fun rs e1 => match escAll ms rs e1 with
  | some (qs, e2) => match callN ms φ (.obj (Str.ofString cls) []) qs e2 with
   | .ok (.val .none) c e3 => .ok (.fresh c) e3
   | .exc x e3 => .exc x e3
   | _ => .bad
  | none => .bad
 | _ => .bad
def clsO : Option Sl -> Option (Str × List (Str × Fc))
 | some (.mu _ false (.obj c fs)) => some (c, fs)
 | _ => none
def mcaC (G : Gm) (cls m : String) (i : Nat) (cs : List Vc) : Vc := fun e => (ofO (clsO e[i]?) e).bind fun p e0 => if p.1 = Str.ofString cls /\ (p.2.lookup (Str.ofString m)).isSome = false /\ (G.mt cls m).isSome = true then (vNs cs e0).bind fun rs e1 => callO (G.mt cls m) (.slot i :: rs) e1 else .bad
def namesR (e : Env) : List Nat -> Option (List R)
 | [] => some []
 | i :: is => match varC i e with
  | .ok r _ => (namesR e is).map (r :: ·)
  | _ => none
def mcmC (G : Gm) (cls m : String) (cs : List Vc) (is : List Nat) : Vc := fun e => (mkoC G cls cs e).bind fun r e1 => match r with
 | .fresh (.obj c fs) => if c = Str.ofString cls /\ (fs.lookup (Str.ofString m)).isSome = false then match G.mt cls m, namesR e1 is with
  | some (.l :: ms, φ), some rs => match callN ms φ (.obj c fs) rs e1 with
   | .ok r _ e2 => .ok r e2
   | .exc x e2 => .exc x e2
   | .bad => .bad
  | _, _ => .bad
  else .bad
 | _ => .bad
def mcfC (G : Gm) (cls f : String) (cs : List Vc) (is : List Nat) : Vc := fun e => if (G.fn f).isSome = true then (mkoC G cls cs e).bind fun r e1 => match r with
 | .fresh (.obj c fs) => match G.fn f, namesR e1 is with
  | some (.l :: ms, φ), some rs => match callN ms φ (.obj c fs) rs e1 with
   | .ok r _ e2 => .ok r e2
   | .exc x e2 => .exc x e2
   | .bad => .bad
  | _, _ => .bad
 | _ => .bad
 else .bad
def bckB (e : Env) : FRes -> Res R
 | .ret d [_] => .ok (.val d) e
 | .fresh c [_] => .ok (.fresh c) e
 | .exc x [_] => .exc x e
 | _ => .bad
def cb1C (G : Gm) (f : String) (i : Nat) (x : Vc) : Vc := fun e => match G.fn f, namesR e [i] with
 | some ([.b, .l], φ), some _ => (x e).bind fun r e1 => match r, namesR e1 [i] with
  | .fresh c, some [q] => (ofO (rd e1 q) e1).bind fun d e2 => bckB e2 (φ [d, c.d])
  | _, _ => .bad
 | _, _ => .bad
def clvC (G : Gm) (i : Nat) (cs : List Vc) : Vc := fun e => match e[i]? with
 | some (.fnc f) => if (G.fn f).isSome = true then (vNs cs e).bind fun rs e1 => callD G f rs e1 else .bad
 | _ => .bad
def dfnD (g : String) : D := .str (Str.ofString g)
def cdfC (G : Gm) (f : String) (cs : List Vc) (gs : List String) : Vc := fun e => match G.fn f with
 | some (ms, φ) => if ms.drop cs.length = gs.map (fun _ => Mo.d) /\ (gs.all fun g => (G.fn g).isSome) = true then (vNs cs e).bind fun rs e1 => callO (some (ms.take cs.length, fun ds => φ (ds ++ gs.map dfnD))) rs e1 else .bad
 | none => .bad
def putFc (f : Str) (x : Fc) : List (Str × Fc) -> List (Str × Fc)
 | [] => [(f, x)]
 | (g, y) :: r => if g = f then (g, x) :: r else (g, y) :: putFc f x r
def noXc (e : Env) : Bool := e.all fun s => match s with
 | .xc _ => false
 | _ => true
noncomputable section
mutual
def den (G : Gm) : ME -> Dn
 | .var i => mkV (varC i)
 | .con d => mkV (conC d)
 | .glo _ d => mkV (conC d)
 | .tup es => mkV (tupC (dens G es))
 | .lst es => mkV (lstC (dens G es))
 | .bin op a b => mkV (binC op (den G a).v (den G b).v)
 | .neg a => mkV (negC (den G a).v)
 | .cmp op a b => mkT (boolR (cmpB op (den G a).v (den G b).v)) (cmpB op (den G a).v (den G b).v)
 | .chn op op' a b c => mkT (boolR (chnB op op' (den G a).v (den G b).v (den G c).v)) (chnB op op' (den G a).v (den G b).v (den G c).v)
 | .and a b => mkT (andC (den G a).v (den G b).v) (andT (den G a).t (den G b).t)
 | .or a b => mkT (orC (den G a).v (den G b).v) (orT (den G a).t (den G b).t)
 | .not a => mkT (notC (den G a).v) (notT (den G a).t)
 | .ite c a b => mkT (iteC (den G c).t (den G a).v (den G b).v) fun _ => .bad
 | .idx a i => mkV (idxC (den G a).v (den G i).v)
 | .sli a lo hi => mkV (sliC (den G a).v (denO G lo) (denO G hi))
 | .rev a => mkV (revC (den G a).v)
 | .sx a b => mkV (sxC (den G a).v (den G b).v)
 | .ssl a => mkV (sslC (den G a).v)
 | .isi a ty => mkV (isiC (den G a).v ty)
 | .bif f es => mkV (bifC f (dens G es))
 | .cal f es => mkV (calC G f (dens G es))
 | .mth _ _ _ => mkV fun _ => .bad
 | .lc own tg pair it c x => mkV (lcC (own.map (·.2)) tg pair (den G it).w (denT G c) (den G x).v)
 | .lcx own tg pair it x => mkV (lcxC (own.map (·.2)) tg pair (den G it).w (den G x).v)
 | .lc2x own tg pair it tg1 pair1 it1 x => mkV (lc2xC (own.map (·.2)) tg pair (den G it).w tg1 pair1 (wF (den G it1).v) (den G x).v)
 | .lc2 own tg pair it c tg1 pair1 it1 c1 x => mkV (lc2C (own.map (·.2)) tg pair (den G it).w (denT G c) tg1 pair1 (wF (den G it1).v) (denT G c1) (den G x).v)
 | .lc3 st own tg pair it tg1 pair1 it1 tg2 pair2 it2 x => mkV (lc3C st (own.map (·.2)) tg pair (den G it).w tg1 pair1 (wF (den G it1).v) tg2 pair2 (wF (den G it2).v) (den G x).v)
 | .inx a b => mkV (inxC (den G a).v (den G b).v)
 | .cnt a b => mkV (cntC (den G a).v (den G b).v)
 | .pop i k => mkV (popC i (denO G k))
 | .dix i k => mkV (dixC i (den G k).v)
 | .din n k i => mkT (boolR (dinB n (den G k).v i)) (dinB n (den G k).v i)
 | .dgt i k x => mkV (dgtC i (den G k).v (denO G x))
 | .dmk a => mkV (dmkC (den G a).v)
 | .lsi a => mkV (lsiC (den G a).v)
 | .joi sep a => mkV (joiC sep (den G a).v)
 | .spl a sep => mkV (splC (den G a).v sep)
 | .fmt a => mkV (fmtC (den G a).v)
 | .fst es => mkV (fstC (dens G es))
 | .dg i k => mkV (dgC i k)
 | .dct ks es => mkV (dctC ks (dens G es))
 | .cak f _ perm dl es kes => mkV (cakC G f perm dl (dens G es ++ dens G kes))
 | .xis i cs _ => mkV (xisC G i cs)
 | .xat i f => mkV (xatC G i f)
 | .rt1 l a => mkV (rt1C l (den G a).v)
 | .rt2 l a b => mkV (rt2C l (den G a).v (den G b).v)
 | .rt3 a _ c n => mkV (rt3C a c n)
 | .ask i => mkV (askC G i)
 | .lam h e => mkV (lamC G h (den G.lo e).v)
 | .att i f => mkV (attC G i f)
 | .adx i f j => mkV (adxC G i f j)
 | .mko cls es => mkV (mkoC G cls (dens G es))
 | .mca cls m i es => mkV (mcaC G cls m i (dens G es))
 | .mcm cls m es is => mkV (mcmC G cls m (dens G es) is)
 | .mcf cls f es is => mkV (mcfC G cls f (dens G es) is)
 | .fln i => mkV (flnC i)
 | .fe0 i => mkT (boolR (fe0B i)) (fe0B i)
 | .fap a b i e => mkV (fapC G a b i (den G e).v)
 | .kin n g e => mkT (boolR (kinB G n g (den G e).v)) (kinB G n g (den G e).v)
 | .kix g e => mkV (kixC G g (den G e).v)
 | .tde => mkV tdeC
 | .stp a n => mkV (stpC (den G a).v n)
 | .tlk own tg i c x => mkV (tlkC (own.map (·.2)) tg i (denT G c) (den G x).v)
 | .tdi n k i => mkT (boolR (tdiB n (den G k).v i)) (tdiB n (den G k).v i)
 | .tdx i k => mkV (tdxC i (den G k).v)
 | .tdg i k x => mkV (tdgC i (den G k).v (den G x).v)
 | .tdl i => mkV (tdlC i)
 | .tdk i => mkV (tdkC i)
 | .clv i es => mkV (clvC G i (dens G es))
 | .cdf f es gs => mkV (cdfC G f (dens G es) gs)
 | .cb1 f i e => mkV (cb1C G f i (den G e).v)
 | .dd1 k v => mkV (dd1C (den G k).v (den G v).v)
 | .dmc own tg pair it c k v => mkV (dmkC (lcC (own.map (·.2)) tg pair (den G it).w (denT G c) (tupC [(den G k).v, (den G v).v])))
 | .dls i => mkV (dlsC i)
 | .lck own tg i c x => mkV (lckC (own.map (·.2)) tg i (denT G c) (den G x).v)
 | .rg1 a => mkW (rg1W (den G a).v)
 | .rg2 a b => mkW (rg2W (den G a).v (den G b).v)
 | .en a => mkW (enW (den G a).v)
 | .zp a b => mkW (zpW (den G a).v (den G b).v)
 | .zps a b => mkW (zpsW (den G a).v (den G b).v)
 | .fz a => mkV fun e => (vE (den G a).v e).bind fun d e1 => .ok (.val d) e1
def dens (G : Gm) : List ME -> List Vc
 | [] => []
 | m :: ms => (den G m).v :: dens G ms
def denO (G : Gm) : Option ME -> Option Vc
 | none => none
 | some m => some (den G m).v
def denT (G : Gm) : Option ME -> Option (Env -> Res Bool)
 | none => none
 | some m => some (den G m).t
end
inductive Fl where
 | nx
 | br
 | ct
 | rt (r : R)
abbrev Sc := Env -> Res Fl
def setV (i : Nat) (r : R) (e : Env) : Option Env := match e[i]? with
 | some (.mu _ true _) => none
 | some (.mu true _ _) => none
 | some _ => match r with
  | .val d => some (e.set i (.fz d))
  | .fresh c => some (e.set i (.mu false false c))
  | .slot _ => none
 | none => none
def fl (o : Option Env) : Res Fl := match o with
 | some e => .ok .nx e
 | none => .bad
def escS (r : R) (e : Env) : Res R := match r with
 | .slot i => (esc e (.slot i)).bind fun d e2 => .ok (.val d) e2
 | r => .ok r e
def vF (c : Vc) : Vc := fun e => (c e).bind escS
def asgS (i : Nat) (c : Vc) : Sc := fun e => (vF c e).bind fun r e1 => fl (setV i r e1)
def setS (i : Nat) (s : Sl) (e : Env) : Option Env := match e[i]? with
 | some (.mu _ true _) => none
 | some (.mu true _ _) => none
 | some _ => some (e.set i s)
 | none => none
def lkO : Option Sl -> Option Str
 | some (.fz (.str x)) => some x
 | _ => none
def lksS (G : Gm) (i : Nat) (g : String) (j : Nat) : Sc := fun e => (ofO (G.tb g) e).bind fun tbl e0 => (ofO (lkO e0[j]?) e0).bind fun x e1 => (ofO (fsO (tbl.lookup x)) e1).bind fun fs e2 => fl (setS i (.fns fs) e2)
def stfS (j i : Nat) (c : Vc) : Sc := fun e => (vE c e).bind fun d e1 => (ofO (seqO d) e1).bind fun ds e2 => (ofO ds.getLast? e2).bind fun x e3 => if ds.length <= 16384 /\ i ≠ j then fl ((setV j (.fresh (.lst ds.dropLast)) e3).bind (putAll [i] [x])) else .bad
def unpS (is : List Nat) (c : Vc) : Sc := fun e => (vE c e).bind fun d e1 => fl (putT is true d e1)
def pr2O : D -> Option (D × D)
 | .tuple [a, b] => some (a, b)
 | _ => none
def unnS (i : Nat) (is : List Nat) (c : Vc) : Sc := fun e => (vE c e).bind fun d e1 => fl ((pr2O d).bind fun p => (putAll [i] [p.1] e1).bind fun e2 => putT is true p.2 e2)
def parS (i j : Nat) (a b : Vc) : Sc := fun e => (vEs [a, b] e).bind fun ds e1 => if i = j then .bad else fl (putAll [i, j] ds e1)
def par3S (i j l : Nat) (a b c : Vc) : Sc := fun e => (vEs [a, b, c] e).bind fun ds e1 => if i = j \/ i = l \/ j = l then .bad else fl (putAll [i, j, l] ds e1)
def tdpS (i : Nat) (k v : Vc) : Sc := fun e => (vE v e).bind fun d e1 => (ofO (tdM e1[i]?) e1).bind fun _ e2 => (vE k e2).bind fun kd e3 => (ofO (keyT kd) e3).bind fun q e4 => (ofO (tdM e4[i]?) e4).bind fun p e5 => if p.2.length < big then .ok .nx (e5.set i (.mu p.1 false (.tr (.d (putT2 p.2 q d))))) else .bad
def parTS (i j : Nat) (a b : Vc) : Sc := fun e => (a e).bind fun r e1 => match r with
 | .fresh (.tr (.d kvs)) => (b e1).bind fun q e2 => if i = j then .bad else match setV j q e2 with
  | some e3 => fl (setV i (.fresh (.tr (.d kvs))) e3)
  | none => .bad
 | _ => .bad
def par0S (i j : Nat) (b : Vc) : Sc := fun e => (b e).bind fun r e1 => if i = j then .bad else match setV j r e1 with
 | some e2 => fl (setV i (.fresh (.tr (.d []))) e2)
 | none => .bad
def parES (i j : Nat) (a : Vc) : Sc := fun e => (a e).bind fun r e1 => if i = j then .bad else match setV i r e1 with
 | some e2 => fl (setV j (.fresh (.lst [])) e2)
 | none => .bad
def parOS (i j : Nat) (a : Vc) : Sc := fun e => (a e).bind fun r e1 => if i = j then .bad else match setV i r e1 with
 | some e2 => fl (setV j (.fresh (.dct [])) e2)
 | none => .bad
def stuS (is : List Nat) (j : Nat) (c : Vc) : Sc := fun e => (vE c e).bind fun d e1 => (ofO (seqO d) e1).bind fun ds e2 => if is.length <= ds.length /\ ds.length <= 16384 /\ is.contains j = false then match putAll is (ds.take is.length) e2 with
  | some e3 => fl (setV j (.fresh (.lst (ds.drop is.length))) e3)
  | none => .bad
 else .bad
def parCS (i j : Nat) (a : Vc) (n : Int) : Sc := fun e => (a e).bind fun r e1 => if i = j then .bad else match setV i r e1 with
 | some e2 => fl (setV j (.val (.int n)) e2)
 | none => .bad
def parLS (i j : Nat) (a b : Vc) : Sc := fun e => (vE a e).bind fun d e1 => (b e1).bind fun r e2 => if i = j then .bad else match setV j r e2 with
 | none => .bad
 | some e3 => fl (setV i (.val d) e3)
def stoD (c : C) (k d : D) : Option C := match c, k with
 | .lst xs, .int n => (L2.ixN xs.length n).map fun j => .lst (xs.set j d)
 | _, _ => none
def muO : Option Sl -> Option (Bool × C)
 | some (.mu t false c) => some (t, c)
 | _ => none
def stoS (i : Nat) (k v : Vc) : Sc := fun e => (vE v e).bind fun d e1 => (ofO (muO e1[i]?) e1).bind fun _ e2 => (vE k e2).bind fun n e3 => (ofO (muO e3[i]?) e3).bind fun p e4 => (ofO (stoD p.2 n d) e4).bind fun c e5 => .ok .nx (e5.set i (.mu p.1 false c))
def muL : Option Sl -> Option (Bool × List D)
 | some (.mu t false (.lst xs)) => some (t, xs)
 | _ => none
def appS (i : Nat) (v : Vc) : Sc := fun e => (ofO (muL e[i]?) e).bind fun _ e0 => (vE v e0).bind fun d e1 => (ofO (muL e1[i]?) e1).bind fun p e2 =>
 if p.2.length < big then .ok .nx (e2.set i (.mu p.1 false (.lst (p.2 ++ [d])))) else .bad
def dctO : C -> Option (List (Ky × D))
 | .dct kvs => if kvs.length <= 15 then some kvs else none
 | _ => none
def dstS (i : Nat) (k : String) (v : Vc) : Sc := fun e => (vE v e).bind fun d e1 => (ofO (muO e1[i]?) e1).bind fun p e2 => (ofO (dctO p.2) e2).bind fun kvs e3 => (ofO (putD kvs (.inr (Str.ofString k)) d) e3).bind fun q e4 => .ok .nx (e4.set i (.mu p.1 false (.dct q)))
def dptS (i : Nat) (k v : Vc) : Sc := fun e => (vE v e).bind fun d e1 => (ofO (dctM e1[i]?) e1).bind fun _ e2 => (vE k e2).bind fun kd e3 => (ofO (keyO kd) e3).bind fun q e4 => (ofO (dctM e4[i]?) e4).bind fun p e5 => if p.2.length < big then .ok .nx (e5.set i (.mu p.1 false (.dct (putG p.2 q d)))) else .bad
def freshL : R -> Option (List D)
 | .fresh (.lst ys) => some ys
 | _ => none
def extS (i : Nat) (v : Vc) : Sc := fun e => (ofO (muL e[i]?) e).bind fun _ e0 => (v e0).bind fun r e1 => (ofO (freshL r) e1).bind fun ys e2 => (ofO (muL e2[i]?) e2).bind fun p e3 => if p.2.length + ys.length <= big then .ok .nx (e3.set i (.mu p.1 false (.lst (p.2 ++ ys)))) else .bad
def freshK : R -> Option (List (Ky × D))
 | .fresh (.dct kvs) => some kvs
 | _ => none
def updS (i : Nat) (v : Vc) : Sc := fun e => (ofO (dctM e[i]?) e).bind fun _ e0 => (v e0).bind fun r e1 => (ofO (freshK r) e1).bind fun ys e2 => (ofO (dctM e2[i]?) e2).bind fun p e3 => if p.2.length + ys.length <= big then .ok .nx (e3.set i (.mu p.1 false (.dct (mergeG p.2 ys)))) else .bad
def objM : Option Sl -> Option (Bool × Str × List (Str × Fc))
 | some (.mu t false (.obj c fs)) => some (t, c, fs)
 | _ => none
def fcR (own : Bool) : R -> Option Fc
 | .val d => if own = true then none else some (.val d)
 | .fresh (.lst ds) => some (if own = true then .lst ds else .val (.list ds))
 | .fresh (.dct kvs) => if own = true then some (.dct kvs) else none
 | _ => none
def astS (G : Gm) (i : Nat) (f : String) (own : Bool) (c : Vc) : Sc := fun e => (c e).bind fun r e1 => (ofO (fcR own r) e1).bind fun x e2 => (ofO (objM e2[i]?) e2).bind fun p e3 => if p.2.2.length < 900 /\ G.atr p.2.1 f = true then .ok .nx (e3.set i (.mu p.1 false (.obj p.2.1 (putFc (Str.ofString f) x p.2.2)))) else .bad
def adM (G : Gm) (o : Option Sl) (f : String) : Option (Bool × Str × List (Str × Fc) × List (Ky × D)) := (objM o).bind fun p => match p.2.2.lookup (Str.ofString f) with
 | some (.dct kvs) => if G.atr p.2.1 f = true then some (p.1, p.2.1, p.2.2, kvs) else none
 | _ => none
def adpS (G : Gm) (i : Nat) (f : String) (j : Nat) (v : Vc) : Sc := fun e => (vE v e).bind fun d e1 => (ofO (adM G e1[i]? f) e1).bind fun p e2 => (ofO ((nmD e2 j).bind keyO) e2).bind fun q e3 => if p.2.2.2.length < big then .ok .nx (e3.set i (.mu p.1 false (.obj p.2.1 (putFc (Str.ofString f) (.dct (putG p.2.2.2 q d)) p.2.2.1)))) else .bad
def fzI (e : Env) (i : Nat) : Option Int := match e[i]? with
 | some (.fz (.int a)) => some a
 | _ => none
def augI : Operator -> Int -> Int -> Option Int
 | .Add, a, b => some (a + b)
 | .Sub, a, b => some (a - b)
 | _, _, _ => none
def augS (i : Nat) (op : Operator) (v : Vc) : Sc := fun e => (ofO (fzI e i) e).bind fun a e0 => (vE v e0).bind fun y e1 => (ofO (intD y) e1).bind fun b e2 => (ofO (augI op a b) e2).bind fun z e3 => fl (putAll [i] [.int z] e3)
def expS (c : Vc) : Sc := fun e => (c e).bind fun _ e1 => .ok .nx e1
def retS (c : Vc) : Sc := fun e => (c e).bind fun r e1 => match r with
 | .slot i => match e1[i]? with
  | some (.mu false false c) => .ok (.rt (.fresh c)) (e1.set i .un)
  | _ => .bad
 | r => .ok (.rt r) e1
def iteS (t : Env -> Res Bool) (a b : Sc) : Sc := fun e => (t e).bind fun k e1 => if k = true then a e1 else b e1
def seqS (a b : Sc) : Sc := fun e => (a e).bind fun f e1 => match f with
 | .nx => b e1
 | f => .ok f e1
def frGo (turn : D -> Sc) : List D -> Env -> Res Fl
 | [], e => .ok .nx e
 | d :: ds, e => (turn d e).bind fun f e1 => match f with
  | .nx => frGo turn ds e1
  | .ct => frGo turn ds e1
  | .br => .ok .br e1
  | .rt r => .ok (.rt r) e1
def frGoN (turn : D -> Sc) (nx : Nat -> Env -> Option (Option D)) : Nat -> Nat -> Env -> Res Fl
 | 0, _, _ => .bad
 | n + 1, k, e => match nx k e with
  | none => .bad
  | some none => .ok .nx e
  | some (some d) => (turn d e).bind fun f e1 => match f with
   | .nx => frGoN turn nx n (k + 1) e1
   | .ct => frGoN turn nx n (k + 1) e1
   | .br => .ok .br e1
   | .rt r => .ok (.rt r) e1
def frTurnP (pt : D -> Env -> Option Env) (b : Sc) : D -> Sc := fun d e => match pt d e with
 | some e1 => b e1
 | none => .bad
def frTurn (tg : List Nat) (pair : Bool) (b : Sc) : D -> Sc := frTurnP (putT tg pair) b
def put2 (i : Nat) (is : List Nat) (d : D) (e : Env) : Option Env := (pr2O d).bind fun p => (putAll [i] [p.1] e).bind fun e2 => putT is true p.2 e2
def brk2nx : Fl -> Fl
 | .br => .nx
 | f => f
def offS : Res Fl -> Res Fl
 | .ok f e => .ok (brk2nx f) e
 | r => r
def unlkS (i : Nat) (e₀ : Env) : Res Fl -> Res Fl
 | .bad => .bad
 | .ok f e => match unlockE i e₀ e with
  | some e1 => .ok (brk2nx f) e1
  | none => .bad
 | .exc x e => match unlockE i e₀ e with
  | some e1 => .exc x e1
  | none => .bad
def frRun (turn : D -> Sc) : Src -> Env -> Res Fl
 | .vals ds, e => offS (frGo turn ds e)
 | .slot i en, e => match lockE i e with
  | none => .bad
  | some e1 => unlkS i e (frGoN turn (itemAt i en) 1000000 0 e1)
def frS (tg : List Nat) (pair : Bool) (w : Env -> Res Src) (b : Sc) : Sc := fun e => (w e).bind fun p e1 => frRun (frTurn tg pair b) p e1
def frnS (i : Nat) (is : List Nat) (w : Env -> Res Src) (b : Sc) : Sc := fun e => (w e).bind fun p e1 => frRun (frTurnP (put2 i is) b) p e1
def movE (x j : Nat) (e : Env) : Option Env := match e[j]? with
 | some (.mu false false c) => setV x (.fresh c) (e.set j .un)
 | _ => none
def unl1 (j : Nat) (e₀ : Env) : Res Fl -> Res Fl
 | .bad => .bad
 | .ok f e => match unlockE j e₀ e with
  | some e1 => .ok f e1
  | none => .bad
 | .exc x e => match unlockE j e₀ e with
  | some e1 => .exc x e1
  | none => .bad
def endS : Res Fl -> Res Fl
 | .ok (.rt r) e => .ok (.rt r) e
 | .ok _ e => .ok .nx e
 | r => r
def for2K (x j : Nat) (b : Sc) (f : Fl) : Sc := fun e5 => match f with
 | .rt r => .ok (.rt r) e5
 | .br => .ok .nx e5
 | _ => (ofO (movE x j e5) e5).bind fun e6 _ => endS (b e6)
def for2S (x j : Nat) (a : Vc) (b : Sc) : Sc := fun e => (a e).bind fun r e1 => if x = j then .bad else
 (ofO (setV x r e1) e1).bind fun e2 _ => (ofO (lockE j e2) e2).bind fun e3 _ => (unl1 j e2 (b e3)).bind (for2K x j b)
def whGo (t : Env -> Res Bool) (b : Sc) : Nat -> Env -> Res Fl
 | 0, _ => .bad
 | n + 1, e => (t e).bind fun k e1 => if k = true then (b e1).bind fun f e2 => match f with
   | .nx => whGo t b n e2
   | .ct => whGo t b n e2
   | .br => .ok .nx e2
   | .rt r => .ok (.rt r) e2
  else .ok .nx e1
def whS (t : Env -> Res Bool) (b : Sc) : Sc := whGo t b 1000000
def raiS (cls : String) (fs : List Str) (cs : List Vc) : Sc := fun e => if fs = [] then .bad else (vEs cs e).bind fun ds e1 => if ds.length = fs.length /\ 0 < fs.length /\ fs.length <= 9 then .exc ⟨Str.ofString cls, (fs.zip ds).reverse⟩ e1 else .bad
def flOk (i : Nat) : Fl -> Bool
 | .rt (.slot j) => j != i
 | _ => true
def traS (G : Gm) (i : Nat) (cs : List String) (b su : Sc) : Sc := fun e => if noXc e = true /\ (cs.all fun x => G.kn.contains x) = true then match b e with
  | .bad => .bad
  | .ok f e1 => .ok f e1
  | .exc x e1 => match anyX G x.cls cs with
   | none => .bad
   | some false => .exc x e1
   | some true => match e1[i]? with
    | some .un => match su (e1.set i (.xc x)) with
     | .ok f e2 => if noXc (e2.set i .un) = true /\ flOk i f = true /\ i < e2.length then .ok f (e2.set i .un) else .bad
     | _ => .bad
    | _ => .bad
 else .bad
def troS (G : Gm) (cs : List String) (b su : Sc) : Sc := fun e => if noXc e = true /\ (cs.all fun x => G.kn.contains x) = true then match b e with
  | .bad => .bad
  | .ok f e1 => .ok f e1
  | .exc x e1 => match anyX G x.cls cs with
   | none => .bad
   | some false => .exc x e1
   | some true => match su e1 with
    | .ok f e2 => .ok f e2
    | _ => .bad
 else .bad
def stoC (i : Nat) (k : Vc) (d : D) (f : Env -> Res Fl) : Env -> Res Fl := fun e => (ofO (muO e[i]?) e).bind fun _ e2 => (vE k e2).bind fun n e3 => (ofO (muO e3[i]?) e3).bind fun p e4 => (ofO (stoD p.2 n d) e4).bind fun c e5 => f (e5.set i (.mu p.1 false c))
def twoD : D -> Option (D × D)
 | .tuple [a, b] => some (a, b)
 | _ => none
def swpS (i : Nat) (k l c : Vc) : Sc := fun e => (vE c e).bind fun d e1 => (ofO (twoD d) e1).bind fun p e2 => stoC i k p.1 (stoC i l p.2 fun e => .ok .nx e) e2
mutual
def sen (G : Gm) (X : Xt) : MS -> Sc
 | .asg i e => asgS i (den G e).v
 | .unp is e => unpS is (den G e).v
 | .lks i g j => lksS G i g j
 | .stf j i e => stfS j i (den G e).v
 | .unn i is e => unnS i is (den G e).v
 | .stu is j e => stuS is j (den G e).v
 | .par i j a b => parS i j (den G a).v (den G b).v
 | .par3 i j l a b c => par3S i j l (den G a).v (den G b).v (den G c).v
 | .parL i j a b => parLS i j (den G a).v (den G b).v
 | .parE i j a => parES i j (den G a).v
 | .parO i j a => parOS i j (den G a).v
 | .par0 i j a => par0S i j (den G a).v
 | .parT i j a b => parTS i j (den G a).v (den G b).v
 | .tdp i k e => tdpS i (den G k).v (den G e).v
 | .parC i j a n => parCS i j (den G a).v n
 | .sto i k e => stoS i (den G k).v (den G e).v
 | .aug i op e => augS i op (den G e).v
 | .app i e => appS i (den G e).v
 | .dst i k e => dstS i k (den G e).v
 | .dpt i k e => dptS i (den G k).v (den G e).v
 | .ext i e => extS i (den G e).v
 | .upd i e => updS i (den G e).v
 | .ast i f own e => astS G i f own (den G e).v
 | .adp i f j e => adpS G i f j (den G e).v
 | .exp e => expS (den G e).v
 | .ret e => retS (den G e).v
 | .retN => fun e => .ok (.rt (.val .none)) e
 | .ite c t f => iteS (den G c).t (sens G X t) (sens G X f)
 | .fr tg pair it b => frS tg pair (den G it).w (sens G X b)
 | .frn i is it b => frnS i is (den G it).w (sens G X b)
 | .for2 x j a b => for2S x j (den G a).v (sens G X b)
 | .whl c b => whS (den G c).t (sens G X b)
 | .rai cls es => raiS cls (G.xc cls) (dens G es)
 | .tra i cs b su => traS G i cs (sens G X b) (sens G X su)
 | .tro cs b su => troS G cs (sens G X b) (sens G X su)
 | .swp i k l e => swpS i (den G k).v (den G l).v (den G e).v
 | .nev => fun _ => .bad
 | .pas => fun e => .ok .nx e
 | .brk => fun e => .ok .br e
 | .cnt => fun e => .ok .ct e
def sens (G : Gm) (X : Xt) : List MS -> Sc
 | [] => fun e => .ok .nx e
 | s :: ss => seqS (sen G X s) (sens G X ss)
end
def fnO (x : Str) : Option Sl := @dite _ (∃ f : String, Str.ofString f = x) (Classical.propDecidable _) (fun h => some (.fnc h.choose)) fun _ => none
open Classical in
noncomputable def trO (x : D) : Option Ot := if h : ∃ t : Ot, t.enc = x then some (Classical.choose h) else none
theorem trO_enc (t : Ot) : trO t.enc = some t := by
 have h : ∃ u : Ot, u.enc = t.enc := ⟨t, rfl⟩
 unfold trO
 rw [dif_pos h]
 exact congrArg some (Ot.enc_inj (Classical.choose_spec h))
noncomputable def slOf : Mo -> D -> Option Sl
 | .d, .str x => fnO x
 | .f, d => some (.fz d)
 | .b, d => some (.bo d)
 | .l, .list ds => some (.mu true false (.lst ds))
 | .l, .dict kvs => (decKv kvs).map fun k => .mu true false (.dct k)
 | .l, .tuple (.str cls :: ds) => (decFs ds).map fun fs => .mu true false (.obj cls fs)
 | .l, .tuple [.none, x] => (trO x).map fun t => .mu true false (.tr t)
 | _, _ => none
noncomputable def startE : List Mo -> List D -> Option Env
 | [], [] => some []
 | m :: ms, d :: ds => (slOf m d).bind fun s => (startE ms ds).map (s :: ·)
 | _, _ => none
def lentOf : List Mo -> Nat -> Env -> Option (List C)
 | [], _, _ => some []
 | .l :: ms, k, e => match e[k]? with
  | some (.mu true false c) => (lentOf ms (k + 1) e).map (c :: ·)
  | _ => none
 | _ :: ms, k, e => lentOf ms (k + 1) e
def fin (ms : List Mo) (r : R) (e : Env) : FRes := match lentOf ms 0 e with
 | none => .bad
 | some cs => match r with
  | .val d => .ret d cs
  | .fresh c => .fresh c cs
  | .slot _ => .bad
def runD (G : Gm) (X : Xt) (d : Df) (ds : List D) : FRes := match startE d.mo ds with
 | none => .bad
 | some e => match sens G X d.body (e ++ List.replicate (d.N.length - e.length) .un) with
  | .bad => .bad
  | .ok (.rt r) e1 => fin d.mo r e1
  | .ok .nx e1 => fin d.mo (.val .none) e1
  | .ok _ _ => .bad
  | .exc x e1 => match lentOf d.mo 0 e1 with
   | some cs => .exc x cs
   | none => .bad
def runH (G : Gm) (X : Xt) (d : Hd) (f : Th) (t : AskR) : FRes := match sens { G with ask := some (f, t) } X d.body (.th f :: List.replicate (d.N.length - 1) .un) with
 | .ok (.rt r) _ => match r with
  | .val d => .ret d []
  | .fresh c => .fresh c []
  | .slot _ => .bad
 | .ok .nx _ => .ret .none []
 | _ => .bad
def lmOf (G : Gm) (X : Xt) (d : Hd) (t : AskR) : FRes := @dite _ (∃ r, ∀ f, runH G X d f t = r) (Classical.propDecidable _) (fun h => h.choose) fun _ => .bad
def gm (T : List Df) (X : Xt) : Nat -> Gm
 | 0 => ⟨fun _ => none, fun _ => none, X.xc, X.sub, X.fld, X.kn, fun _ => none, fun _ => none, fun _ => none, fun _ => none, fun _ _ => .bad, none, fun _ _ => none, fun _ _ => none, fun _ _ => none, X.atr, X.tb⟩
 | k + 1 => ⟨fun f => (T.find? fun d => d.name == f).map fun d => (d.mo.take (d.mo.length - d.df.length), fun ds => runD (gm T X k) X d (ds ++ d.df)), fun f => (T.find? fun d => d.name == f).map fun d => (d.mo, runD (gm T X k) X d), X.xc, X.sub, X.fld, X.kn,
  (gm T X k).fn, (gm T X k).fk, (gm T X k).fn1, (gm T X k).fk1, fun h t => if k = 0 then .bad else match X.hds.find? fun d => d.name == h with
   | some d => lmOf (gm T X k) X d t
   | none => .bad, none,
  (gm T X k).mt1, fun c m => (X.mts.find? fun p => p.1 == c && p.2.name == m).map fun p => (p.2.mo, runD (gm T X k) X p.2), fun _ _ => none, X.atr, X.tb⟩
end
end Ev
namespace Ev
open PySem PySem.Spec PyProof.Rows L2
mutual
theorem dp_mono {K : PySem.W.Frag} {F F' : Hp} (s : Same F F') : ∀ {v : V} {d : D}, Dp K F v d -> Dp K F' v d
 | _, _, .non => .non
 | _, _, .bl b => .bl b
 | _, _, .int i => .int i
 | _, _, .str x => .str x
 | _, _, .lst h a => .lst (s.seq h) (dps_mono s a)
 | _, _, .tup h a => .tup (by
   rcases h with (h | ⟨o, h⟩) | h
   . exact .inl (.inl (s _ _ h))
   . exact .inl (.inr ⟨o, s _ _ h⟩)
   . exact .inr h) (dps_mono s a)
theorem dps_mono {K : PySem.W.Frag} {F F' : Hp} (s : Same F F') : ∀ {vs : List V} {ds : List D}, DpAll K F vs ds -> DpAll K F' vs ds
 | _, _, .nil => .nil
 | _, _, .cons h t => .cons (dp_mono s h) (dps_mono s t)
end
theorem sqt_mono {K : PySem.W.Frag} {F F' : Hp} (s : Same F F') {a : Addr} {xs : List V} (h : SqT K F a xs) : SqT K F' a xs := by
 rcases h with (h | ⟨o, h⟩) | h
 . exact .inl (.inl (s _ _ h))
 . exact .inl (.inr ⟨o, s _ _ h⟩)
 . exact .inr h
theorem dps_len {K : PySem.W.Frag} {F : Hp} : ∀ {vs : List V} {ds : List D}, DpAll K F vs ds -> vs.length = ds.length
 | _, _, .nil => rfl
 | _, _, .cons _ t => by simp [dps_len t]
theorem dps_app {K : PySem.W.Frag} {F : Hp} : ∀ {vs ws : List V} {ds es : List D}, DpAll K F vs ds -> DpAll K F ws es -> DpAll K F (vs ++ ws) (ds ++ es)
 | _, _, _, _, .nil, q => q
 | _, _, _, _, .cons h t, q => .cons h (dps_app t q)
theorem dps_get {K : PySem.W.Frag} {F : Hp} : ∀ {vs : List V} {ds : List D} {i : Nat} {d : D}, DpAll K F vs ds -> ds[i]? = some d -> ∃ v, vs[i]? = some v /\ Dp K F v d
 | _, _, _, _, .nil, h => by simp at h
 | _, _, 0, _, .cons h _, e => by
  simp at e; subst e
  exact ⟨_, rfl, h⟩
 | _, _, i + 1, d, .cons _ t, e => by
  obtain ⟨v, h1, h2⟩ := dps_get (i := i) (d := d) t (by simpa using e)
  exact ⟨v, by simpa using h1, h2⟩
theorem dps_take {K : PySem.W.Frag} {F : Hp} : ∀ (n : Nat) {vs : List V} {ds : List D}, DpAll K F vs ds -> DpAll K F (vs.take n) (ds.take n)
 | 0, _, _, _ => .nil
 | _ + 1, _, _, .nil => .nil
 | n + 1, _, _, .cons h t => .cons h (dps_take n t)
theorem dps_drop {K : PySem.W.Frag} {F : Hp} : ∀ (n : Nat) {vs : List V} {ds : List D}, DpAll K F vs ds -> DpAll K F (vs.drop n) (ds.drop n)
 | 0, _, _, h => h
 | _ + 1, _, _, .nil => .nil
 | n + 1, _, _, .cons _ t => dps_drop n t
theorem dps_set {K : PySem.W.Frag} {F : Hp} {v : V} {d : D} (h : Dp K F v d) : ∀ (n : Nat) {vs : List V} {ds : List D}, DpAll K F vs ds -> DpAll K F (vs.set n v) (ds.set n d)
 | _, _, _, .nil => .nil
 | 0, _, _, .cons _ t => .cons h t
 | n + 1, _, _, .cons g t => .cons g (dps_set h n t)
theorem dps_rep {K : PySem.W.Frag} {F : Hp} {vs : List V} {ds : List D} (h : DpAll K F vs ds) : ∀ n : Nat, DpAll K F (List.replicate n vs).flatten (List.replicate n ds).flatten
 | 0 => .nil
 | n + 1 => by
  rw [List.replicate_succ, List.replicate_succ, List.flatten_cons, List.flatten_cons]
  exact dps_app h (dps_rep h n)
theorem dps_cut {K : PySem.W.Frag} {F : Hp} {vs : List V} {ds : List D} (h : DpAll K F vs ds) (lo hi : Option Int) : DpAll K F (cutV vs lo hi) (cutD ds lo hi) := by
 unfold cutV cutD
 rw [dps_len h]
 exact dps_take _ (dps_drop _ h)
def lamDefs : List String := ["law", "_law_is_right", "_law_right", "_law_row_right", "_law_each_right", "_law_sides_right", "_law_undone_right", "_law_barred_right", "_law_seen_right", "_law_known_right", "_law_easings_right", "_law_looks_right", "_law_is_wide", "_law_one_right", "_law_instead_right", "_law_rows_for", "_law_one_by_one", "_law_first_refusal", "_law_odd_right", "_law_acts_right", "_law_rows_right"]
@[irreducible] def lamQ (n : String) : Str := Str.ofString n ++ ".<locals>." ++ "<lambda>"
def cdOf (K : PySem.W.Frag) (n : String) : Option (Addr × Addr × Str) := match PySem.W.nsIn K mainGlobals (Str.ofString n) with
 | some (some (.ref f)) => match K.lookup f with
  | some ⟨_, _, .func fd, _⟩ => match fd.code with
   | .ref c => match K.lookup c with
    | some ⟨_, _, .fields vs, _⟩ => match (vs[11]? : Option Value) with
     | some (.ref P) => some (c, P, lamQ n)
     | _ => none
    | _ => none
   | _ => none
  | _ => none
 | _ => none
def cds (K : PySem.W.Frag) : List (Addr × Addr × Str) := lamDefs.filterMap (cdOf K)
def tabs (K : PySem.W.Frag) : List (Addr × Str) := (cds K).map fun p => (p.2.1, p.2.2)
abbrev Tbs (K : PySem.W.Frag) (H : Hp) : Prop := LamX.Tabs (tabs K) H
theorem tbs_chg' {T : List (Addr × Str)} {H : Hp} {a : Addr} {o o' : HO} (t : LamX.Tabs T H) (h : H a = some o) (n1 : ∀ ps, o ≠ .tbl ps) (n2 : ∀ c q, o ≠ LamX.CodeO c q) : LamX.Tabs T (upd H a o') := fun p hp => by
 obtain ⟨ps, h1, h2, h3⟩ := t p hp
 have ne : p.1 ≠ a := fun z => by
  rw [z, h] at h1
  exact n1 ps (Option.some.inj h1)
 refine ⟨ps, by rw [upd_ne ne]; exact h1, h2, fun pos cv hc => ?_⟩
 obtain ⟨c, e1, e2⟩ := h3 pos cv hc
 refine ⟨c, e1, ?_⟩
 rw [upd_ne]
 . exact e2
 . intro z
   rw [z, h] at e2
   exact n2 _ _ (Option.some.inj e2)
theorem tbs_chg {T : List (Addr × Str)} {H : Hp} {a : Addr} {o o' : HO} (t : LamX.Tabs T H) (h : H a = some o) (n1 : ∀ ps, o ≠ .tbl ps) (n2 : ∀ p, o ≠ .ext p) : LamX.Tabs T (upd H a o') := tbs_chg' t h n1 fun _ _ z => n2 _ z
def hT (k : List Int) : Int := reduceHash (Builtin.Tuple.tupleHashOf (k.map hashInt))
def dtO (a : Addr) (es : Array DictEntry) (ep : Nat) : HO := .ext fun h => DT.Raw h a es ep /\ (a == sysModules) = false
theorem dt_code {a c : Addr} {q : Str} {es : Array DictEntry} {ep : Nat} : dtO a es ep ≠ LamX.CodeO c q := fun z => by
 injection z with e
 let ob : Obj := { cls := .none, data := .fields #[.none, .str q 0] }
 let h0 : Heap := { objs := Array.replicate (c + 1) ob }
 have hg : ∀ x o, h0.get? x = some o -> o = ob := fun x o hx => by
  unfold Heap.get? at hx
  have hl : ∀ y, h0.objs[x]? = some y -> y = ob := fun y hy => by
   have hy : (Array.replicate (c + 1) ob)[x]? = some y := hy
   rw [Array.getElem?_replicate] at hy
   split at hy
   . exact (Option.some.inj hy).symm
   . cases hy
  split at hx
  . cases hx
  . exact hl o hx
 have e := congrFun e h0
 have r : ∃ (oc : Obj) (vs : Array Value) (t : Tok), h0.get? c = some oc /\ oc.data = .fields vs /\ vs[1]? = some (.str q t) := by
  refine ⟨ob, #[.none, .str q 0], 0, ?_, rfl, rfl⟩
  have : h0.objs[c]? = some ob := by
   show (Array.replicate (c + 1) ob)[c]? = some ob
   rw [Array.getElem?_replicate, if_pos (by omega)]
  unfold Heap.get?
  rw [this]
 obtain ⟨⟨o, h1, _, h3⟩, _⟩ := (Eq.mpr e r)
 rw [hg _ _ h1] at h3
 cases h3
theorem ne_code {o : HO} (h : ∀ p, o ≠ .ext p) : ∀ c q, o ≠ LamX.CodeO c q := fun _ _ z => h _ z
structure Fr where
 l : Nat -> Option Addr
 b : Hp
 xa : Option (Addr × Addr × Addr × Str)
 t : Nat -> Hp := fun _ _ => none
section
variable (K : PySem.W.Frag)
inductive FsOk (F : Hp) : List (Str × V) -> List (Str × D) -> Prop where
 | nil : FsOk F [] []
 | cons {n : Str} {v : V} {d : D} {fs : List (Str × V)} {gs : List (Str × D)} : Dp K F v d -> FsOk F fs gs -> FsOk F ((n, v) :: fs) ((n, d) :: gs)
inductive KvOk (F : Hp) : List (Key × V) -> List (Ky × D) -> Prop where
 | nil : KvOk F [] []
 | cons {k : Ky} {v : V} {d : D} {r : List (Key × V)} {s : List (Ky × D)} : Dp K F v d -> KvOk F r s -> KvOk F ((k, v) :: r) ((k, d) :: s)
def Cs (F : Hp) : HO -> C -> Prop
 | .lst xs, .lst ds => DpAll K F xs ds
 | .dK kvs, .dct ds => KvOk K F kvs ds
 | _, _ => False
inductive FcOk (F G H : Hp) : V -> Fc -> Prop where
 | val {v : V} {d : D} : Dp K F v d -> FcOk F G H v (.val d)
 | lst {b : Addr} {xs : List V} {ds : List D} : F b = none -> G b = none -> H b = some (.lst xs) -> DpAll K F xs ds -> FcOk F G H (.ref b) (.lst ds)
 | dct {b : Addr} {xs : List (Key × V)} {ds : List (Ky × D)} : F b = none -> G b = none -> H b = some (.dK xs) -> KvOk K F xs ds -> FcOk F G H (.ref b) (.dct ds)
inductive FcsOk (F G H : Hp) : List (Str × V) -> List (Str × Fc) -> Prop where
 | nil : FcsOk F G H [] []
 | cons {n : Str} {v : V} {c : Fc} {vs : List (Str × V)} {fs : List (Str × Fc)} : FcOk K F G H v c -> FcsOk F G H vs fs -> FcsOk F G H ((n, v) :: vs) ((n, c) :: fs)
def fcA : V -> Fc -> List Addr
 | .ref b, .lst _ => [b]
 | .ref b, .dct _ => [b]
 | _, _ => []
def sbs : List (Str × V) -> List (Str × Fc) -> List Addr
 | (_, v) :: vs, (_, c) :: fs => fcA v c ++ sbs vs fs
 | _, _ => []
def sbO : Option HO -> List (Str × Fc) -> List Addr
 | some (.ins _ _ vs), fs => sbs vs fs
 | _, _ => []
inductive KtOk (F : Hp) : List DictEntry -> List (List Int × D) -> Prop
 | nil : KtOk F [] []
 | cons {k : List Int} {q : Addr} {u : Value} {v : V} {d : D} {r : List DictEntry} {t : List (List Int × D)} : SqT K F q (k.map V.int) -> RelV v u -> Dp K F v d -> KtOk F r t -> KtOk F (⟨hT k, .ref q, u⟩ :: r) ((k, d) :: t)
def kidsO : Option HO -> List V
 | some (.lst xs) => xs
 | some (.dK kvs) => kvs.map (·.2)
 | some (.ins _ _ vs) => vs.map (·.2)
 | _ => []
mutual
def ftT (H : Hp) : V -> Ot -> List Addr
 | _, .v _ => []
 | .ref b, .l ts => b :: ftTs H (kidsO (H b)) ts
 | .ref b, .k _ ts => b :: ftTs H (kidsO (H b)) ts
 | .ref b, .o _ _ ts => b :: ftTs H (kidsO (H b)) ts
 | .ref b, .d _ => [b]
 | _, _ => []
def ftTs (H : Hp) : List V -> List Ot -> List Addr
 | v :: vs, t :: ts => ftT H v t ++ ftTs H vs ts
 | _, _ => []
end
def ft (H : Hp) (a : Addr) : C -> List Addr
 | .obj _ fs => a :: sbO (H a) fs
 | .tr (.v _) => [a]
 | .tr t => ftT H (.ref a) t
 | _ => [a]
def ClsAt (cls : Str) (C : Addr) : Prop := PySem.W.nsIn K mainGlobals cls = some (some (.ref C))
mutual
inductive TOk (F G H : Hp) : V -> Ot -> Prop
 | v {v : V} {d : D} : Dp K F v d -> TOk F G H v (.v d)
 | l {b : Addr} {xs : List V} {ts : List Ot} : F b = none -> G b = none -> H b = some (.lst xs) -> TsOk F G H xs ts -> TOk F G H (.ref b) (.l ts)
 | k {b : Addr} {kvs : List (Key × V)} {ks : List Ky} {ts : List Ot} : F b = none -> G b = none -> H b = some (.dK kvs) -> kvs.map (·.1) = ks -> TsOk F G H (kvs.map (·.2)) ts -> TOk F G H (.ref b) (.k ks ts)
 | d {b : Addr} {es : Array DictEntry} {ep : Nat} {kvs : List (List Int × D)} : F b = none -> G b = none -> H b = some (dtO b es ep) -> KtOk K F es.toList kvs -> (kvs.map (·.1)).Nodup -> TOk F G H (.ref b) (.d kvs)
 | o {b C dx : Addr} {cls : Str} {vs : List (Str × V)} {ns : List Str} {ts : List Ot} : F b = none -> G b = none -> H b = some (.ins C dx vs) -> ClsAt K cls C -> vs.map (·.1) = ns -> ns.length <= 900 -> TsOk F G H (vs.map (·.2)) ts -> TOk F G H (.ref b) (.o cls ns ts)
inductive TsOk (F G H : Hp) : List V -> List Ot -> Prop
 | nil : TsOk F G H [] []
 | cons {v : V} {t : Ot} {vs : List V} {ts : List Ot} : TOk F G H v t -> TsOk F G H vs ts -> TsOk F G H (v :: vs) (t :: ts)
end
mutual
inductive TBk (B F : Hp) : V -> Ot -> Prop
 | v {v : V} {d : D} : Dp K F v d -> TBk B F v (.v d)
 | l {b : Addr} {xs : List V} {ts : List Ot} : B b = some (.lst xs) -> TBs B F xs ts -> TBk B F (.ref b) (.l ts)
 | k {b : Addr} {kvs : List (Key × V)} {ks : List Ky} {ts : List Ot} : B b = some (.dK kvs) -> kvs.map (·.1) = ks -> TBs B F (kvs.map (·.2)) ts -> TBk B F (.ref b) (.k ks ts)
 | d {b : Addr} {es : Array DictEntry} {ep : Nat} {kvs : List (List Int × D)} : B b = some (dtO b es ep) -> KtOk K F es.toList kvs -> (kvs.map (·.1)).Nodup -> TBk B F (.ref b) (.d kvs)
 | o {b C dx : Addr} {cls : Str} {vs : List (Str × V)} {ns : List Str} {ts : List Ot} : B b = some (.ins C dx vs) -> ClsAt K cls C -> vs.map (·.1) = ns -> TBs B F (vs.map (·.2)) ts -> TBk B F (.ref b) (.o cls ns ts)
inductive TBs (B F : Hp) : List V -> List Ot -> Prop
 | nil : TBs B F [] []
 | cons {v : V} {t : Ot} {vs : List V} {ts : List Ot} : TBk B F v t -> TBs B F vs ts -> TBs B F (v :: vs) (t :: ts)
end
def Cr (G F H : Hp) (a : Addr) : HO -> C -> Prop
 | .ins C dx vs, .obj cls fs => ClsAt K cls C /\ FcsOk K F G H vs fs /\ (a :: sbs vs fs).Nodup /\ fs.length <= 900
 | _, .tr t => t.nod = true /\ TOk K F G H (.ref a) t /\ (ftT H (.ref a) t).Nodup
 | o, c => Cs K F o c
structure Own (G F H : Hp) (a : Addr) (c : C) : Prop where
 f : F a = none
 g : G a = none
 h : ∃ o, H a = some o /\ Cr K G F H a o c
def Br (G F : Hp) (v : V) (d : D) : Prop := Dp K F v d \/ ∃ a xs ds, v = .ref a /\ d = .list ds /\ SqL K G a xs /\ DpAll K F xs ds
def FnAt (f : String) (a : Addr) : Prop := PySem.W.nsIn K mainGlobals (Str.ofString f) = some (some (.ref a))
def FnAll : List String -> List Addr -> Prop
 | [], [] => True
 | f :: fs, a :: as => FnAt K f a /\ FnAll fs as
 | _, _ => False
def SlOk (L : Fr) (G F H : Hp) (i : Nat) (o : Option V) : Sl -> Prop
 | .un => True
 | .fz d => ∃ v, o = some v /\ Dp K F v d
 | .bo d => ∃ v, o = some v /\ Br K L.b F v d
 | .mu t k c => ∃ a, o = some (.ref a) /\ Own K G F H a c /\ (t = true \/ k = true -> L.l i = some a)
 | .xc x => ∃ a C dd fs, L.xa = some (a, C, dd, x.cls) /\ o = some (.ref a) /\ L.b dd = some (.xd fs) /\ FsOk K F fs x.fs
 | .th f => o = some (.ref f.1) /\ Same f.2 F
 | .fns fs => ∃ a as, o = some (.ref a) /\ SqT K F a (as.map V.ref) /\ FnAll K fs as
 | .fnc f => ∃ a, o = some (.ref a) /\ FnAt K f a
 | .bt u => ∃ v, o = some v /\ TBk K (L.t i) F v u
def TDo : HO -> Prop
 | .tup _ => False
 | .tbl _ => False
 | .frz ob (.tup _) => ob.dict = none
 | _ => True
def TD (F : Hp) : Prop := ∀ a o, F a = some o -> TDo o
def isMu (e : Env) (i : Nat) : Prop := ∃ t k c, e[i]? = some (.mu t k c)
abbrev sg (σ : L2.St) (i : Nat) : Option V := σ.getD i none
def hasF (H : Hp) (σ : L2.St) (e : Env) (i : Nat) (x : Addr) : Prop := ∃ t k c a, e[i]? = some (.mu t k c) /\ sg σ i = some (.ref a) /\ x ∈ ft H a c
def Full (F H : Hp) : Prop := ∀ a ob xs, H a = some (.frz ob (.tup xs)) -> ob.dict = none -> F a = some (.frz ob (.tup xs))
structure Nw (L : Fr) (G F H : Hp) : Prop where
 tb : Tbs K H
 fl : Full F H
 gt : ∀ a ps, G a ≠ some (.tbl ps)
 tg : ∀ j, Same (L.t j) G
structure Rel (L : Fr) (G F H : Hp) (σ : L2.St) (e : Env) : Prop where
 fh : Same F H
 gh : Same G H
 len : σ.length = e.length
 sl : ∀ i s, e[i]? = some s -> SlOk K L G F H i (sg σ i) s
 ap : ∀ i j x, i ≠ j -> hasF H σ e i x -> ¬ hasF H σ e j x
 bg : Same L.b G
 td : TD F
 nw : Nw K L G F H
structure Step (G F F' : Hp) : Prop where
 s : Same F F'
 g : ∀ a, G a ≠ none -> F' a = F a
def ROk (G F H : Hp) (σ : L2.St) (e : Env) : R -> V -> Prop
 | .val d, v => Dp K F v d
 | .slot i, v => sg σ i = some v
 | .fresh c, v => ∃ p, v = .ref p /\ Own K G F H p c /\ ∀ i x, x ∈ ft H p c -> ¬ hasF H σ e i x
def Ar (F H : Hp) (v : V) (d : D) : Prop := Dp K F v d \/ ∃ a xs ds, v = .ref a /\ d = .list ds /\ SqL K H a xs /\ DpAll K F xs ds
end
theorem Step.refl (G F : Hp) : Step G F F := ⟨Same.refl F, fun _ _ => rfl⟩
theorem Step.trans {G F F1 F2 : Hp} (a : Step G F F1) (b : Step G F1 F2) : Step G F F2 := ⟨a.s.trans b.s, fun x h => (b.g x h).trans (a.g x h)⟩
section
variable {K : PySem.W.Frag} {L : Fr} {G F F' H H' : Hp} {σ : L2.St} {e : Env} {v : V} {d : D} {a p : Addr} {c : C} {o : HO} {i : Nat} {s : Sl}
theorem kv_mono {K : PySem.W.Frag} {F F' : Hp} (st : Same F F') {kvs : List (Key × V)} {ds : List (Ky × D)} (h : KvOk K F kvs ds) : KvOk K F' kvs ds := by
 induction h with
 | nil => exact .nil
 | cons h _ ih => exact .cons (dp_mono st h) ih
theorem fs_mono {K : PySem.W.Frag} {F F' : Hp} (st : Same F F') {kvs : List (Str × V)} {ds : List (Str × D)} (h : FsOk K F kvs ds) : FsOk K F' kvs ds := by
 induction h with
 | nil => exact .nil
 | cons h _ ih => exact .cons (dp_mono st h) ih
theorem cs_mono (st : Same F F') {o : HO} {c : C} (h : Cs K F o c) : Cs K F' o c := by
 cases c with
 | lst ds =>
  cases o <;> first | exact (show False from h).elim | skip
  exact dps_mono st h
 | dct ds =>
  cases o <;> first | exact (show False from h).elim | skip
  exact kv_mono st h
 | obj cls fs => cases o <;> exact (show False from h).elim
 | tr t => cases o <;> exact (show False from h).elim
theorem cs_cr (h : Cs K F o c) : Cr K G F H a o c := by
 cases c with
 | lst ds => cases o <;> first | exact (show False from h).elim | exact h
 | dct ds => cases o <;> first | exact (show False from h).elim | exact h
 | obj cls fs => cases o <;> exact (show False from h).elim
 | tr t => cases o <;> exact (show False from h).elim
theorem cr_lst {ds : List D} (h : Cr K G F H a o (.lst ds)) : Cs K F o (.lst ds) := by
 cases o <;> first | exact (show False from h).elim | exact h
theorem cr_dct {ds : List (Ky × D)} (h : Cr K G F H a o (.dct ds)) : Cs K F o (.dct ds) := by
 cases o <;> first | exact (show False from h).elim | exact h
theorem cr_obj {cls : Str} {fs : List (Str × Fc)} (h : Cr K G F H a o (.obj cls fs)) : ∃ C dx vs, o = .ins C dx vs /\ ClsAt K cls C /\ FcsOk K F G H vs fs /\ (a :: sbs vs fs).Nodup /\ fs.length <= 900 := by
 cases o <;> first | exact (show False from h).elim | exact ⟨_, _, _, rfl, h⟩
theorem FcOk.move {G' : Hp} {v : V} {c : Fc} (h : FcOk K F G H v c) (st : Same F F') (k : ∀ x ∈ fcA v c, F' x = none /\ G' x = none /\ H' x = H x) : FcOk K F' G' H' v c := by
 cases h with
 | val h => exact .val (dp_mono st h)
 | lst h1 h2 h3 h4 =>
  obtain ⟨k1, k2, k3⟩ := k _ (List.mem_singleton.mpr rfl)
  exact .lst k1 k2 (k3.trans h3) (dps_mono st h4)
 | dct h1 h2 h3 h4 =>
  obtain ⟨k1, k2, k3⟩ := k _ (List.mem_singleton.mpr rfl)
  exact .dct k1 k2 (k3.trans h3) (kv_mono st h4)
theorem FcsOk.move {G' : Hp} {vs : List (Str × V)} {fs : List (Str × Fc)} (h : FcsOk K F G H vs fs) (st : Same F F') (k : ∀ x ∈ sbs vs fs, F' x = none /\ G' x = none /\ H' x = H x) : FcsOk K F' G' H' vs fs := by
 induction h with
 | nil => exact .nil
 | cons h _ ih => exact .cons (h.move st fun x hx => k x (List.mem_append_left _ hx)) (ih fun x hx => k x (List.mem_append_right _ hx))
def OwnO (o : HO) : Prop := (∀ ps, o ≠ .tbl ps) /\ (∀ c q, o ≠ LamX.CodeO c q) /\ (∀ ob xs, o ≠ .frz ob (.tup xs)) /\ (∀ xs, o ≠ .tup xs) /\ TDo o /\ ∀ fs, o ≠ .xd fs
theorem FcsOk.all {vs : List (Str × V)} {fs : List (Str × Fc)} (h : FcsOk K F G H vs fs) : ∀ x ∈ sbs vs fs, F x = none /\ G x = none /\ ∃ o, H x = some o /\ OwnO o := by
 induction h with
 | nil => exact fun x hx => (by cases hx)
 | cons h _ ih =>
  intro x hx
  rcases List.mem_append.mp hx with hx | hx
  . cases h with
    | val h => cases ‹V› <;> cases hx
    | lst h1 h2 h3 h4 =>
     cases List.mem_singleton.mp hx
     exact ⟨h1, h2, _, h3, ⟨fun _ z => (by cases z), ne_code fun _ z => (by cases z), fun _ _ z => (by cases z), fun _ z => (by cases z), trivial, fun _ z => (by cases z)⟩⟩
    | dct h1 h2 h3 h4 =>
     cases List.mem_singleton.mp hx
     exact ⟨h1, h2, _, h3, ⟨fun _ z => (by cases z), ne_code fun _ z => (by cases z), fun _ _ z => (by cases z), fun _ z => (by cases z), trivial, fun _ z => (by cases z)⟩⟩
  . exact ih x hx
theorem kt_mono {l : List DictEntry} {kvs : List (List Int × D)} (st : Same F F') (h : KtOk K F l kvs) : KtOk K F' l kvs := by
 induction h with
 | nil => exact .nil
 | cons h1 h2 h3 _ ih => exact .cons (sqt_mono st h1) h2 (dp_mono st h3) ih
mutual
theorem TOk.move {G' : Hp} {v : V} {t : Ot} (st : Same F F') : TOk K F G H v t -> (∀ x ∈ ftT H v t, F' x = none /\ G' x = none /\ H' x = H x) -> TOk K F' G' H' v t /\ ftT H' v t = ftT H v t
 | .v h, _ => ⟨.v (dp_mono st h), by simp [ftT]⟩
 | .l (b := b) (xs := xs) h1 h2 h3 h4, k => by
  obtain ⟨k1, k2, k3⟩ := k b (by simp [ftT])
  obtain ⟨q1, q2⟩ := h4.move st fun x hx => k x (by simp [ftT, h3, kidsO, hx])
  exact ⟨.l k1 k2 (k3.trans h3) q1, by simp [ftT, k3, h3, kidsO, q2]⟩
 | .k (b := b) h1 h2 h3 h4 h5, k => by
  obtain ⟨k1, k2, k3⟩ := k b (by simp [ftT])
  obtain ⟨q1, q2⟩ := h5.move st fun x hx => k x (by simp only [ftT, h3, kidsO]; exact List.mem_cons_of_mem _ hx)
  exact ⟨.k k1 k2 (k3.trans h3) h4 q1, by simp only [ftT, k3, h3, kidsO]; rw [q2]⟩
 | .d (b := b) h1 h2 h3 h4 h5, k => by
  obtain ⟨k1, k2, k3⟩ := k b (by simp [ftT])
  exact ⟨.d k1 k2 (k3.trans h3) (kt_mono st h4) h5, by simp [ftT]⟩
 | .o (b := b) h1 h2 h3 h4 h5 h6 h7, k => by
  obtain ⟨k1, k2, k3⟩ := k b (by simp [ftT])
  obtain ⟨q1, q2⟩ := h7.move st fun x hx => k x (by simp only [ftT, h3, kidsO]; exact List.mem_cons_of_mem _ hx)
  exact ⟨.o k1 k2 (k3.trans h3) h4 h5 h6 q1, by simp only [ftT, k3, h3, kidsO]; rw [q2]⟩
theorem TsOk.move {G' : Hp} {vs : List V} {ts : List Ot} (st : Same F F') : TsOk K F G H vs ts -> (∀ x ∈ ftTs H vs ts, F' x = none /\ G' x = none /\ H' x = H x) -> TsOk K F' G' H' vs ts /\ ftTs H' vs ts = ftTs H vs ts
 | .nil, _ => ⟨.nil, rfl⟩
 | .cons h1 h2, k => by
  obtain ⟨q1, q2⟩ := h1.move st fun x hx => k x (by simp [ftTs, hx])
  obtain ⟨q3, q4⟩ := h2.move st fun x hx => k x (by simp [ftTs, hx])
  exact ⟨.cons q1 q3, by simp [ftTs, q2, q4]⟩
end
mutual
theorem TBk.mono {B B' : Hp} {v : V} {t : Ot} (sb : Same B B') (st : Same F F') : TBk K B F v t -> TBk K B' F' v t
 | .v h => .v (dp_mono st h)
 | .l h1 h2 => .l (sb _ _ h1) (h2.mono sb st)
 | .k h1 h2 h3 => .k (sb _ _ h1) h2 (h3.mono sb st)
 | .d h1 h2 h3 => .d (sb _ _ h1) (kt_mono st h2) h3
 | .o h1 h2 h3 h4 => .o (sb _ _ h1) h2 h3 (h4.mono sb st)
theorem TBs.mono {B B' : Hp} {vs : List V} {ts : List Ot} (sb : Same B B') (st : Same F F') : TBs K B F vs ts -> TBs K B' F' vs ts
 | .nil => .nil
 | .cons h1 h2 => .cons (h1.mono sb st) (h2.mono sb st)
end
mutual
theorem TOk.tb {B : Hp} {v : V} {t : Ot} : TOk K F G H v t -> (∀ x ∈ ftT H v t, B x = H x) -> TBk K B F v t
 | .v h, _ => .v h
 | .l (b := b) h1 h2 h3 h4, k => .l ((k b (by simp [ftT])).trans h3) (h4.tb fun x hx => k x (by simp [ftT, h3, kidsO, hx]))
 | .k (b := b) h1 h2 h3 h4 h5, k => .k ((k b (by simp [ftT])).trans h3) h4 (h5.tb fun x hx => k x (by simp only [ftT, h3, kidsO]; exact List.mem_cons_of_mem _ hx))
 | .d (b := b) h1 h2 h3 h4 h5, k => .d ((k b (by simp [ftT])).trans h3) h4 h5
 | .o (b := b) h1 h2 h3 h4 h5 h6 h7, k => .o ((k b (by simp [ftT])).trans h3) h4 h5 (h7.tb fun x hx => k x (by simp only [ftT, h3, kidsO]; exact List.mem_cons_of_mem _ hx))
theorem TsOk.tb {B : Hp} {vs : List V} {ts : List Ot} : TsOk K F G H vs ts -> (∀ x ∈ ftTs H vs ts, B x = H x) -> TBs K B F vs ts
 | .nil, _ => .nil
 | .cons h1 h2, k => .cons (h1.tb fun x hx => k x (by simp [ftTs, hx])) (h2.tb fun x hx => k x (by simp [ftTs, hx]))
end
theorem own_lst {xs : List V} : OwnO (.lst xs) := ⟨fun _ z => (by cases z), ne_code fun _ z => (by cases z), fun _ _ z => (by cases z), fun _ z => (by cases z), trivial, fun _ z => (by cases z)⟩
theorem own_dK {xs : List (Key × V)} : OwnO (.dK xs) := ⟨fun _ z => (by cases z), ne_code fun _ z => (by cases z), fun _ _ z => (by cases z), fun _ z => (by cases z), trivial, fun _ z => (by cases z)⟩
theorem own_ins {C dx : Addr} {vs : List (Str × V)} : OwnO (.ins C dx vs) := ⟨fun _ z => (by cases z), ne_code fun _ z => (by cases z), fun _ _ z => (by cases z), fun _ z => (by cases z), trivial, fun _ z => (by cases z)⟩
theorem own_dt {a : Addr} {es : Array DictEntry} {ep : Nat} : OwnO (dtO a es ep) := ⟨fun _ z => (by cases z), fun _ _ => dt_code, fun _ _ z => (by cases z), fun _ z => (by cases z), trivial, fun _ z => (by cases z)⟩
mutual
theorem TOk.all {v : V} {t : Ot} : TOk K F G H v t -> ∀ x ∈ ftT H v t, F x = none /\ G x = none /\ ∃ o, H x = some o /\ OwnO o
 | .v h, x, hx => by simp [ftT] at hx
 | .l h1 h2 h3 h4, x, hx => by
  simp only [ftT, h3, kidsO] at hx
  rcases List.mem_cons.mp hx with rfl | hx
  . exact ⟨h1, h2, _, h3, own_lst⟩
  . exact h4.all x hx
 | .k h1 h2 h3 h4 h5, x, hx => by
  simp only [ftT, h3, kidsO] at hx
  rcases List.mem_cons.mp hx with rfl | hx
  . exact ⟨h1, h2, _, h3, own_dK⟩
  . exact h5.all x hx
 | .d h1 h2 h3 h4 h5, x, hx => by
  simp only [ftT] at hx
  cases List.mem_singleton.mp hx
  exact ⟨h1, h2, _, h3, own_dt⟩
 | .o h1 h2 h3 h4 h5 h6 h7, x, hx => by
  simp only [ftT, h3, kidsO] at hx
  rcases List.mem_cons.mp hx with rfl | hx
  . exact ⟨h1, h2, _, h3, own_ins⟩
  . exact h7.all x hx
theorem TsOk.all {vs : List V} {ts : List Ot} : TsOk K F G H vs ts -> ∀ x ∈ ftTs H vs ts, F x = none /\ G x = none /\ ∃ o, H x = some o /\ OwnO o
 | .nil, x, hx => by simp [ftTs] at hx
 | .cons h1 h2, x, hx => by
  simp only [ftTs] at hx
  rcases List.mem_append.mp hx with hx | hx
  . exact h1.all x hx
  . exact h2.all x hx
end
theorem ft_tr {t : Ot} (h : t.nod = true) : ft H a (.tr t) = ftT H (.ref a) t := by
 cases t <;> first | (cases h; done) | rfl
theorem cr_tr {t : Ot} (h : Cr K G F H a o (.tr t)) : t.nod = true /\ TOk K F G H (.ref a) t /\ (ftT H (.ref a) t).Nodup := by
 cases o <;> exact h
theorem tr_cr {t : Ot} (h : t.nod = true /\ TOk K F G H (.ref a) t /\ (ftT H (.ref a) t).Nodup) : Cr K G F H a o (.tr t) := by
 cases o <;> exact h
theorem ft_root (H : Hp) (a : Addr) (c : C) : a ∈ ft H a c := by
 cases c with
 | tr t => cases t <;> simp [ft, ftT]
 | _ => exact List.mem_cons_self
theorem Own.nd (h : Own K G F H a c) : (ft H a c).Nodup := by
 obtain ⟨_, _, o, h1, h2⟩ := h
 cases c with
 | lst _ => exact List.nodup_cons.mpr ⟨List.not_mem_nil, List.nodup_nil⟩
 | dct _ => exact List.nodup_cons.mpr ⟨List.not_mem_nil, List.nodup_nil⟩
 | obj cls fs =>
  obtain ⟨C, dx, vs, rfl, _, _, h3, _⟩ := cr_obj h2
  show (a :: sbO (H a) fs).Nodup
  rw [h1]
  exact h3
 | tr t =>
  obtain ⟨q1, q2, q3⟩ := cr_tr h2
  rw [ft_tr q1]
  exact q3
theorem Own.all (h : Own K G F H a c) : ∀ x ∈ ft H a c, F x = none /\ G x = none /\ ∃ o, H x = some o /\ OwnO o := by
 obtain ⟨q1, q2, o, h1, h2⟩ := h
 cases c with
 | lst ds =>
  intro x hx
  cases List.mem_singleton.mp hx
  refine ⟨q1, q2, o, h1, ?_⟩
  have h2 := cr_lst h2
  cases o <;> first | exact (show False from h2).elim | exact ⟨fun _ z => (by cases z), ne_code fun _ z => (by cases z), fun _ _ z => (by cases z), fun _ z => (by cases z), trivial, fun _ z => (by cases z)⟩
 | dct ds =>
  intro x hx
  cases List.mem_singleton.mp hx
  refine ⟨q1, q2, o, h1, ?_⟩
  have h2 := cr_dct h2
  cases o <;> first | exact (show False from h2).elim | exact ⟨fun _ z => (by cases z), ne_code fun _ z => (by cases z), fun _ _ z => (by cases z), fun _ z => (by cases z), trivial, fun _ z => (by cases z)⟩
 | obj cls fs =>
  obtain ⟨C, dx, vs, rfl, _, h3, _, _⟩ := cr_obj h2
  intro x hx
  have hx : x ∈ a :: sbO (H a) fs := hx
  rw [h1] at hx
  rcases List.mem_cons.mp hx with rfl | hx
  . exact ⟨q1, q2, _, h1, ⟨fun _ z => (by cases z), ne_code fun _ z => (by cases z), fun _ _ z => (by cases z), fun _ z => (by cases z), trivial, fun _ z => (by cases z)⟩⟩
  . exact h3.all x hx
 | tr t =>
  obtain ⟨h3, h4, h5⟩ := cr_tr h2
  rw [ft_tr h3]
  exact h4.all
theorem Own.move {G' : Hp} (h : Own K G F H a c) (st : Same F F') (k : ∀ x ∈ ft H a c, F' x = none /\ G' x = none /\ H' x = H x) : Own K G' F' H' a c /\ ft H' a c = ft H a c := by
 obtain ⟨k1, k2, k3⟩ := k a (ft_root H a c)
 obtain ⟨q1, q2, o, h1, h2⟩ := h
 refine ⟨⟨k1, k2, o, k3.trans h1, ?_⟩, ?_⟩
 . cases c with
   | lst ds => exact cs_cr (cs_mono st (cr_lst h2))
   | dct ds => exact cs_cr (cs_mono st (cr_dct h2))
   | obj cls fs =>
    obtain ⟨C, dx, vs, rfl, e1, e2, e3, e4⟩ := cr_obj h2
    refine ⟨e1, e2.move st fun x hx => k x ?_, e3, e4⟩
    show x ∈ a :: sbO (H a) fs
    rw [h1]
    exact List.mem_cons_of_mem _ hx
   | tr t =>
    obtain ⟨h3, h4, h5⟩ := cr_tr h2
    rw [ft_tr h3] at k
    obtain ⟨m1, m2⟩ := h4.move (G' := G') (H' := H') st k
    exact tr_cr ⟨h3, m1, by rw [m2]; exact h5⟩
 . cases c with
   | lst ds => rfl
   | dct ds => rfl
   | obj cls fs =>
    show a :: sbO (H' a) fs = a :: sbO (H a) fs
    rw [k3]
   | tr t =>
    obtain ⟨h3, h4, h5⟩ := cr_tr h2
    rw [ft_tr h3] at k
    rw [ft_tr h3, ft_tr h3]
    exact (h4.move (G' := G') (H' := H') st k).2
theorem Own.cs (h : Own K G F H a c) (no : ∀ cls fs, c ≠ .obj cls fs) (nt : ∀ t, c ≠ .tr t := by intro _ z; cases z) : ∃ o, H a = some o /\ Cs K F o c := by
 obtain ⟨q1, q2, o, h1, h2⟩ := h
 refine ⟨o, h1, ?_⟩
 cases c with
 | lst ds => exact cr_lst h2
 | dct ds => exact cr_dct h2
 | obj cls fs => exact absurd rfl (no cls fs)
 | tr t => exact absurd rfl (nt t)
theorem Own.of (q1 : F a = none) (q2 : G a = none) (h1 : H a = some o) (h2 : Cs K F o c) : Own K G F H a c := ⟨q1, q2, o, h1, cs_cr h2⟩
theorem Rel.allF (r : Rel K L G F H σ e) {x : Addr} (h : hasF H σ e i x) : F x = none /\ G x = none /\ ∃ o, H x = some o /\ OwnO o := by
 obtain ⟨t, k, c, a, h1, h2, h3⟩ := h
 obtain ⟨b, e1, ow, _⟩ := r.sl i _ h1
 rw [h2] at e1; cases e1
 exact ow.all x h3
theorem Rel.nofree (r : Rel K L G F H σ e) {x : Addr} (hp : H x = none) : ¬ hasF H σ e i x := fun h => by
 obtain ⟨_, _, o, h1, _⟩ := r.allF h
 rw [hp] at h1
 cases h1
theorem hasF_root {t k : Bool} (h1 : e[i]? = some (.mu t k c)) (h2 : sg σ i = some (.ref a)) : hasF H σ e i a := ⟨t, k, c, a, h1, h2, ft_root H a c⟩
theorem hasF_back (r : Rel K L G F H σ e) (k : ∀ i x, hasF H σ e i x -> H' x = H x) {x : Addr} (h : hasF H' σ e i x) : hasF H σ e i x := by
 obtain ⟨t, l, c, a, h1, h2, h3⟩ := h
 refine ⟨t, l, c, a, h1, h2, ?_⟩
 obtain ⟨b, e1, ow, _⟩ := r.sl i _ h1
 rw [h2] at e1; cases e1
 rw [(ow.move (G' := G) (F' := F) (H' := H') (Same.refl F) fun y hy => ⟨(ow.all y hy).1, (ow.all y hy).2.1, k i y ⟨t, l, c, a, h1, h2, hy⟩⟩).2] at h3
 exact h3
theorem Rel.slots {G' : Hp} {L' : Fr} (r : Rel K L G F H σ e) (hl : L'.l = L.l) (hxa : L'.xa = L.xa) (hb : Same L.b L'.b) (st : Same F F') (k : ∀ i x, hasF H σ e i x -> F' x = none /\ G' x = none /\ H' x = H x) (ht : L'.t = L.t := by rfl) :
  (∀ i s, e[i]? = some s -> SlOk K L' G' F' H' i (sg σ i) s) /\ ∀ i j x, i ≠ j -> hasF H' σ e i x -> ¬ hasF H' σ e j x := by
 refine ⟨fun i s h => ?_, fun i j x hij h1 h2 => r.ap i j x hij (hasF_back r (fun i x q => (k i x q).2.2) h1) (hasF_back r (fun i x q => (k i x q).2.2) h2)⟩
 have q := r.sl i s h
 cases s with
 | un => trivial
 | th f => exact ⟨q.1, q.2.trans st⟩
 | fns fs => obtain ⟨a', as, x1, x2, x3⟩ := q; exact ⟨a', as, x1, sqt_mono st x2, x3⟩
 | fnc f => exact q
 | bt u => obtain ⟨v, e1, q⟩ := q; exact ⟨v, e1, by rw [ht]; exact q.mono (Same.refl _) st⟩
 | fz d => obtain ⟨v, e1, q⟩ := q; exact ⟨v, e1, dp_mono st q⟩
 | bo d =>
  obtain ⟨v, e1, q⟩ := q
  refine ⟨v, e1, ?_⟩
  rcases q with q | ⟨a, xs, ds, rfl, rfl, h1, h2⟩
  . exact .inl (dp_mono st q)
  . exact .inr ⟨a, xs, ds, rfl, rfl, hb.seq h1, dps_mono st h2⟩
 | xc x => obtain ⟨a, C, dd, fs, x1, x2, x3, x4⟩ := q; exact ⟨a, C, dd, fs, hxa ▸ x1, x2, hb _ _ x3, fs_mono st x4⟩
 | mu t l c =>
  obtain ⟨a, e1, ow, q5⟩ := q
  exact ⟨a, e1, (ow.move st fun x hx => k i x ⟨t, l, c, a, h, e1, hx⟩).1, fun z => by rw [hl]; exact q5 z⟩
theorem Ar.dp (fh : Same F H) (h : Ar K F H v d) : Dp K H v d := by
 rcases h with h | ⟨a, xs, ds, rfl, rfl, h1, h2⟩
 . exact dp_mono fh h
 . exact .lst h1 (dps_mono fh h2)
theorem Br.mono (st : Same F F') (h : Br K G F v d) : Br K G F' v d := by
 rcases h with h | ⟨a, xs, ds, rfl, rfl, h1, h2⟩
 . exact .inl (dp_mono st h)
 . exact .inr ⟨a, xs, ds, rfl, rfl, h1, dps_mono st h2⟩
theorem Br.ar (gh : Same G H) (h : Br K G F v d) : Ar K F H v d := by
 rcases h with h | ⟨a, xs, ds, rfl, rfl, h1, h2⟩
 . exact .inl h
 . exact .inr ⟨a, xs, ds, rfl, rfl, gh.seq h1, h2⟩
theorem Own.ar {ds : List D} (h : Own K G F H a (.lst ds)) : Ar K F H (.ref a) (.list ds) := by
 obtain ⟨o, h1, h2⟩ := h.cs (fun _ _ z => by cases z)
 . cases o <;> first | exact (show False from h2).elim | skip
   exact .inr ⟨a, _, ds, rfl, rfl, SqL.of h1, h2⟩
theorem td_upd {F : Hp} {p : Addr} {o : HO} (h : TD F) (ho : TDo o) : TD (upd F p o) := fun a x q => by
 unfold upd at q
 split at q
 . cases q; exact ho
 . exact h a x q
theorem cs_tdo {o : HO} {c : C} (h : Cs K F o c) : TDo o := by
 cases c with
 | lst ds => cases o <;> first | exact (show False from h).elim | trivial
 | dct ds => cases o <;> first | exact (show False from h).elim | trivial
 | obj cls fs => cases o <;> exact (show False from h).elim
 | tr t => cases o <;> exact (show False from h).elim
theorem Rel.grow (r : Rel K L G F H σ e) (fl : Full F' H') (td : TD F') (fh : Same F' H') (hh : Same H H') (st : Same F F') (nw : ∀ a, H a ≠ none -> F' a = F a) : Rel K L G F' H' σ e /\ Step G F F' := by
 obtain ⟨s1, s2⟩ := r.slots (L' := L) (G' := G) (H' := H') rfl rfl (fun _ _ z => z) st fun i x q => by
  obtain ⟨q1, q2, o, q3, _⟩ := r.allF q
  exact ⟨by rw [nw x (by rw [q3]; exact fun z => nomatch z)]; exact q1, q2, by rw [hh _ _ q3, q3]⟩
 exact ⟨⟨fh, r.gh.trans hh, r.len, s1, s2, r.bg, td, ⟨r.nw.tb.ext hh, fl, r.nw.gt, r.nw.tg⟩⟩, st, fun a h => nw a fun z => h (r.gh.free z)⟩
theorem same_upd {H : Hp} {p : Addr} {o : HO} (h : H p = none) : Same H (upd H p o) := fun b x q => by
 rw [upd_ne (ne_of_none q h)]
 exact q
theorem same_upd2 {F H : Hp} {p : Addr} {o : HO} (s : Same F H) : Same (upd F p o) (upd H p o) := fun b x q => by
 unfold upd at q ⊢
 split at q
 . rename_i h; rw [if_pos h]; exact q
 . rename_i h; rw [if_neg h]; exact s _ _ q
theorem full_up {F H : Hp} {p : Addr} {o : HO} (h : Full F H) (hf : F p = none) : Full (upd F p o) H := fun a ob xs q d => by
 have z := h a ob xs q d
 rw [upd_ne (ne_of_none z hf)]
 exact z
theorem full_lay {F H : Hp} {p : Addr} {o : HO} (h : Full F H) : Full (upd F p o) (upd H p o) := fun a ob xs q d => by
 unfold upd at q ⊢
 split at q
 . rename_i e; rw [if_pos e]; exact q
 . rename_i e; rw [if_neg e]; exact h a ob xs q d
theorem full_put {F H : Hp} {p : Addr} {o : HO} (h : Full F H) (no : ∀ ob xs, o ≠ .frz ob (.tup xs)) : Full F (upd H p o) := fun a ob xs q d => by
 unfold upd at q
 split at q
 . cases q; exact absurd rfl (no ob xs)
 . exact h a ob xs q d
theorem Rel.lay (r : Rel K L G F H σ e) (hp : H p = none) (ho : TDo o) : Rel K L G (upd F p o) (upd H p o) σ e /\ Step G F (upd F p o) := by
 refine r.grow (full_lay r.nw.fl) (td_upd r.td ho) (same_upd2 r.fh) (same_upd hp) (same_upd (r.fh.free hp)) fun a h => ?_
 refine upd_ne ?_
 rintro rfl
 exact h hp
theorem Rel.put (r : Rel K L G F H σ e) (hp : H p = none) (no : ∀ ob xs, o ≠ .frz ob (.tup xs) := by intro _ _ z; cases z) : Rel K L G F (upd H p o) σ e :=
 (r.grow (full_put r.nw.fl no) r.td (r.fh.trans (same_upd hp)) (same_upd hp) (Same.refl F) fun _ _ => rfl).1
theorem Rel.keep (r : Rel K L G F H σ e) (ho : TDo o) (hp : H p = some o) (hf : F p = none) (hg : G p = none) (hn : ∀ i, ¬ hasF H σ e i p) : Rel K L G (upd F p o) H σ e /\ Step G F (upd F p o) := by
 have st : Same F (upd F p o) := same_upd hf
 obtain ⟨s1, s2⟩ := r.slots (L' := L) (G' := G) (H' := H) (F' := upd F p o) rfl rfl (fun _ _ z => z) st fun i x q => by
  obtain ⟨q1, q2, _⟩ := r.allF q
  refine ⟨?_, q2, rfl⟩
  rw [upd_ne]
  . exact q1
  . rintro rfl
    exact hn i q
 refine ⟨⟨fun b x q => ?_, r.gh, r.len, s1, s2, r.bg, td_upd r.td ho, ⟨r.nw.tb, full_up r.nw.fl hf, r.nw.gt, r.nw.tg⟩⟩, st, fun a h => ?_⟩
 . unfold upd at q
   split at q
   . rename_i h; subst h; cases q; exact hp
   . exact r.fh _ _ q
 . refine upd_ne ?_
   rintro rfl
   exact h hg
theorem fresh_cs (r : Rel K L G F H σ e) (hp : H p = none) (h : Cs K F o c) : ROk K G F (upd H p o) σ e (.fresh c) (.ref p) := by
 refine ⟨p, rfl, Own.of (r.fh.free hp) (r.gh.free hp) upd_same h, fun i x hx m => ?_⟩
 have ex : x = p := by
  cases c with
  | lst ds => exact List.mem_singleton.mp hx
  | dct ds => exact List.mem_singleton.mp hx
  | obj cls fs => cases o <;> exact (show False from h).elim
  | tr t => cases o <;> exact (show False from h).elim
 subst ex
 refine r.nofree hp (hasF_back (H' := upd H x o) r (fun j y q => ?_) m)
 refine upd_ne ?_
 rintro rfl
 exact r.nofree hp q
theorem dp_of_cr {ds : List D} {o : HO} (h : F p = some o) (q : Cs K F o (.lst ds)) : Dp K F (.ref p) (.list ds) := by
 . cases o <;> first | exact (show False from q).elim | skip
   exact .lst (SqL.of h) q
theorem rd_ok {r : R} (q : Rel K L G F H σ e) (h : ROk K G F H σ e r v) (hd : rd e r = some d) : Ar K F H v d := by
 cases r with
 | val d' => cases hd; exact .inl h
 | fresh c =>
  cases c <;> first | (cases hd; done) | skip
  cases hd
  obtain ⟨p, rfl, ow, _⟩ := h
  exact ow.ar
 | slot i =>
  have h : sg σ i = some v := h
  dsimp only [rd] at hd
  split at hd
  . rename_i t k c he
    cases hd
    obtain ⟨a, e1, ow, _⟩ := q.sl i _ he
    rw [h] at e1; cases e1
    exact ow.ar
  . rename_i d' he
    cases hd
    obtain ⟨w, e1, br⟩ := q.sl i _ he
    rw [h] at e1; cases e1
    exact br.ar (q.bg.trans q.gh)
  . cases hd
theorem ROk.later {r : R} {e' : Env} (h : ROk K G F H σ e r v) (st : Same F F') (nf : ∀ c, r ≠ .fresh c) : ROk K G F' H' σ e' r v := by
 cases r with
 | val d => exact dp_mono st h
 | slot i => exact h
 | fresh c => exact absurd rfl (nf c)
theorem hasF_set {s : Sl} {σ' : L2.St} (hs : ∀ t k c, s ≠ .mu t k c) (hi : i < e.length) (k : ∀ j, i ≠ j -> sg σ' j = sg σ j) {j : Nat} {x : Addr} (h : hasF H σ' (e.set i s) j x) : i ≠ j /\ hasF H σ e j x := by
 obtain ⟨t, l, c, a, h1, h2, h3⟩ := h
 by_cases hij : i = j
 . subst hij
   rw [List.getElem?_set_self hi] at h1
   cases h1
   exact absurd rfl (hs t l c)
 . rw [List.getElem?_set_ne hij] at h1
   rw [k j hij] at h2
   exact ⟨hij, t, l, c, a, h1, h2, h3⟩
theorem Rel.freeze {ds : List D} (r : Rel K L G F H σ e) (h : e[i]? = some (.mu false false (.lst ds))) : ∃ F' a, sg σ i = some (.ref a) /\ Rel K L G F' H σ (e.set i (.fz (.list ds))) /\ Step G F F' /\ Dp K F' (.ref a) (.list ds) := by
 obtain ⟨a, e1, ow, _⟩ := r.sl i _ h
 obtain ⟨o, q3, q4⟩ := ow.cs (fun _ _ z => by cases z)
 obtain ⟨q1, q2, _⟩ := ow
 have hi : i < e.length := (List.getElem?_eq_some_iff.mp h).1
 have st : Same F (upd F a o) := same_upd q1
 have dpa : Dp K (upd F a o) (.ref a) (.list ds) := dp_of_cr upd_same (cs_mono st q4)
 have mm : ∀ {m : Nat} {x : Addr}, hasF H σ (e.set i (.fz (.list ds))) m x -> i ≠ m /\ hasF H σ e m x := fun h => hasF_set (fun _ _ _ z => by cases z) hi (fun _ _ => rfl) h
 refine ⟨upd F a o, a, e1, ⟨fun b x q => ?_, r.gh, by rw [List.length_set]; exact r.len, fun j s hj => ?_, fun j k b hjk m1 m2 => r.ap j k b hjk (mm m1).2 (mm m2).2, r.bg, td_upd r.td (cs_tdo q4), ⟨r.nw.tb, full_up r.nw.fl q1, r.nw.gt, r.nw.tg⟩⟩, ⟨st, fun b h' => upd_ne (by rintro rfl; exact h' q2)⟩, dpa⟩
 . unfold upd at q
   split at q
   . rename_i h; subst h; cases q; exact q3
   . exact r.fh _ _ q
 . by_cases hji : i = j
   . subst hji
     rw [List.getElem?_set_self hi] at hj
     cases hj
     exact ⟨_, e1, dpa⟩
   . rw [List.getElem?_set_ne hji] at hj
     have q := r.sl j s hj
     cases s with
     | un => trivial
     | th f => exact ⟨q.1, q.2.trans st⟩
     | fns fs => obtain ⟨a', as, x1, x2, x3⟩ := q; exact ⟨a', as, x1, sqt_mono st x2, x3⟩
     | fnc f => exact q
     | bt u => obtain ⟨v, e2, q⟩ := q; exact ⟨v, e2, q.mono (Same.refl _) st⟩
     | fz d => obtain ⟨v, e2, q⟩ := q; exact ⟨v, e2, dp_mono st q⟩
     | bo d => obtain ⟨v, e2, q⟩ := q; exact ⟨v, e2, q.mono st⟩
     | xc x => obtain ⟨a, C, dd, fs, x1, x2, x3, x4⟩ := q; exact ⟨a, C, dd, fs, x1, x2, x3, fs_mono st x4⟩
     | mu t k c' =>
      obtain ⟨b, e2, ow', p5⟩ := q
      refine ⟨b, e2, (ow'.move (G' := G) (H' := H) st fun x hx => ?_).1, p5⟩
      obtain ⟨x1, x2, _⟩ := ow'.all x hx
      refine ⟨?_, x2, rfl⟩
      rw [upd_ne]
      . exact x1
      . rintro rfl
        exact r.ap i j x hji (hasF_root h e1) ⟨t, k, c', b, hj, e2, hx⟩
theorem Rel.turn {H' : Hp} {t : Bool} {c c' : C} (r : Rel K L G F H σ e) (he : e[i]? = some (.mu t false c)) (ha : sg σ i = some (.ref a))
  (hH : ∀ x, x ∉ ft H a c -> H x ≠ none -> (∃ j, hasF H σ e j x) \/ F x ≠ none \/ G x ≠ none -> H' x = H x) (ow : Own K G F H' a c') (hft : ∀ x ∈ ft H' a c', x ∈ ft H a c \/ ∀ j, ¬ hasF H σ e j x) (tb : Tbs K H') (fl : Full F H') :
  Rel K L G F H' σ (e.set i (.mu t false c')) := by
 obtain ⟨a', e1, ow0, lk⟩ := r.sl i _ he
 rw [ha] at e1; cases e1
 have hi : i < e.length := (List.getElem?_eq_some_iff.mp he).1
 have al := ow0.all
 have oth : ∀ {j : Nat} {x : Addr}, i ≠ j -> hasF H σ e j x -> H' x = H x := fun {j x} hij q => by
  obtain ⟨_, _, o, q3, _⟩ := r.allF q
  refine hH x (fun hx => ?_) (by rw [q3]; exact fun z => nomatch z) (.inl ⟨j, q⟩)
  exact r.ap i j x hij ⟨t, false, c, a, he, ha, hx⟩ q
 have back : ∀ {j : Nat} {x : Addr}, i ≠ j -> hasF H' σ (e.set i (.mu t false c')) j x -> hasF H σ e j x := fun {j x} hij q => by
  obtain ⟨t2, l2, c2, b, h1, h2, h3⟩ := q
  rw [List.getElem?_set_ne hij] at h1
  refine ⟨t2, l2, c2, b, h1, h2, ?_⟩
  obtain ⟨b', e2, ow2, _⟩ := r.sl j _ h1
  rw [h2] at e2; cases e2
  rw [(ow2.move (G' := G) (F' := F) (H' := H') (Same.refl F) fun y hy => ⟨(ow2.all y hy).1, (ow2.all y hy).2.1, oth hij ⟨t2, l2, c2, b, h1, h2, hy⟩⟩).2] at h3
  exact h3
 have self : ∀ {x : Addr}, hasF H' σ (e.set i (.mu t false c')) i x -> x ∈ ft H' a c' := fun {x} q => by
  obtain ⟨t2, l2, c2, b, h1, h2, h3⟩ := q
  rw [List.getElem?_set_self hi] at h1
  cases h1
  rw [ha] at h2; cases h2
  exact h3
 have apart : ∀ {j : Nat} {x : Addr}, i ≠ j -> x ∈ ft H' a c' -> ¬ hasF H σ e j x := fun {j x} hij hx q => by
  rcases hft x hx with h | h
  . exact r.ap i j x hij ⟨t, false, c, a, he, ha, h⟩ q
  . exact h j q
 refine ⟨fun b x q => ?_, fun b x q => ?_, by rw [List.length_set]; exact r.len, fun j s hj => ?_, fun j k x hjk m1 m2 => ?_, r.bg, r.td, ⟨tb, fl, r.nw.gt, r.nw.tg⟩⟩
 . rw [hH b (fun hb => by rw [(al b hb).1] at q; cases q) (by rw [r.fh _ _ q]; exact fun z => nomatch z) (.inr (.inl (by rw [q]; exact fun z => nomatch z)))]
   exact r.fh _ _ q
 . rw [hH b (fun hb => by rw [(al b hb).2.1] at q; cases q) (by rw [r.gh _ _ q]; exact fun z => nomatch z) (.inr (.inr (by rw [q]; exact fun z => nomatch z)))]
   exact r.gh _ _ q
 . by_cases hij : i = j
   . subst hij
     rw [List.getElem?_set_self hi] at hj
     cases hj
     exact ⟨a, ha, ow, lk⟩
   . rw [List.getElem?_set_ne hij] at hj
     have q := r.sl j s hj
     cases s with
     | un => trivial
     | th f => exact q
     | fns fs => exact q
     | fnc f => exact q
     | bt u => exact q
     | fz d => exact q
     | bo d => exact q
     | xc x => exact q
     | mu t' k' c2 =>
      obtain ⟨b, e2, ow2, p5⟩ := q
      refine ⟨b, e2, (ow2.move (G' := G) (H' := H') (Same.refl F) fun x hx => ?_).1, p5⟩
      obtain ⟨x1, x2, _⟩ := ow2.all x hx
      exact ⟨x1, x2, oth hij ⟨t', k', c2, b, hj, e2, hx⟩⟩
 . by_cases hij : i = j
   . subst hij
     exact apart hjk (self m1) (back hjk m2)
   . by_cases hik : i = k
     . subst hik
       exact apart hij (self m2) (back hij m1)
     . exact r.ap j k x hjk (back hij m1) (back hik m2)
end
theorem cs_n2 {K : PySem.W.Frag} {F : Hp} {o : HO} {c : C} (h : Cs K F o c) : ∀ ob xs, o ≠ .frz ob (.tup xs) := by
 cases c with
 | lst ds => cases o <;> first | exact (show False from h).elim | exact fun _ _ z => (by cases z)
 | dct ds => cases o <;> first | exact (show False from h).elim | exact fun _ _ z => (by cases z)
 | obj cls fs => cases o <;> exact (show False from h).elim
 | tr t => cases o <;> exact (show False from h).elim
end Ev
set_option maxHeartbeats 1000000
namespace Ev
open PySem PySem.Spec PyProof.Rows L2
inductive NV where
 | old (v : V)
 | tup (vs : List V)
 | lst (vs : List V)
def NVQ : NV -> Hp -> VK -> Prop
 | .old v, H, Q => Q v H
 | .tup vs, H, Q => ∀ p ob, H p = none -> ob.dict = none -> Q (.ref p) (upd H p (.frz ob (.tup vs)))
 | .lst vs, H, Q => ∀ p, H p = none -> Q (.ref p) (upd H p (.lst vs))
def NVOk (K : PySem.W.Frag) (F : Hp) : NV -> R -> Prop
 | .old v, .val d => Dp K F v d
 | .tup vs, .val (.tuple ds) => DpAll K F vs ds
 | .lst vs, .fresh (.lst ds) => DpAll K F vs ds
 | _, _ => False
theorem nv_state {K : PySem.W.Frag} {L : Fr} {G F H : Hp} {σ : L2.St} {e : Env} {nv : NV} {z : R} {Q : VK} (r : Rel K L G F H σ e) (h : NVOk K F nv z)
  (q : ∀ v F' H', Rel K L G F' H' σ e -> Step G F F' -> ROk K G F' H' σ e z v -> Q v H') : NVQ nv H Q := by
 cases nv with
 | old v =>
  cases z with
  | val d => exact q v F H r (Step.refl G F) h
  | slot i => exact (show False from h).elim
  | fresh c => exact (show False from h).elim
 | tup vs =>
  cases z with
  | val d =>
   cases d <;> first | exact (show False from h).elim | skip
   intro p ob hp hob
   obtain ⟨r', st⟩ := r.lay (o := .frz ob (.tup vs)) hp hob
   exact q _ _ _ r' st (.tup (.inl (.inr ⟨ob, upd_same⟩)) (dps_mono st.s h))
  | slot i => exact (show False from h).elim
  | fresh c => exact (show False from h).elim
 | lst vs =>
  cases z with
  | val d => exact (show False from h).elim
  | slot i => exact (show False from h).elim
  | fresh c =>
   cases c with
   | dct _ => exact (show False from h).elim
   | obj _ _ => exact (show False from h).elim
   | tr _ => exact (show False from h).elim
   | lst ds =>
    intro p hp
    exact q _ F _ (r.put hp) (Step.refl G F) (fresh_cs r hp (c := .lst ds) h)
section
variable {K : PySem.W.Frag} {F H : Hp} {x : V}
theorem ar_int {i : Int} (h : Ar K F H x (.int i)) : x = .int i := by
 rcases h with h | ⟨a, xs, ds, _, e, _⟩
 . cases h; rfl
 . cases e
theorem ar_bool {b : Bool} (h : Ar K F H x (.bool b)) : x = .bl b := by
 rcases h with h | ⟨a, xs, ds, _, e, _⟩
 . cases h; rfl
 . cases e
theorem ar_none (h : Ar K F H x .none) : x = .non := by
 rcases h with h | ⟨a, xs, ds, _, e, _⟩
 . cases h; rfl
 . cases e
theorem ar_str {z : Str} (h : Ar K F H x (.str z)) : x = .str z := by
 rcases h with h | ⟨a, xs, ds, _, e, _⟩
 . cases h; rfl
 . cases e
theorem ar_tup (fh : Same F H) {ds : List D} (h : Ar K F H x (.tuple ds)) : ∃ a xs, x = .ref a /\ SqT K H a xs /\ SqT K F a xs /\ DpAll K F xs ds := by
 rcases h with h | ⟨a, xs, ds, _, e, _⟩
 . have h' := dp_mono fh h
   cases h with
   | tup h1 h2 =>
    refine ⟨_, _, rfl, ?_, h1, h2⟩
    rcases h1 with (h | ⟨o, h⟩) | h
    . exact .inl (.inl (fh _ _ h))
    . exact .inl (.inr ⟨o, fh _ _ h⟩)
    . exact .inr h
 . cases e
theorem ar_lst (fh : Same F H) {ds : List D} (h : Ar K F H x (.list ds)) : ∃ a xs, x = .ref a /\ SqL K H a xs /\ DpAll K F xs ds := by
 rcases h with h | ⟨a, xs, ds', rfl, e, h1, h2⟩
 . cases h with
   | lst h1 h2 => exact ⟨_, _, rfl, fh.seq h1, h2⟩
 . cases e
   exact ⟨a, xs, rfl, h1, h2⟩
end
def OpD (X : Cx) (f : Value -> Value -> Sem Value) (g : D -> D -> Option R) : Prop :=
 ∀ (pins : List (Addr × Obj)) (s : Shared) (σ : L2.St) (H F : Hp) (x y : V) (d e : D) (z : R) (v u : Value) (Q : VK), Inv X pins σ H s -> Same F H -> RelV x v -> RelV y u -> Ar X.K F H x d -> Ar X.K F H y e -> g d e = some z ->
  (∀ nv, NVOk X.K F nv z -> NVQ nv H Q) -> wpAny (model X.prog X.w) X.A (f v u) (EP X pins σ Q) X.xe s
section
variable {X : Cx}
theorem list_cat {pins : List (Addr × Obj)} {s : Shared} {σ : L2.St} {H : Hp} {a b : Addr} {xs ys : List V} {Q : VK} (I : Inv X pins σ H s) (ha : SqL X.K H a xs) (hb : SqL X.K H b ys) (hz : xs.length + ys.length <= sizeLine)
  (q : ∀ p, H p = none -> Q (.ref p) (upd H p (.lst (xs ++ ys)))) : wpAny (model X.prog X.w) X.A (binaryOp .Add (.ref a) (.ref b)) (EP X pins σ Q) X.xe s := by
 obtain ⟨vs, rv, pl, _⟩ := I.list ha
 obtain ⟨ws, rw', pl2, _⟩ := I.list hb
 obtain ⟨⟨c1, d1, t1, l1⟩, o1, k1, n1, m1⟩ := pl.isList
 obtain ⟨⟨c2, d2, t2, l2⟩, o2, k2, n2, m2⟩ := pl2.isList
 simp only at k1 m1 k2 m2
 subst k1 m1 k2 m2
 have e : vs.toArray ++ ws.toArray = (vs ++ ws).toArray := by simp
 have lz : (vs ++ ws).length <= sizeLine := by rw [List.length_append, <- rv.length, <- rw'.length]; exact hz
 have cat := list_addW a b vs.toArray ws.toArray n1 n2 d1 d2 l1 l2 (by
  rw [List.size_toArray, List.size_toArray, <- List.length_append]
  exact lz)
 refine concat_meets ⟨_, o1, rfl⟩ ⟨_, o2, rfl⟩ noFill_list_add seq_list_add PySem.F.slot_list_add PySem.F.entry_list_add (PySem.F.args_list_add_2 _ _) cat ⟨o1, o2, ?_⟩
 rw [e]
 refine ⟨.ref s.heap.objs.size, upd H s.heap.objs.size (.lst (xs ++ ys)), ?_, rfl, q _ (I.hok.fresh (Nat.le_refl _))⟩
 refine I.laid (t' := s.toks) (fun _ _ z => Heap.get?_push_of_some _ z) (Nat.le_refl _) ?_
 exact ⟨by rw [List.length_append]; exact hz, vs ++ ws, 0, rv.append rw', Heap.get?_push_size _ rfl⟩
theorem list_rep {pins : List (Addr × Obj)} {s : Shared} {σ : L2.St} {H : Hp} {a : Addr} {xs : List V} {k : Int} {t : Tok} {Q : VK} (I : Inv X pins σ H s) (ha : SqL X.K H a xs) (h1 : -(2 ^ 63) <= k) (h2 : k < 2 ^ 63) (hz : xs.length * k.toNat <= sizeLine)
  (q : ∀ p, H p = none -> Q (.ref p) (upd H p (.lst (List.replicate k.toNat xs).flatten))) : wpAny (model X.prog X.w) X.A (binaryOp .Mult (.ref a) (.int k t)) (EP X pins σ Q) X.xe s := by
 obtain ⟨vs, rv, pl, _⟩ := I.list ha
 obtain ⟨⟨c1, d1, t1, l1⟩, o1, k1, n1, m1⟩ := pl.isList
 simp only at k1 m1
 subst k1 m1
 have lz : vs.toArray.size * k.toNat <= 2 ^ 24 := by rw [List.size_toArray, <- rv.length]; exact hz
 have go := lm_list_mul_any a vs.toArray n1 d1 l1 k t (by simp [Builtin.List.listFitsIndex]; omega) (by omega) (by simp [Builtin.List.listTooLong, sizeLine]; omega)
 refine wpAny_binaryOp_repeat_ref (T := "list") (U := "int") (by decide) ⟨_, o1, rfl⟩ (fun s' => typeIs_int s' k t) noFill_list_mul F.fills_int_mul F.slot_int_rmul repeat_list F.slot_int_index.lookup ?_
 refine call_meets F.slot_int_rmul (typeIs_int s k t) F.entry_int_rmul (F.args_int_rmul_2 _ _) (lm_int_rmul_list_any k t a vs.toArray n1 d1 l1) ⟨o1, rfl, ⟨_, o1, rfl⟩, ?_⟩
 refine call_meets F.slot_list_mul ⟨_, o1, rfl⟩ F.entry_list_mul (F.args_list_mul_2 _ _) go ⟨o1, ?_⟩
 rw [listMul_foldl_if]
 refine ⟨.ref s.heap.objs.size, upd H s.heap.objs.size (.lst (List.replicate k.toNat xs).flatten), ?_, rfl, q _ (I.hok.fresh (Nat.le_refl _))⟩
 refine I.laid (t' := s.toks) (fun _ _ z => Heap.get?_push_of_some _ z) (Nat.le_refl _) ?_
 have rr : ∀ n : Nat, Vals (List.replicate n xs).flatten (List.replicate n vs).flatten := by
  intro n
  induction n with
  | zero => exact .nil
  | succ n ih =>
   rw [List.replicate_succ, List.replicate_succ, List.flatten_cons, List.flatten_cons]
   exact rv.append ih
 refine ⟨?_, (List.replicate k.toNat vs).flatten, 0, rr _, Heap.get?_push_size _ rfl⟩
 have : (List.replicate k.toNat xs).flatten.length = k.toNat * xs.length := by simp
 rw [this, Nat.mul_comm]
 exact hz
theorem lay_tup {pins : List (Addr × Obj)} {s : Shared} {σ : L2.St} {H : Hp} {xs : List V} {vs : List Value} {t' : Nat} (I : Inv X pins σ H s) (rv : Vals xs vs) (hz : xs.length <= sizeLine) :
  Inv X pins σ (upd H s.heap.objs.size (.frz { cls := .type "tuple", data := .seq vs.toArray } (.tup xs))) { s with heap := s.heap.push { cls := .type "tuple", data := .seq vs.toArray }, toks := t' } := by
 refine I.laid (fun _ _ z => Heap.get?_push_of_some _ z) (Nat.le_refl _) ?_
 unfold ObjOk
 refine ⟨Heap.get?_push_size _ rfl, ?_⟩
 unfold ObjOk
 exact ⟨hz, vs, rv, _, Heap.get?_push_size _ rfl, rfl, 0, rfl⟩
theorem vals_nil {xs : List V} {vs : List Value} (h : Vals xs vs) (hn : xs ≠ []) : ¬ vs.toArray.isEmpty = true := by
 cases h with
 | nil => exact absurd rfl hn
 | cons _ _ => simp
theorem tup_cat {pins : List (Addr × Obj)} {s : Shared} {σ : L2.St} {H : Hp} {a b : Addr} {xs ys : List V} {Q : VK} (I : Inv X pins σ H s) (ha : SqT X.K H a xs) (hb : SqT X.K H b ys) (hz : xs.length + ys.length <= sizeLine) (n1 : xs ≠ []) (n2 : ys ≠ [])
  (q : ∀ p ob, H p = none -> ob.dict = none -> Q (.ref p) (upd H p (.frz ob (.tup (xs ++ ys))))) : wpAny (model X.prog X.w) X.A (binaryOp .Add (.ref a) (.ref b)) (EP X pins σ Q) X.xe s := by
 obtain ⟨vs, rv, pl, _⟩ := I.tuple ha
 obtain ⟨ws, rw', pl2, _⟩ := I.tuple hb
 obtain ⟨⟨c1, d1, t1, l1⟩, o1, k1, m1, e1⟩ := pl
 obtain ⟨⟨c2, d2, t2, l2⟩, o2, k2, m2, e2⟩ := pl2
 simp only at k1 e1 k2 e2
 subst k1 e1 k2 e2
 have e : vs.toArray ++ ws.toArray = (vs ++ ws).toArray := by simp
 have lz : (vs ++ ws).length <= sizeLine := by rw [List.length_append, <- rv.length, <- rw'.length]; exact hz
 have cat := tuple_addW2 a b vs.toArray ws.toArray m1 m2 d1 d2 l1 l2 (vals_nil rv n1) (vals_nil rw' n2) (by
  rw [List.size_toArray, List.size_toArray, <- List.length_append]
  exact lz)
 refine concat_meets ⟨_, o1, rfl⟩ ⟨_, o2, rfl⟩ noFill_tuple_add seq_tuple_add PySem.F.slot_tuple_add PySem.F.entry_tuple_add (PySem.F.args_tuple_add_2 _ _) cat ⟨o1, o2, ?_⟩
 rw [e]
 exact ⟨.ref s.heap.objs.size, _, lay_tup I (rv.append rw') (by rw [List.length_append]; exact hz), rfl, q _ _ (I.hok.fresh (Nat.le_refl _)) rfl⟩
theorem tup_rep {pins : List (Addr × Obj)} {s : Shared} {σ : L2.St} {H : Hp} {a : Addr} {xs : List V} {k : Int} {t : Tok} {Q : VK} (I : Inv X pins σ H s) (ha : SqT X.K H a xs) (n1 : xs ≠ []) (h1 : 2 <= k) (h2 : k <= 1000) (hz : xs.length <= 1000)
  (q : ∀ p ob, H p = none -> ob.dict = none -> Q (.ref p) (upd H p (.frz ob (.tup (List.replicate k.toNat xs).flatten)))) : wpAny (model X.prog X.w) X.A (binaryOp .Mult (.ref a) (.int k t)) (EP X pins σ Q) X.xe s := by
 obtain ⟨vs, rv, pl, _⟩ := I.tuple ha
 obtain ⟨⟨c1, d1, t1, l1⟩, o1, k1, m1, e1⟩ := pl
 simp only at k1 e1
 subst k1 e1
 have hlen := rv.length
 have hne := vals_nil rv n1
 have hne' : vs.toArray.isEmpty = false := by simpa using hne
 have hsz : (vs.toArray.size : Int) * k <= 1000 * 1000 := by
  rw [List.size_toArray, <- hlen]
  exact Int.mul_le_mul (by omega) h2 (by omega) (by omega)
 have rr : ∀ n : Nat, Vals (List.replicate n xs).flatten (List.replicate n vs).flatten := by
  intro n
  induction n with
  | zero => exact .nil
  | succ n ih =>
   rw [List.replicate_succ, List.replicate_succ, List.flatten_cons, List.flatten_cons]
   exact rv.append ih
 have ef : List.foldl (fun x1 x2 => x1 ++ x2) #[] (List.replicate k.toNat vs.toArray) = (List.replicate k.toNat vs).flatten.toArray := by
  have := listMul_foldl_if vs.toArray k.toNat
  rw [if_neg hne] at this
  simpa using this
 have hl2 : (List.replicate k.toNat xs).flatten.length <= sizeLine := by
  have e : (List.replicate k.toNat xs).flatten.length = k.toNat * xs.length := by simp
  have : k.toNat * xs.length <= 1000 * 1000 := Nat.mul_le_mul (by omega) hz
  rw [e, sizeLine_eq]
  omega
 have go := tuple_mulW a vs.toArray m1 d1 l1 k t (by simp; omega) (by rw [hne']; simp; omega) (by rw [hne']; simp; omega) (by omega) (by simp only [Builtin.Tuple.tupleTooMany, sizeLine_eq, decide_eq_false_iff_not]; omega) (by
  rw [ef, List.size_toArray, <- (rr k.toNat).length]
  exact hl2)
 refine wpAny_binaryOp_repeat_ref (T := "tuple") (U := "int") (by decide) ⟨_, o1, rfl⟩ (fun s' => typeIs_int s' k t) noFill_tuple_mul F.fills_int_mul F.slot_int_rmul repeat_tuple F.slot_int_index.lookup ?_
 refine call_meets F.slot_int_rmul (typeIs_int s k t) F.entry_int_rmul (F.args_int_rmul_2 _ _) (int_rmul_tuple k t a vs.toArray m1 d1 l1) ⟨o1, rfl, ⟨_, o1, rfl⟩, ?_⟩
 refine call_meets F.slot_tuple_mul ⟨_, o1, rfl⟩ F.entry_tuple_mul (F.args_tuple_mul_2 _ _) go ⟨o1, ?_⟩
 rw [ef]
 exact ⟨.ref s.heap.objs.size, _, lay_tup I (rr k.toNat) hl2, rfl, q _ _ (I.hok.fresh (Nat.le_refl _)) rfl⟩
theorem opd_add : OpD X (binaryOp .Add) (bop .Add) := by
 intro pins s σ H F x y d e z v u Q I fh rx ry hx hy hg hq
 cases d <;> cases e <;> simp only [bop, reduceCtorEq] at hg
 . rename_i i j
   cases hg
   rw [ar_int hx] at rx; rw [ar_int hy] at ry
   exact op_add pins s σ H _ _ v u Q I rx ry ⟨i, j, rfl, rfl, hq (.old _) (.int _)⟩
 . rename_i a b
   split at hg
   . rename_i hz
     cases hg
     rw [ar_str hx] at rx; rw [ar_str hy] at ry
     exact op_add_str pins s σ H _ _ v u Q I rx ry ⟨a, b, rfl, rfl, hz, hq (.old _) (.str _)⟩
   . cases hg
 . rename_i xs ys
   split at hg
   . rename_i hz
     cases hg
     obtain ⟨a, vs, rfl, h1, h2⟩ := ar_lst fh hx
     obtain ⟨b, ws, rfl, h3, h4⟩ := ar_lst fh hy
     cases rx; cases ry
     rw [<- dps_len h2, <- dps_len h4] at hz
     exact list_cat I h1 h3 hz (hq (.lst (vs ++ ws)) (dps_app h2 h4))
   . cases hg
 . rename_i xs ys
   split at hg
   . rename_i hz
     cases hg
     obtain ⟨a, vs, rfl, h1, h1', h2⟩ := ar_tup fh hx
     obtain ⟨b, ws, rfl, h3, h3', h4⟩ := ar_tup fh hy
     rw [<- dps_len h2, <- dps_len h4] at hz
     by_cases hn : vs ≠ [] /\ ws ≠ []
     . cases rx; cases ry
       exact tup_cat I h1 h3 hz hn.1 hn.2 (hq (.tup (vs ++ ws)) (dps_app h2 h4))
     refine op_catA pins s σ H _ _ v u Q I rx ry ⟨a, b, vs, ws, rfl, rfl, h1, h3, hz, fun e => ?_, fun _ e => ?_, fun n1 n2 => absurd ⟨n1, n2⟩ hn⟩
     . subst e
       cases h2
       exact hq (.old _) (.tup h3' h4)
     . subst e
       cases h4
       rw [List.append_nil] at hq
       exact hq (.old _) (.tup h1' h2)
   . cases hg
theorem opd_mul : OpD X (binaryOp .Mult) (bop .Mult) := by
 intro pins s σ H F x y d e z v u Q I fh rx ry hx hy hg hq
 cases d <;> cases e <;> simp only [bop, reduceCtorEq] at hg
 . rename_i i j
   split at hg
   . rename_i hc
     cases hg
     rw [ar_int hx] at rx; rw [ar_int hy] at ry
     exact op_mul pins s σ H _ _ v u Q I rx ry ⟨i, j, rfl, rfl, hc, hq (.old _) (.int _)⟩
   . cases hg
 . rename_i z k
   split at hg
   . rename_i hc
     obtain ⟨c1, c2, c3⟩ := hc
     cases hg
     rw [ar_str hx] at rx
     rw [ar_int hy] at ry
     obtain ⟨t, rfl⟩ := rx
     obtain ⟨t2, rfl⟩ := ry
     refine SB.mul (mulOk_of 1000 1000 c3 c2 (by omega) (by decide) (by decide)) fun t' n => ⟨.str _, H, I.tok n, ⟨_, rfl⟩, hq (.old _) (.str _)⟩
   . cases hg
 . rename_i xs k
   split at hg
   . rename_i hc
     obtain ⟨c1, c2, c3⟩ := hc
     cases hg
     obtain ⟨a, vs, rfl, h1, h2⟩ := ar_lst fh hx
     rw [ar_int hy] at ry
     obtain ⟨t, rfl⟩ := ry
     cases rx
     rw [<- dps_len h2] at c3
     exact list_rep I h1 c1 c2 c3 (hq (.lst _) (dps_rep h2 _))
   . cases hg
 . rename_i xs k
   split at hg
   . rename_i hc
     obtain ⟨c1, c2, c3, c4⟩ := hc
     cases hg
     obtain ⟨a, vs, rfl, h1, h1', h2⟩ := ar_tup fh hx
     rw [ar_int hy] at ry
     rw [<- dps_len h2] at c4
     obtain ⟨t, rfl⟩ := ry
     cases rx
     refine tup_rep I h1 ?_ c2 c3 c4 (hq (.tup _) (dps_rep h2 _))
     rintro rfl
     cases h2
     exact c1 rfl
   . cases hg
theorem opd_int {op : Operator} {C : Int -> Int -> Prop} {g : Int -> Int -> Int} {f : Int -> Int -> Option R} (h : OpR X (binaryOp op) (rI C fun i j => .int (g i j))) (hb : ∀ d e z, bop op d e = some z -> ∃ i j, d = .int i /\ e = .int j /\ C i j /\ z = .val (.int (g i j))) : OpD X (binaryOp op) (bop op) := by
 intro pins s σ H F x y d e z v u Q I fh rx ry hx hy hg hq
 obtain ⟨i, j, rfl, rfl, hc, rfl⟩ := hb d e z hg
 rw [ar_int hx] at rx; rw [ar_int hy] at ry
 exact h pins s σ H _ _ v u Q I rx ry ⟨i, j, rfl, rfl, hc, hq (.old _) (.int _)⟩
theorem opd_int0 {op : Operator} {g : Int -> Int -> Int} (h : OpR X (binaryOp op) (rI0 fun i j => .int (g i j))) (hb : ∀ d e z, bop op d e = some z -> ∃ i j, d = .int i /\ e = .int j /\ z = .val (.int (g i j))) : OpD X (binaryOp op) (bop op) := by
 intro pins s σ H F x y d e z v u Q I fh rx ry hx hy hg hq
 obtain ⟨i, j, rfl, rfl, rfl⟩ := hb d e z hg
 rw [ar_int hx] at rx; rw [ar_int hy] at ry
 exact h pins s σ H _ _ v u Q I rx ry ⟨i, j, rfl, rfl, hq (.old _) (.int _)⟩
theorem bop_i {op : Operator} {g : Int -> Int -> Int} {C : Int -> Int -> Prop} [∀ i j, Decidable (C i j)] (h : ∀ i j, bop op (.int i) (.int j) = if C i j then some (.val (.int (g i j))) else none) (h2 : ∀ d e z, bop op d e = some z -> ∃ i j, d = .int i /\ e = .int j) :
  ∀ d e z, bop op d e = some z -> ∃ i j, d = .int i /\ e = .int j /\ C i j /\ z = .val (.int (g i j)) := by
 intro d e z hz
 obtain ⟨i, j, rfl, rfl⟩ := h2 d e z hz
 rw [h] at hz
 split at hz
 . rename_i c
   cases hz
   exact ⟨i, j, rfl, rfl, c, rfl⟩
 . cases hz
theorem opd_all : ∀ op : Operator, OpD X (binaryOp op) (bop op) := by
 intro op
 cases op
 case Add => exact opd_add
 case Mult => exact opd_mul
 case Sub => exact opd_int0 op_sub fun d e z hz => by cases d <;> cases e <;> simp only [bop, reduceCtorEq] at hz; cases hz; exact ⟨_, _, rfl, rfl, rfl⟩
 case FloorDiv => exact opd_int (f := fun _ _ => none) op_fdivW (bop_i (g := fun i j => i / j) (C := fun _ j => 0 < j /\ j.natAbs.log2 < 9000) (fun i j => rfl) fun d e z hz => by cases d <;> cases e <;> simp only [bop, reduceCtorEq] at hz; exact ⟨_, _, rfl, rfl⟩)
 case Mod => exact opd_int (f := fun _ _ => none) op_mod (bop_i (g := fun i j => i % j) (C := fun _ j => 0 < j) (fun i j => rfl) fun d e z hz => by cases d <;> cases e <;> simp only [bop, reduceCtorEq] at hz; exact ⟨_, _, rfl, rfl⟩)
 case Pow => exact opd_int (f := fun _ _ => none) op_pow (bop_i (g := fun i j => i ^ j.toNat) (C := fun i j => 0 <= j /\ j <= 1000000 /\ i.natAbs < 2 ^ 64) (fun i j => rfl) fun d e z hz => by cases d <;> cases e <;> simp only [bop, reduceCtorEq] at hz; exact ⟨_, _, rfl, rfl⟩)
 case LShift => exact opd_int (f := fun _ _ => none) op_shl (bop_i (g := fun i j => i * 2 ^ j.toNat) (C := fun i j => 0 <= j /\ j <= 1000000 /\ i.natAbs < 2 ^ 64) (fun i j => rfl) fun d e z hz => by cases d <;> cases e <;> simp only [bop, reduceCtorEq] at hz; exact ⟨_, _, rfl, rfl⟩)
 case RShift => exact opd_int (f := fun _ _ => none) op_shr (bop_i (g := fun i j => i / 2 ^ j.toNat) (C := fun _ j => 0 <= j) (fun i j => rfl) fun d e z hz => by cases d <;> cases e <;> simp only [bop, reduceCtorEq] at hz; exact ⟨_, _, rfl, rfl⟩)
 case BitAnd => exact opd_int0 op_and fun d e z hz => by cases d <;> cases e <;> simp only [bop, reduceCtorEq] at hz; cases hz; exact ⟨_, _, rfl, rfl, rfl⟩
 case BitXor => exact opd_int0 op_xor fun d e z hz => by cases d <;> cases e <;> simp only [bop, reduceCtorEq] at hz; cases hz; exact ⟨_, _, rfl, rfl, rfl⟩
 case BitOr => exact opd_int0 op_or fun d e z hz => by cases d <;> cases e <;> simp only [bop, reduceCtorEq] at hz; cases hz; exact ⟨_, _, rfl, rfl, rfl⟩
 all_goals
  intro pins s σ H F x y d e z v u Q I fh rx ry hx hy hg hq
  cases d <;> cases e <;> simp only [bop, reduceCtorEq] at hg
end
end Ev
set_option maxHeartbeats 2000000
namespace Ev
open PySem PySem.W PySem.Calls PyProof.Rows PySem.SeqAt
section
variable {A : Around} {s : Shared}
theorem ask_tuple {prog : Program} {w : World} {E : Value -> Shared -> Prop} {Q : Value -> Shared -> Prop} {l b : Addr} {its jts : Array Value} {e r : Nat -> Bool} (hl : s.heap.IsTuple l its) (hb : s.heap.IsTuple b jts)
  (he : ∀ j (q1 : j < its.size) (q2 : j < jts.size), EqAt A.in1 s its[j] jts[j] (e j)) (hr : ∀ j (q1 : j < its.size) (q2 : j < jts.size), e j = false -> RcLt A.in1 s its[j] jts[j] (r j))
  (k : Q (.bool (firstLt e r (decide (its.size < jts.size)) (List.range (min its.size jts.size)))) s) : wpAny (model prog w) A (call (.builtin "tuple.__lt__") [.ref l, .ref b]) Q E s := by
 obtain ⟨⟨c1, d1, t1, z1⟩, o1, p1, n1, y1⟩ := id hl
 obtain ⟨⟨c2, d2, t2, z2⟩, o2, p2, n2, y2⟩ := id hb
 simp only at p1 y1 p2 y2
 subst p1 y1 p2 y2
 exact call_meets F.slot_tuple_lt ⟨_, o1, rfl⟩ F.entry_tuple_lt (F.args_tuple_lt_2 _ _) (tuple_ltAt l b its jts n1 n2 d1 d2 z1 z2 e r) ⟨o1, o2, he, hr, k⟩
end
section
variable {prog : Program} {w : World} {A : Around} {E : Value -> Shared -> Prop} {s : Shared}
theorem one_tuple {xs ys : List PyData} {a b : Value} {as bs : List Addr} {Q : Bool -> Shared -> Prop} (ra : Reads s.heap a (.tuple xs) as) (rb : Reads s.heap b (.tuple ys) bs) (h : alike (.tuple xs) (.tuple ys) = true)
  (hu : A.units + min (PyData.depth (.tuple xs)) (PyData.depth (.tuple ys)) < cLine) (hq : Q (dataLt (.tuple xs) (.tuple ys)) s) : wpAny (model prog w) A (oneLt' true a b) Q E s := by
 have hal : alikeAll xs ys = true := by simpa [alike] using h
 cases ra with
 | @tuple l o vs n _ as₁ a1 a2 a3 a4 =>
  cases rb with
  | @tuple l' o' vs' n' _ bs₁ b1 b2 b3 b4 =>
   have n1 : vs.size = xs.length := by simpa using SeqAt.ReadsAll.length _ _ _ a4
   have n2 : vs'.size = ys.length := by simpa using SeqAt.ReadsAll.length _ _ _ b4
   rw [dataLt_tuple, <- firstLt_toks xs ys hal, <- n1, <- n2] at hq
   rw [oneLt'_eq]
   simp only [if_true]
   refine wpAny_bind (wpAny_cRoomFor (room_here hu) ?_)
   refine wpAny_bind (wpAny_callSpecialIfBound?_slot (T := "tuple") ⟨_, a1, a2⟩ F.slot_tuple_lt (ask_tuple (e := pairEq xs ys) (r := fun j => dataLt (xs.getD j .none) (ys.getD j .none)) ⟨_, a1, a2, _, a3⟩ ⟨_, b1, b2, _, b3⟩ (fun j j1 j2 => ?_) (fun j j1 j2 hj => ?_) ?_))
   . have := eqAt_alikeAll xs ys A.in1 s vs.toList vs'.toList _ _ a4 b4 hal (room_in hu) j (by simpa using j1) (by simpa using j2)
     simpa using this
   . have := rcLt_alikeAll xs ys A.in1 s vs.toList vs'.toList _ _ a4 b4 hal (room_in hu) j (by simpa using j1) (by simpa using j2) hj
     simpa using this
   . exact wpAny_truthy_bool hq
variable {M : Model}
theorem first_of {v : Value} {xs : List PyData} {as : List Addr} {Q : Option Value -> Shared -> Prop} (r : Reads s.heap v (.tuple xs) as) (h : ∀ o, (xs = [] -> o = none) -> Q o s) : wpAny M A (firstOfTuple' v) Q E s := by
 have lk : Looks M s.heap (typeOf v) (Value.type "tuple") := looks_reads (M := M) r
 cases r with
 | @tuple l o vs n _ _ a1 a2 a3 a4 =>
  rw [kas_first_eq]
  refine wpAny_bind (lk.here ?_)
  rw [if_neg (show ¬ (Value.type "tuple" != Value.type "tuple") = true by decide)]
  refine wpAny_bind (listItems_at a1 a3 (wpAny_pure (h _ fun e => ?_)))
  subst e
  have : vs.size = 0 := by simpa using SeqAt.ReadsAll.length _ _ _ a4
  simp [this]
theorem firsts_of : ∀ {vs : List Value} {Q : List (Option Value) -> Shared -> Prop}, (∀ v ∈ vs, ∃ xs as, Reads s.heap v (.tuple xs) as) -> (∀ os, os.length = vs.length -> Q os s) -> wpAny M A (vs.mapM firstOfTuple') Q E s
 | [], Q, _, h => by rw [List.mapM_nil]; exact wpAny_pure (h [] rfl)
 | v :: vs, Q, hv, h => by
  rw [List.mapM_cons]
  obtain ⟨xs, as, r⟩ := hv v List.mem_cons_self
  refine wpAny_bind (first_of r fun o _ => wpAny_bind (firsts_of (Q := fun bs s' => wpAny M A (pure (o :: bs)) Q E s') (fun u hu => hv u (List.mem_cons_of_mem _ hu)) fun os hl => wpAny_pure (h (o :: os) (by simp [hl]))))
theorem kind_of {vs : List Value} {Q : SortKind -> Shared -> Prop} (h2 : 2 <= vs.length) (hv : ∀ v ∈ vs, ∃ xs as, Reads s.heap v (.tuple xs) as) (h0 : ∃ v rest as, vs = v :: rest /\ Reads s.heap v (.tuple []) as) (h : Q oneType' s) : wpAny M A (keyKind' vs.toArray) Q E s := by
 obtain ⟨v, rest, as, rfl, r0⟩ := h0
 rw [keyKind'_eq, List.mapM_toArray, map_eq_pure_bind]
 refine wpAny_bind (wpAny_bind ?_)
 rw [List.mapM_cons]
 refine wpAny_bind (first_of r0 fun o ho => wpAny_bind (firsts_of (fun u hu => hv u (List.mem_cons_of_mem _ hu)) fun os hl => wpAny_pure (wpAny_pure ?_)))
 rw [ho rfl]
 rw [if_neg (by simp), if_neg (by simp)]
 rw [oneTypeOnly'_eq, List.mapM_toArray, map_eq_pure_bind]
 refine wpAny_bind (wpAny_bind (wpAny_bind (kas_mapM (r := Value.type "tuple") _ (fun u hu Q' hq => (by
  obtain ⟨xs, as, r⟩ := hv u hu
  exact (looks_reads (M := M) r).here hq)) (wpAny_pure ?_))))
 have hall : ((List.map (fun _ => Value.type "tuple") (v :: rest)).toArray.all fun x => x == Value.type "tuple") = true := by
  simp only [List.all_toArray, List.all_map, List.all_eq_true]
  intro _ _
  exact beq_self_eq_true _
 have h0 : (List.map (fun _ => Value.type "tuple") (v :: rest)).toArray[0]? = some (Value.type "tuple") := by simp
 rw [h0]
 simp only [hall, if_true]
 exact wpAny_pure (wpAny_pure h)
def Tup0 (ds : List PyData) : Prop := (∀ d ∈ ds, ∃ xs, d = PyData.tuple xs) /\ ∃ rest, ds = .tuple [] :: rest
theorem sorts0 {vs : List Value} {ds : List PyData} (e : EachIs (fun v d => ∃ as, Reads s.heap v d as) vs ds) (hal : AllAlike ds) (hk : Tup0 ds) (hu : ∀ d, d ∈ ds -> A.units + d.depth < cLine) : SortsAt prog w A s (dataKind s.heap ds) vs := by
 obtain ⟨ht, rest, e0⟩ := hk
 refine ⟨fun v hv => ?_, oneType', ?_, fun h2 E Q hq => ?_⟩
 . obtain ⟨d, hd, as, r⟩ := e.left v hv
   exact ⟨_, dataKind_some hal hd r⟩
 . intro E x y a b Q ha hb hq
   obtain ⟨d, as, hd, ra, rfl⟩ := dataKind_inv ha
   obtain ⟨d', as', hd', rb, rfl⟩ := dataKind_inv hb
   have hdd := hal d hd d' hd'
   have room := Nat.lt_of_le_of_lt (Nat.add_le_add_left (Nat.min_le_left d.depth d'.depth) A.units) (hu d hd)
   obtain ⟨xs, rfl⟩ := ht d hd
   obtain ⟨ys, rfl⟩ := ht d' hd'
   rw [keyLt'_oneType]
   exact one_tuple ra rb hdd room hq
 . refine kind_of h2 (fun v hv => ?_) ?_ hq
   . obtain ⟨d, hd, as, r⟩ := e.left v hv
     obtain ⟨xs, rfl⟩ := ht d hd
     exact ⟨xs, as, r⟩
   . subst e0
     cases e with
     | cons h _ =>
      obtain ⟨as, r⟩ := h
      exact ⟨_, _, as, rfl, r⟩
def Sq (h : Heap) (l : Addr) (xs : Array Value) : Prop := ∃ o, h.get? l = some o /\ (o.cls = .type "list" \/ o.cls = .type "tuple") /\ ∃ n, o.data = .seq xs n
theorem collect_sq {l : Addr} {us : List Value} {P : List Value -> Shared -> Prop} (hs : Sq s.heap l us.toArray) (lz : us.length <= sizeLine)
  (hp : P us { s with heap := (s.heap.push (seqObj "list" #[] 0)).update s.heap.objs.size (Obj.mapSeq (· ++ us.toArray)) }) : wpAny (model prog w) A (collect (.ref l)) P E s := by
 obtain ⟨ob, at_, kd, n, dt⟩ := hs
 have at2 : (s.heap.push (seqObj "list" #[] 0)).get? l = some ob := Heap.get?_push_of_some _ at_
 unfold collect
 refine wpAny_bind (wpAny_runValue (codeAny_builtin entry_proto_collect' ?_))
 refine (show wpAny _ _ (do again (.builtin "list.__iadd__" ⟨[<- newList [], .ref l], []⟩)) _ _ s from ?_)
 refine wpAny_bind (wpAny_newList (wpAny_pure ⟨Code.quiet_builtin _ (by decide +kernel), codeAny_builtin entry_list_iadd' ?_⟩))
 refine (show wpAny _ _ (Builtin.List.listExtendWith (.ref s.heap.objs.size) (.ref l) (.ref s.heap.objs.size)) _ _ { s with heap := s.heap.push (seqObj "list" #[] 0) } from ?_)
 unfold Builtin.List.listExtendWith
 have le : (#[] ++ us.toArray).size <= sizeLine + 1 := by
  simp only [Array.size_append, List.size_toArray, List.length_nil]
  omega
 have fin : wpAny (model prog w) A (do
   let o <- load s.heap.objs.size
   match o.data with
   | .seq xs _ => pure xs.toList
   | _ => unsupported "internal:collect") P E { s with heap := (s.heap.push (seqObj "list" #[] 0)).update s.heap.objs.size (Obj.mapSeq (· ++ us.toArray)) } := by
  refine wpAny_bind (wpAny_load (get?_update_seq (Heap.get?_push_size _ rfl) _) ?_)
  refine (show wpAny _ _ (pure ((#[] : Array Value) ++ us.toArray).toList) P E _ from ?_)
  have e0 : ((#[] : Array Value) ++ us.toArray).toList = us := by simp
  rw [e0]
  exact wpAny_pure hp
 have tl : (Value.type "list" == Value.type "list") = true := rfl
 have tt : (Value.type "tuple" == Value.type "tuple") = true := rfl
 rcases kd with kd | kd
 . refine wpAny_bind (wpAny_typeOf (T := "list") ⟨ob, at2, kd⟩ ?_)
   rw [if_pos (by rw [tl]; simp)]
   refine wpAny_bind (listItems_at at2 dt (wpAny_bind (listItems_at (xs := #[]) (n := 0) (Heap.get?_push_size _ rfl) rfl ?_)))
   rw [if_neg (by simp)]
   exact wpAny_bind (listUpdate_at (xs := #[]) (n := 0) (Heap.get?_push_size _ rfl) rfl (wpAny_pure fin) (Nat.zero_le _) le)
 . refine wpAny_bind (wpAny_typeOf (T := "tuple") ⟨ob, at2, kd⟩ ?_)
   rw [if_pos (by rw [tt]; simp)]
   refine wpAny_bind (listItems_at at2 dt (wpAny_bind (listItems_at (xs := #[]) (n := 0) (Heap.get?_push_size _ rfl) rfl ?_)))
   rw [if_neg (by simp)]
   exact wpAny_bind (listUpdate_at (xs := #[]) (n := 0) (Heap.get?_push_size _ rfl) rfl (wpAny_pure fin) (Nat.zero_le _) le)
theorem sortedS_vals {l : Addr} {us : List Value} {κ : PyProof.Rows.KeyKind} {P : Value -> Shared -> Prop} (hs : Sq s.heap l us.toArray) (S : SortsAt prog w A.in1.in1 { s with heap := sortingHeap (copyHeap s.heap us) (s.heap.objs.size + 1) us } κ us) (lz : us.length <= sizeLine)
  (hp : P (.ref (s.heap.objs.size + 1)) { s with heap := sortedAll s.heap us (sortVals κ false us us).toArray }) : wpAny (model prog w) A (call (.builtin "sorted") [.ref l]) P E s := by
 refine call_function_entry_kw kind_sorted plain_sorted entry_sorted (args_sorted1 _) ?_
 unfold Builtin.«sorted»
 refine wpAny_bind (m := checkCount "sorted" 1 1 _) (wpAny_pure (wpAny_bind (collect_sq hs lz (wpAny_bind (wpAny_newList ?_ lz)))))
 have sz : ((s.heap.push (seqObj "list" #[] 0)).update s.heap.objs.size (Obj.mapSeq (· ++ us.toArray))).objs.size = s.heap.objs.size + 1 := by
  rw [Heap.size_update, size_push']
 refine (show wpAny _ _ _ _ _ { s with heap := copyHeap s.heap us } from ?_)
 rw [sz]
 refine wpAny_bind (wpAny_holding (wpAny_call_entry_kw slot_list_sort ⟨_, copyHeap_at s.heap us, rfl⟩ entry_list_sort ?sorts (args_list_sort _)))
 refine (show wpAny (model prog w) A.in1.in1 (Builtin.«list.sort» ⟨[.ref (s.heap.objs.size + 1)], []⟩) _ _ _ from ?_)
 refine wpAny_mono (list_sort_vals (s := { s with heap := copyHeap s.heap us }) (P := fun f s' => f = .done (.ret .none) /\ P (.ref (s.heap.objs.size + 1)) s') (copyHeap_at s.heap us) S lz ⟨rfl, hp⟩) (fun f s' hf => ?_) fun _ _ e => e
 obtain ⟨rfl, hq⟩ := hf
 exact ⟨_, rfl, wpAny_pure ⟨_, rfl, hq⟩⟩
theorem sorted0 {β : Type} {vs : List Value} {bs : List β} {enc : β -> PyData} {R : Value -> β -> Prop} {l : Addr} {Q : Value -> Shared -> Prop} (hl : Sq s.heap l vs.toArray) (e : EachIs R vs bs) (er : EachIs (fun v b => ∃ as, Reads s.heap v (enc b) as) vs bs) (hal : AllAlike (bs.map enc)) (hk : Tup0 (bs.map enc)) (hL : bs.length <= sizeLine)
  (hu : ∀ b, b ∈ bs -> A.units + 2 + (enc b).depth < cLine) (k : ∀ out, out.length = bs.length -> EachIs R out (bs.mergeSort (dataLe false enc)) -> Q (.ref (s.heap.objs.size + 1)) { s with heap := sortedAll s.heap vs (List.toArray out) }) :
  wpAny (model prog w) A (call (.builtin "sorted") [.ref l]) Q E s := by
 have er2 : EachIs (fun v b => ∃ as, Reads (sortingHeap (copyHeap s.heap vs) (s.heap.objs.size + 1) vs) v (enc b) as) vs bs := er.mono fun _ _ ⟨as, r⟩ => ⟨as, PyProof.Rows.Reads.keeps (fun _ _ => sorting_copy_old) r⟩
 refine sortedS_vals hl (sorts0 (s := { s with heap := sortingHeap (copyHeap s.heap vs) (s.heap.objs.size + 1) vs }) (each_map (R := fun v d => ∃ as, Reads (sortingHeap (copyHeap s.heap vs) (s.heap.objs.size + 1) vs) v d as) enc er2) hal hk (bound_map hu)) (by rw [e.length]; exact hL) ?_
 exact k _ (by rw [sortVals_length false rfl]; exact e.length) (sortVals_data false e er2 hal)
theorem sorted_any {β : Type} {vs : List Value} {bs : List β} {enc : β -> PyData} {R : Value -> β -> Prop} {l : Addr} {Q : Value -> Shared -> Prop} (hl : Sq s.heap l vs.toArray) (e : EachIs R vs bs) (er : EachIs (fun v b => ∃ as, Reads s.heap v (enc b) as) vs bs) (hal : AllAlike (bs.map enc)) (hk : Sortable (bs.map enc) \/ Tup0 (bs.map enc)) (hL : bs.length <= sizeLine)
  (hu : ∀ b, b ∈ bs -> A.units + 2 + (enc b).depth < cLine) (k : ∀ out, out.length = bs.length -> EachIs R out (bs.mergeSort (dataLe false enc)) -> Q (.ref (s.heap.objs.size + 1)) { s with heap := sortedAll s.heap vs (List.toArray out) }) :
  wpAny (model prog w) A (call (.builtin "sorted") [.ref l]) Q E s := by
 rcases hk with hk | hk
 . have er2 : EachIs (fun v b => ∃ as, Reads (sortingHeap (copyHeap s.heap vs) (s.heap.objs.size + 1) vs) v (enc b) as) vs bs := er.mono fun _ _ ⟨as, r⟩ => ⟨as, PyProof.Rows.Reads.keeps (fun _ _ => sorting_copy_old) r⟩
   refine sortedS_vals hl (SortsAt.data (s := { s with heap := sortingHeap (copyHeap s.heap vs) (s.heap.objs.size + 1) vs }) (each_map (R := fun v d => ∃ as, Reads (sortingHeap (copyHeap s.heap vs) (s.heap.objs.size + 1) vs) v d as) enc er2) hal hk (bound_map hu)) (by rw [e.length]; exact hL) ?_
   exact k _ (by rw [sortVals_length false rfl]; exact e.length) (sortVals_data false e er2 hal)
 . exact sorted0 hl e er hal hk hL hu k
end
end Ev
set_option maxHeartbeats 4000000
namespace Ev
open PySem PySem.Spec L2 PyProof.Rows
section
variable {P : Program} {w : World} {A : Around} {E : Value -> Shared -> Prop} {s : Shared}
def FewR (ks : List (Addr × List Int)) : Prop := ∀ (i : Nat) (L : List (Addr × List Int)), i < ks.length -> Got ks i L -> (L.map (·.2)).Nodup -> L.length + 1 < 64
set_option maxRecDepth 100000 in
set_option maxRecDepth 100000 in
end
end Ev
namespace Ev
open PySem PySem.Spec L2 PySem.W PySem.Calls PyProof.Rows PySem.SeqAt
def encW (q : Addr × List Int) : PyData := .tuple (q.2.map .int)
section
variable {prog : Program} {w : World} {A : Around} {E : Value -> Shared -> Prop} {s : Shared}
def encT (q : Value × Str) : PyData := .str q.2
def strV : Value -> Str
 | .str x _ => x
 | _ => ⟨#[]⟩
end
end Ev
set_option maxHeartbeats 1000000
namespace Ev
open PySem PySem.Spec PyProof.Rows L2
section
variable {X : Cx}
theorem shp_lay {d : D} (h : shp d = true) : d.canLay0 = true /\ d.depth <= 64 := by
 have h' : (d.canLay0 && decide (d.depth <= 64)) = true := h
 rw [Bool.and_eq_true] at h'
 exact ⟨h'.1, of_decide_eq_true h'.2⟩
theorem isN_ne {d : D} (h : isN d = false) : d ≠ .none := by
 rintro rfl
 cases h
theorem str_one {x : Str} (h : x.cps.size = 1) : x = ⟨#[x.cps.getD 0 0]⟩ := by
 obtain ⟨⟨l⟩⟩ := x
 match l, h with
 | [c], _ => rfl
def CmpD (X : Cx) (f : Value -> Value -> Sem Value) (g : D -> D -> Option Bool) : Prop :=
 ∀ (pins : List (Addr × Obj)) (s : Shared) (σ : L2.St) (H F : Hp) (x y : V) (d e : D) (k : Bool) (v u : Value) (Q : VK), Inv X pins σ H s -> Same F H -> RelV x v -> RelV y u -> Ar X.K F H x d -> Ar X.K F H y e -> g d e = some k ->
  Q (.bl k) H -> wpAny (model X.prog X.w) X.A (f v u) (EP X pins σ Q) X.xe s
theorem cmp_lt (hu : X.A.units + 100 < cLine) : CmpD X (compareOp .Lt) ltD := by
 intro pins s σ H F x y d e k v u Q I fh rx ry hx hy hg hq
 obtain ⟨as, r1⟩ := Dp.reads I d x v (hx.dp fh) rx
 obtain ⟨bs, r2⟩ := Dp.reads I e y u (hy.dp fh) ry
 unfold ltD at hg
 split at hg
 . rename_i i j
   cases hg
   rw [ar_int hx] at rx; rw [ar_int hy] at ry
   exact op_lt pins s σ H _ _ v u Q I rx ry ⟨i, j, rfl, rfl, hq⟩
 . rename_i a b
   cases hg
   rw [ar_str hx] at rx; rw [ar_str hy] at ry
   exact op_lt_str pins s σ H _ _ v u Q I rx ry ⟨a, b, rfl, rfl, hq⟩
 . split at hg
   . rename_i hc
     cases hg
     exact W.lt_data r1 r2 hc.1 (isN_ne hc.2.1) (by have := hc.2.2; omega) ⟨.bl _, H, I, rfl, hq⟩
   . cases hg
theorem cmp_gt (hu : X.A.units + 100 < cLine) : CmpD X (compareOp .Gt) (fun x y => ltD y x) := by
 intro pins s σ H F x y d e k v u Q I fh rx ry hx hy hg hq
 obtain ⟨as, r1⟩ := Dp.reads I d x v (hx.dp fh) rx
 obtain ⟨bs, r2⟩ := Dp.reads I e y u (hy.dp fh) ry
 dsimp only at hg
 unfold ltD at hg
 split at hg
 . rename_i i j
   cases hg
   rw [ar_int hx] at rx; rw [ar_int hy] at ry
   exact op_gt pins s σ H _ _ v u Q I rx ry ⟨j, i, rfl, rfl, hq⟩
 . rename_i a b
   cases hg
   rw [ar_str hx] at rx; rw [ar_str hy] at ry
   exact op_gt_str pins s σ H _ _ v u Q I rx ry ⟨b, a, rfl, rfl, hq⟩
 . split at hg
   . rename_i hc
     cases hg
     refine W.gt_data r1 r2 (by rw [W.alike_comm]; exact hc.1) (W.ne_none_both hc.1 (isN_ne hc.2.1)) (by have := hc.2.2; omega) ⟨.bl _, H, I, rfl, hq⟩
   . cases hg
theorem cmp_le (hu : X.A.units + 100 < cLine) : CmpD X (compareOp .LtE) leD := by
 intro pins s σ H F x y d e k v u Q I fh rx ry hx hy hg hq
 obtain ⟨as, r1⟩ := Dp.reads I d x v (hx.dp fh) rx
 obtain ⟨bs, r2⟩ := Dp.reads I e y u (hy.dp fh) ry
 unfold leD ltD at hg
 split at hg
 . rename_i i j
   simp only [Option.map_some, Option.some.injEq] at hg
   subst hg
   rw [ar_int hx] at rx; rw [ar_int hy] at ry
   refine op_le pins s σ H _ _ v u Q I rx ry ⟨j, i, rfl, rfl, ?_⟩
   have e : decide (j <= i) = !decide (i < j) := by
    by_cases h : i < j
    . simp [h]
    . have : j <= i := by omega
      simp [h, this]
   show Q (.bl (decide (j <= i))) H
   rw [e]
   exact hq
 . rename_i a b
   simp only [Option.map_some, Option.some.injEq] at hg
   subst hg
   rw [ar_str hx] at rx; rw [ar_str hy] at ry
   exact op_le_str pins s σ H _ _ v u Q I rx ry ⟨b, a, rfl, rfl, hq⟩
 . split at hg
   . rename_i hc
     simp only [Option.map_some, Option.some.injEq] at hg
     subst hg
     exact W.le_data r1 r2 (by rw [W.alike_comm]; exact hc.1) (W.ne_none_both hc.1 (isN_ne hc.2.1)) (by have := hc.2.2; omega) ⟨.bl _, H, I, rfl, hq⟩
   . cases hg
theorem cmp_ge (hu : X.A.units + 100 < cLine) : CmpD X (compareOp .GtE) (fun x y => leD y x) := by
 intro pins s σ H F x y d e k v u Q I fh rx ry hx hy hg hq
 obtain ⟨as, r1⟩ := Dp.reads I d x v (hx.dp fh) rx
 obtain ⟨bs, r2⟩ := Dp.reads I e y u (hy.dp fh) ry
 dsimp only at hg
 unfold leD ltD at hg
 split at hg
 . rename_i i j
   simp only [Option.map_some, Option.some.injEq] at hg
   subst hg
   rw [ar_int hx] at rx; rw [ar_int hy] at ry
   refine op_ge pins s σ H _ _ v u Q I rx ry ⟨i, j, rfl, rfl, ?_⟩
   have e : decide (j <= i) = !decide (i < j) := by
    by_cases h : i < j
    . simp [h]
    . have : j <= i := by omega
      simp [h, this]
   show Q (.bl (decide (j <= i))) H
   rw [e]
   exact hq
 . rename_i a b
   simp only [Option.map_some, Option.some.injEq] at hg
   subst hg
   rw [ar_str hx] at rx; rw [ar_str hy] at ry
   exact op_ge_str pins s σ H _ _ v u Q I rx ry ⟨a, b, rfl, rfl, hq⟩
 . split at hg
   . rename_i hc
     simp only [Option.map_some, Option.some.injEq] at hg
     subst hg
     exact W.ge_data r1 r2 hc.1 (isN_ne hc.2.1) (by have := hc.2.2; omega) ⟨.bl _, H, I, rfl, hq⟩
   . cases hg
theorem map_not {o : Option Bool} {k : Bool} (h : o.map (!·) = some k) : o = some (!k) := by
 cases o with
 | none => cases h
 | some b =>
  simp only [Option.map_some, Option.some.injEq] at h
  subst h
  simp
theorem in_cases {d e : D} {k : Bool} (h : inD d e = some k) : (∃ x z, d = .str x /\ e = .str z /\ x.cps.size = 1 /\ k = decide (x.cps.getD 0 0 ∈ z.cps.toList)) \/
  (∃ ys, (e = .list ys \/ e = .tuple ys) /\ d.canLay0 = true /\ d.depth <= 64 /\ PyData.canLayAll0 ys = true /\ k = ys.any fun y => PyData.eqv y d) := by
 cases e with
 | str z =>
  cases d <;> simp only [inD, reduceCtorEq] at h
  rename_i x
  split at h
  . rename_i hc
    cases h
    exact .inl ⟨x, z, rfl, rfl, hc, rfl⟩
  . cases h
 | list ys =>
  have h' : (if shp d = true /\ shp (.list ys) = true then some (ys.any fun y => PyData.eqv y d) else none) = some k := by cases d <;> exact h
  split at h'
  . rename_i hc
    cases h'
    exact .inr ⟨ys, .inl rfl, (shp_lay hc.1).1, (shp_lay hc.1).2, (shp_lay hc.2).1, rfl⟩
  . cases h'
 | tuple ys =>
  have h' : (if shp d = true /\ shp (.tuple ys) = true then some (ys.any fun y => PyData.eqv y d) else none) = some k := by cases d <;> exact h
  split at h'
  . rename_i hc
    cases h'
    exact .inr ⟨ys, .inr rfl, (shp_lay hc.1).1, (shp_lay hc.1).2, (shp_lay hc.2).1, rfl⟩
  . cases h'
 | _ => cases d <;> cases h
theorem cmp_in (hu : X.A.units + 100 < cLine) : CmpD X (compareOp .In) inD := by
 intro pins s σ H F x y d e k v u Q I fh rx ry hx hy hg hq
 obtain ⟨as, r1⟩ := Dp.reads I d x v (hx.dp fh) rx
 obtain ⟨bs, r2⟩ := Dp.reads I e y u (hy.dp fh) ry
 rcases in_cases hg with ⟨a, z, rfl, rfl, h1, rfl⟩ | ⟨ys, rfl | rfl, l1, l2, l3, rfl⟩
 . rw [ar_str hx, str_one h1] at rx; rw [ar_str hy] at ry
   exact op_in_sign pins s σ H _ _ v u Q I rx ry ⟨_, z, rfl, rfl, hq⟩
 . exact SeqAt.in_list_reads r2 r1 l3 l1 (by omega) ⟨.bl _, H, I, rfl, hq⟩
 . exact SeqAt.in_tuple_reads r2 r1 l3 l1 (by omega) ⟨.bl _, H, I, rfl, hq⟩
theorem cmp_notIn (hu : X.A.units + 100 < cLine) : CmpD X (compareOp .NotIn) (fun x y => (inD x y).map (!·)) := by
 intro pins s σ H F x y d e k v u Q I fh rx ry hx hy hg hq
 obtain ⟨as, r1⟩ := Dp.reads I d x v (hx.dp fh) rx
 obtain ⟨bs, r2⟩ := Dp.reads I e y u (hy.dp fh) ry
 have hk : k = !!k := by simp
 rcases in_cases (map_not hg) with ⟨a, z, rfl, rfl, h1, h2⟩ | ⟨ys, rfl | rfl, l1, l2, l3, h2⟩ <;> rw [hk, h2] at hq
 . rw [ar_str hx, str_one h1] at rx; rw [ar_str hy] at ry
   exact op_notIn_sign pins s σ H _ _ v u Q I rx ry ⟨_, z, rfl, rfl, hq⟩
 . exact SeqAt.notIn_list_reads r2 r1 l3 l1 (by omega) ⟨.bl _, H, I, rfl, hq⟩
 . exact SeqAt.notIn_tuple_reads r2 r1 l3 l1 (by omega) ⟨.bl _, H, I, rfl, hq⟩
theorem is_cases {d e : D} {k : Bool} (h : isD d e = some k) : (e = .none /\ k = isN d) \/ (∃ a b, d = .bool a /\ e = .bool b /\ k = decide (a = b)) := by
 cases e with
 | none =>
  have h' : some (isN d) = some k := by cases d <;> exact h
  cases h'
  exact .inl ⟨rfl, rfl⟩
 | bool b =>
  cases d <;> simp only [isD, reduceCtorEq] at h
  cases h
  exact .inr ⟨_, _, rfl, rfl, rfl⟩
 | _ => cases d <;> cases h
theorem isN_v {K : PySem.W.Frag} {F H : Hp} {x : V} {d : D} (h : Ar K F H x d) : decide (x = V.non) = isN d := by
 rcases h with h | ⟨a, xs, ds, rfl, rfl, _⟩
 . cases h <;> rfl
 . rfl
theorem cmp_is : CmpD X (compareOp .Is) isD := by
 intro pins s σ H F x y d e k v u Q I fh rx ry hx hy hg hq
 rcases is_cases hg with ⟨rfl, rfl⟩ | ⟨a, b, rfl, rfl, rfl⟩
 . rw [ar_none hy] at ry
   exact op_isN pins s σ H _ _ v u Q I rx ry ⟨rfl, by rw [isN_v hx]; exact hq⟩
 . rw [ar_bool hx] at rx; rw [ar_bool hy] at ry
   exact op_isBl pins s σ H _ _ v u Q I rx ry ⟨a, b, rfl, rfl, hq⟩
theorem cmp_isNot : CmpD X (compareOp .IsNot) (fun x y => (isD x y).map (!·)) := by
 intro pins s σ H F x y d e k v u Q I fh rx ry hx hy hg hq
 have hk : k = !!k := by simp
 rcases is_cases (map_not hg) with ⟨rfl, h2⟩ | ⟨a, b, rfl, rfl, h2⟩ <;> rw [hk, h2] at hq
 . rw [ar_none hy] at ry
   exact op_notN pins s σ H _ _ v u Q I rx ry ⟨rfl, by rw [isN_v hx]; exact hq⟩
 . rw [ar_bool hx] at rx; rw [ar_bool hy] at ry
   exact op_notBl pins s σ H _ _ v u Q I rx ry ⟨a, b, rfl, rfl, hq⟩
theorem eq_cases {d e : D} {k : Bool} (h : eqD d e = some k) : (∃ a b, d = .str a /\ e = .str b /\ k = decide (a = b)) \/ shp d = true /\ shp e = true /\ k = PyData.eqv d e := by
 unfold eqD at h
 split at h
 . cases h
   exact .inl ⟨_, _, rfl, rfl, rfl⟩
 . split at h
   . rename_i hc
     cases h
     exact .inr ⟨hc.1, hc.2, rfl⟩
   . cases h
theorem dec_vs (a b : Str) : decide (V.str a = V.str b) = decide (a = b) := decide_eq_decide.mpr ⟨fun h => by cases h; rfl, fun h => by rw [h]⟩
theorem cmp_eq (hu : X.A.units + 100 < cLine) : CmpD X (compareOp .Eq) eqD := by
 intro pins s σ H F x y d e k v u Q I fh rx ry hx hy hg hq
 rcases eq_cases hg with ⟨a, b, rfl, rfl, rfl⟩ | ⟨h1, h2, rfl⟩
 . rw [ar_str hx] at rx; rw [ar_str hy] at ry
   exact op_eq pins s σ H _ _ v u Q I rx ry ⟨rfl, by rw [dec_vs]; exact hq⟩
 . exact op_eqD (by omega) pins s σ H _ _ v u Q I rx ry ⟨d, e, hx.dp fh, hy.dp fh, h1, h2, hq⟩
theorem cmp_ne (hu : X.A.units + 100 < cLine) : CmpD X (compareOp .NotEq) (fun x y => (eqD x y).map (!·)) := by
 intro pins s σ H F x y d e k v u Q I fh rx ry hx hy hg hq
 rcases eq_cases (map_not hg) with ⟨a, b, rfl, rfl, h3⟩ | ⟨h1, h2, h3⟩
 . rw [ar_str hx] at rx; rw [ar_str hy] at ry
   refine op_ne pins s σ H _ _ v u Q I rx ry ⟨rfl, ?_⟩
   rw [dec_vs, <- h3]
   simpa using hq
 . refine op_neD (by omega) pins s σ H _ _ v u Q I rx ry ⟨d, e, hx.dp fh, hy.dp fh, h1, h2, ?_⟩
   rw [<- h3]
   simpa using hq
theorem cmp_all (hu : X.A.units + 100 < cLine) : ∀ op : CmpOp, CmpD X (compareOp op) (cop op)
 | .Eq => cmp_eq hu
 | .NotEq => cmp_ne hu
 | .Lt => cmp_lt hu
 | .LtE => cmp_le hu
 | .Gt => cmp_gt hu
 | .GtE => cmp_ge hu
 | .Is => cmp_is
 | .IsNot => cmp_isNot
 | .In => cmp_in hu
 | .NotIn => cmp_notIn hu
theorem tru_v {K : PySem.W.Frag} {F H : Hp} {x : V} {d : D} {k : Bool} (fh : Same F H) (h : Ar K F H x d) (hd : truD d = some k) : TruV K x H k := by
 cases d with
 | none =>
  rw [ar_none h]
  cases hd; rfl
 | bool b =>
  rw [ar_bool h]
  cases hd; rfl
 | int i =>
  rw [ar_int h]
  cases hd; rfl
 | str z =>
  rw [ar_str h]
  simp only [truD] at hd
  split at hd
  . rename_i hz
    cases hd
    exact ⟨hz, rfl⟩
  . cases hd
 | list ds =>
  obtain ⟨a, xs, rfl, h1, h2⟩ := ar_lst fh h
  cases hd
  exact .inl ⟨xs, h1, by cases h2 <;> rfl⟩
 | tuple ds =>
  obtain ⟨a, xs, rfl, h1, _, h2⟩ := ar_tup fh h
  cases hd
  exact .inr (.inl ⟨xs, h1, by cases h2 <;> rfl⟩)
 | dict kvs => cases hd
theorem at_get {α β : Type} {xs : List α} {ys : List β} {i : Int} {y : β} (hl : xs.length = ys.length) (h : L2.atI ys i = some y) : ∃ j, L2.ixN xs.length i = some j /\ ys[j]? = some y := by
 unfold L2.atI at h
 cases e : L2.ixN ys.length i with
 | none => rw [e] at h; cases h
 | some j =>
  rw [e] at h
  exact ⟨j, by rw [hl]; exact e, h⟩
theorem dps_at {K : PySem.W.Frag} {F : Hp} {xs : List V} {ds : List D} {i : Int} {d : D} (h : DpAll K F xs ds) (ha : L2.atI ds i = some d) : ∃ v, L2.atI xs i = some v /\ Dp K F v d := by
 obtain ⟨j, h1, h2⟩ := at_get (dps_len h) ha
 obtain ⟨v, h3, h4⟩ := dps_get h h2
 refine ⟨v, ?_, h4⟩
 unfold L2.atI
 rw [h1]
 exact h3
theorem ix_ok (value slice : Expr) {pins : List (Addr × Obj)} {s : Shared} {σ : L2.St} {H F : Hp} {x y : V} {d e z : D} {v u : Value} {Q : VK} (I : Inv X pins σ H s) (fh : Same F H) (rx : RelV x v) (ry : RelV y u) (hx : Ar X.K F H x d) (hy : Ar X.K F H y e) (hg : iop d e = some z)
  (hq : ∀ w, Dp X.K F w z -> Q w H) (hs : subscripted slice false v u = operate [v, u] (getItem v u)) : wpAny (model X.prog X.w) X.A (subscriptTail value slice v u) (EP X pins σ Q) X.xe s := by
 cases d <;> cases e <;> simp only [iop, reduceCtorEq] at hg
 . rename_i zs i
   rw [ar_int hy] at ry
   rw [ar_str hx] at rx
   split at hg
   . rename_i hlen
     cases ha : L2.atI zs.cps.toList i with
     | none => rw [ha] at hg; cases hg
     | some c =>
      rw [ha] at hg
      cases hg
      exact ix_str value slice pins s σ H _ _ _ _ Q I rx ry ⟨zs, i, c, rfl, rfl, hlen, ha, hq _ (.str _)⟩ hs
   . cases hg
 . rename_i ds i
   rw [ar_int hy] at ry
   obtain ⟨a, xs, rfl, h1, h2⟩ := ar_lst fh hx
   obtain ⟨w, hw, hd⟩ := dps_at h2 hg
   exact ix_list value slice pins s σ H _ _ _ _ Q I rx ry ⟨a, xs, i, w, rfl, rfl, h1, hw, hq w hd⟩ hs
 . rename_i ds i
   rw [ar_int hy] at ry
   obtain ⟨a, xs, rfl, h1, _, h2⟩ := ar_tup fh hx
   obtain ⟨w, hw, hd⟩ := dps_at h2 hg
   exact ix_tup value slice pins s σ H _ _ _ _ Q I rx ry ⟨a, xs, i, w, rfl, rfl, h1, hw, hq w hd⟩ hs
theorem tup_cut {pins : List (Addr × Obj)} {s : Shared} {σ : L2.St} {H : Hp} {a : Addr} {xs : List V} {vl vu : Value} {lo hi : Option Int} {sl : Addr} {Q : VK} (I : Inv X pins σ H s) (ha : SqT X.K H a xs) (hs : s.heap.IsSliceOf sl vl vu .none) (pl : IsPart vl lo) (pu : IsPart vu hi)
  (hw : ¬ (HT.sIx xs.length 0 lo = 0 /\ HT.sIx xs.length xs.length hi = xs.length)) (q : ∀ p ob, H p = none -> ob.dict = none -> Q (.ref p) (upd H p (.frz ob (.tup (cutV xs lo hi))))) :
  ∃ T id, typeLookup (.type T) "__getitem__" = pure (some (.builtin id)) /\ s.TypeIs (.ref a) T /\ wpAny (model X.prog X.w) X.A (getItem (.ref a) (.ref sl)) (EP X pins σ Q) X.xe s := by
 obtain ⟨vs, rv, pt, hz⟩ := I.tuple ha
 have hsz : vs.toArray.size = xs.length := by rw [List.size_toArray, <- rv.length]
 obtain ⟨o1, e1, k1, _⟩ := id pt
 refine ⟨"tuple", "tuple.__getitem__", slot_tuple_getitem.lookup, ⟨o1, e1, k1⟩, HT.getItem_tuple_cut pt hs pl pu (by rw [hsz]; exact hw) ?_ (by rw [hsz]; exact hz)⟩
 rw [hsz]
 have r2 : Vals (cutV xs lo hi) (List.take (HT.sIx xs.length xs.length hi - HT.sIx xs.length 0 lo) (List.drop (HT.sIx xs.length 0 lo) vs)) := (rv.drop _).take _
 have hl : (cutV xs lo hi).length <= sizeLine := by
  unfold cutV
  rw [List.length_take, List.length_drop]
  omega
 exact ⟨.ref s.heap.objs.size, _, lay_tup (t' := s.toks) I r2 hl, rfl, q _ _ (I.hok.fresh (Nat.le_refl _)) rfl⟩
theorem sl_ok {pins : List (Addr × Obj)} {s : Shared} {σ : L2.St} {H F : Hp} {x : V} {d : D} {z : R} {v vl vu : Value} {lo hi : Option Int} {sl : Addr} {Q : VK} (I : Inv X pins σ H s) (fh : Same F H) (rx : RelV x v) (hx : Ar X.K F H x d) (hs : s.heap.IsSliceOf sl vl vu .none) (pl : IsPart vl lo) (pu : IsPart vu hi)
  (hg : sop d lo hi = some z) (hq : ∀ nv, NVOk X.K F nv z -> NVQ nv H Q) : ∃ T id, typeLookup (.type T) "__getitem__" = pure (some (.builtin id)) /\ s.TypeIs v T /\ wpAny (model X.prog X.w) X.A (getItem v (.ref sl)) (EP X pins σ Q) X.xe s := by
 cases d <;> simp only [sop, reduceCtorEq] at hg
 . rename_i z0
   split at hg
   . rename_i hz
     cases hg
     rw [ar_str hx] at rx
     exact sl_str pins s σ H _ v vl vu lo hi sl Q I rx hs pl pu ⟨z0, rfl, hz, hq (.old _) (.str _)⟩
   . cases hg
 . rename_i ds
   cases hg
   obtain ⟨a, xs, rfl, h1, h2⟩ := ar_lst fh hx
   exact sl_list pins s σ H _ v vl vu lo hi sl Q I rx hs pl pu ⟨a, xs, rfl, h1, hq (.lst (cutV xs lo hi)) (dps_cut h2 lo hi)⟩
 . rename_i ds
   cases hg
   obtain ⟨a, xs, rfl, h1, h1', h2⟩ := ar_tup fh hx
   by_cases hw : HT.sIx xs.length 0 lo = 0 /\ HT.sIx xs.length xs.length hi = xs.length
   case neg =>
    cases rx
    exact tup_cut I h1 hs pl pu hw (hq (.tup (cutV xs lo hi)) (dps_cut h2 lo hi))
   refine sl_tupA pins s σ H _ v vl vu lo hi sl Q I rx hs pl pu ⟨a, xs, rfl, h1, fun hw => ?_, fun hn => absurd hw hn⟩
   refine hq (.old _) (.tup (xs := xs) h1' ?_)
   have e : cutD ds lo hi = ds := by
    unfold cutD
    rw [<- dps_len h2, hw.1, hw.2, List.drop_zero, Nat.sub_zero, dps_len h2, List.take_length]
   rw [e]
   exact h2
theorem ints_v {K : PySem.W.Frag} {F : Hp} : ∀ {xs : List V} {ds : List D} {ns : List Int}, DpAll K F xs ds -> intsD ds = some ns -> xs = ns.map V.int
 | _, _, ns, .nil, h => by cases h; rfl
 | _, _, ns, .cons (d := d) h t, e => by
  cases d <;> simp only [intsD, reduceCtorEq] at e
  rename_i ds i
  cases hr : intsD ds with
  | none => rw [hr] at e; cases e
  | some ms =>
   rw [hr] at e
   cases e
   cases h
   rw [List.map_cons, ints_v t hr]
theorem bools_v {K : PySem.W.Frag} {F : Hp} : ∀ {xs : List V} {ds : List D} {ns : List Bool}, DpAll K F xs ds -> boolsD ds = some ns -> xs = ns.map V.bl
 | _, _, ns, .nil, h => by cases h; rfl
 | _, _, ns, .cons (d := d) h t, e => by
  cases d <;> simp only [boolsD, reduceCtorEq] at e
  rename_i ds i
  cases hr : boolsD ds with
  | none => rw [hr] at e; cases e
  | some ms =>
   rw [hr] at e
   cases e
   cases h
   rw [List.map_cons, bools_v t hr]
inductive Ars (K : PySem.W.Frag) (F H : Hp) : List V -> List D -> Prop where
 | nil : Ars K F H [] []
 | cons {v : V} {vs : List V} {d : D} {ds : List D} : Ar K F H v d -> Ars K F H vs ds -> Ars K F H (v :: vs) (d :: ds)
def nameOf : Bi -> Value
 | .len => .builtin "len"
 | .tuple => .type "tuple"
 | .list => .type "list"
 | .sum => .builtin "sum"
 | .any => .builtin "any"
 | .all => .builtin "all"
 | .abs => .builtin "abs"
 | .min2 => .builtin "min"
 | .max2 => .builtin "max"
 | .repr => .builtin "repr"
 | .strInt => .type "str"
 | .intB => .type "int"
 | .sorted => .builtin "sorted"
 | .minL => .builtin "min"
 | .maxL => .builtin "max"
 | _ => .none
def BiD (X : Cx) (f : Bi) : Prop :=
 ∀ (pins : List (Addr × Obj)) (s : Shared) (σ : L2.St) (H F : Hp) (xs : List V) (ds : List D) (z : R) (us : List Value) (Q : VK), Inv X pins σ H s -> Same F H -> Vals xs us -> Ars X.K F H xs ds -> bi f ds = some z ->
  (∀ nv, NVOk X.K F nv z -> NVQ nv H Q) -> wpAny (model X.prog X.w) X.A (call (nameOf f) us) (EP X pins σ Q) X.xe s
theorem ars1 {K : PySem.W.Frag} {F H : Hp} {xs : List V} {d : D} (h : Ars K F H xs [d]) : ∃ x, xs = [x] /\ Ar K F H x d := by
 cases h with
 | cons h t => cases t; exact ⟨_, rfl, h⟩
theorem ars2 {K : PySem.W.Frag} {F H : Hp} {xs : List V} {d e : D} (h : Ars K F H xs [d, e]) : ∃ x y, xs = [x, y] /\ Ar K F H x d /\ Ar K F H y e := by
 cases h with
 | cons h t =>
  obtain ⟨y, rfl, h2⟩ := ars1 t
  exact ⟨_, _, rfl, h, h2⟩
theorem bi_len : BiD X .len := by
 intro pins s σ H F xs ds z us Q I fh rs ha hg hq
 match ds, hg with
 | [.list ys], hg =>
  cases hg
  obtain ⟨x, rfl, h⟩ := ars1 ha
  obtain ⟨a, vs, rfl, h1, h2⟩ := ar_lst fh h
  refine call_len_seq pins s σ H _ us Q I rs ⟨a, vs, rfl, .inl h1, ?_⟩
  rw [dps_len h2]
  exact hq (.old _) (.int _)
 | [.tuple ys], hg =>
  cases hg
  obtain ⟨x, rfl, h⟩ := ars1 ha
  obtain ⟨a, vs, rfl, h1, _, h2⟩ := ar_tup fh h
  refine call_len_seq pins s σ H _ us Q I rs ⟨a, vs, rfl, .inr h1, ?_⟩
  rw [dps_len h2]
  exact hq (.old _) (.int _)
 | [.str y], hg =>
  simp only [bi] at hg
  split at hg
  . rename_i hz
    cases hg
    obtain ⟨x, rfl, h⟩ := ars1 ha
    rw [ar_str h] at rs
    exact call_len pins s σ H _ us Q I rs ⟨.str y, y.length, rfl, ⟨hz, rfl⟩, hq (.old _) (.int _)⟩
  . cases hg
theorem inv_kept {pins : List (Addr × Obj)} {s : Shared} {σ : L2.St} {H : Hp} {h' : Heap} (t' : Nat) (I : Inv X pins σ H s) (k : ∀ b o, s.heap.get? b = some o -> h'.get? b = some o) : Inv X pins σ H { s with heap := h', toks := t' } :=
 I.call (ch := []) (g' := s.gens) (d' := s.drawn) ⟨fun b o e _ _ _ => k b o e, fun b o e _ _ _ => ⟨o.slots, k b o e⟩, fun _ _ _ e _ => e, fun b o e _ => ⟨o, k b o e⟩, fun _ _ e => e, fun _ _ _ e => e, fun b ps e => ⟨#[], by simpa using e⟩⟩ (I.hok.kept k) I.bare (fun _ z => nomatch z)
def rTupZ (K : PySem.W.Frag) : List V -> Hp -> VK -> Prop := fun xs H Q => ∃ p ys, xs = [.ref p] /\ ((SqL K H p ys /\ ∀ l ob, H l = none -> ob.dict = none -> Q (.ref l) (upd H l (.frz ob (.tup ys)))) \/ (SqT K H p ys /\ Q (.ref p) H))
theorem call_tupZ : CallR X (.type "tuple") (rTupZ X.K) := by
 intro pins s σ H xs us Q I r h
 obtain ⟨p, ys, rfl, h⟩ := h
 rcases h with ⟨h1, q⟩ | ⟨h1, q⟩
 . rw [Vals.ref1 r]
   obtain ⟨its, rv, pl, hz⟩ := I.list h1
   refine call_tuple_list pl.isList (fun h' k => ?_) (by rw [List.size_toArray, <- rv.length]; exact hz)
   have J := inv_kept s.toks I k
   exact ⟨.ref h'.objs.size, _, lay_tup (t' := s.toks) J rv hz, rfl, q _ _ (J.hok.fresh (Nat.le_refl _)) rfl⟩
 . exact call_tuple_of pins s σ H _ us Q I r ⟨p, ys, rfl, .inr ⟨h1, q⟩⟩
theorem bi_tuple : BiD X .tuple := by
 intro pins s σ H F xs ds z us Q I fh rs ha hg hq
 match ds, hg with
 | [.list ys], hg =>
  cases hg
  obtain ⟨x, rfl, h⟩ := ars1 ha
  obtain ⟨a, vs, rfl, h1, h2⟩ := ar_lst fh h
  exact call_tupZ pins s σ H _ us Q I rs ⟨a, vs, rfl, .inl ⟨h1, hq (.tup vs) h2⟩⟩
 | [.tuple ys], hg =>
  cases hg
  obtain ⟨x, rfl, h⟩ := ars1 ha
  obtain ⟨a, vs, rfl, h1, h1', h2⟩ := ar_tup fh h
  exact call_tupZ pins s σ H _ us Q I rs ⟨a, vs, rfl, .inr ⟨h1, hq (.old _) (.tup h1' h2)⟩⟩
theorem bi_list : BiD X .list := by
 intro pins s σ H F xs ds z us Q I fh rs ha hg hq
 match ds, hg with
 | [.list ys], hg =>
  cases hg
  obtain ⟨x, rfl, h⟩ := ars1 ha
  obtain ⟨a, vs, rfl, h1, h2⟩ := ar_lst fh h
  exact call_list_of pins s σ H _ us Q I rs ⟨a, vs, rfl, .inl h1, hq (.lst vs) h2⟩
 | [.tuple ys], hg =>
  cases hg
  obtain ⟨x, rfl, h⟩ := ars1 ha
  obtain ⟨a, vs, rfl, h1, h1', h2⟩ := ar_tup fh h
  exact call_list_of pins s σ H _ us Q I rs ⟨a, vs, rfl, .inr h1, hq (.lst vs) h2⟩
theorem sum_tupR {prog : Program} {w : World} {A : Around} {E : Value -> Shared -> Prop} {s : Shared} {l : Addr} {its : List Value} {ns : List Int} {Q : Value -> Shared -> Prop} (hh : A.handled = none) (hl : s.heap.IsTuple l its.toArray) (hi : IntsAre its ns)
  (h : ∀ h' tk t', (∀ b o, s.heap.get? b = some o -> h'.get? b = some o) -> Q (.int ns.sum t') { s with heap := h', toks := tk }) : wpAny (model prog w) A (call (.builtin "sum") [.ref l]) Q E s := by
 obtain ⟨xs, e⟩ := hi.allInts.items
 have hn : numsOf (intItems xs).toList = ns := by rw [<- e]; exact hi.numsOf
 rw [nums_intItems] at hn
 rw [e] at hl
 refine PySem.call_sum_walkAnyS (PySem.W.iter_tupleW (A := A.in1) hh hl fun s₂ e2 W st hfp hw hk => ?_)
 refine ⟨_, _, _, _, _, _, _, numAt xs, rfl, W, st, hfp, (fun _ _ => intItems_at), fun s' t' m => ?_⟩
 obtain ⟨h', tk, rfl, hk'⟩ := PySem.W.moved_old e2 rfl m
 have := h h' tk t' hk'
 have e3 : preSum (numAt xs) (intItems xs).size = ns.sum := by
  rw [preSum_eq, List.take_of_length_le (by simp [intItems]), hn]
 rw [e3]
 exact this
theorem bi_sum (hc : X.calm = true) : BiD X .sum := by
 intro pins s σ H F xs ds z us Q I fh rs ha hg hq
 match ds, hg with
 | [.list ys], hg =>
  simp only [bi] at hg
  cases hn : intsD ys with
  | none => rw [hn] at hg; cases hg
  | some ns =>
   rw [hn] at hg
   cases hg
   obtain ⟨x, rfl, h⟩ := ars1 ha
   obtain ⟨a, vs, rfl, h1, h2⟩ := ar_lst fh h
   rw [ints_v h2 hn] at h1
   exact cr_sum hc pins s σ H _ us Q I rs ⟨a, ns, rfl, h1, hq (.old _) (.int _)⟩
 | [.tuple ys], hg =>
  simp only [bi] at hg
  cases hn : intsD ys with
  | none => rw [hn] at hg; cases hg
  | some ns =>
   rw [hn] at hg
   cases hg
   obtain ⟨x, rfl, h⟩ := ars1 ha
   obtain ⟨u, rfl, ru⟩ := L2.vals1 rs
   obtain ⟨a, vs, rfl, hl, _, hd⟩ := ar_tup fh h
   rw [ints_v hd hn] at hl
   cases ru
   obtain ⟨its, rv, pt, hlen⟩ := I.tuple hl
   exact sum_tupR (I.ok.hd hc) pt rv.ints fun h' tk t' hk => ⟨.int _, H, I.kept hk, ⟨_, rfl⟩, hq (.old _) (.int _)⟩
theorem bi_any (hc : X.calm = true) : BiD X .any := by
 intro pins s σ H F xs ds z us Q I fh rs ha hg hq
 match ds, hg with
 | [.list ys], hg =>
  simp only [bi] at hg
  cases hn : boolsD ys with
  | none => rw [hn] at hg; cases hg
  | some ns =>
   rw [hn] at hg
   cases hg
   obtain ⟨x, rfl, h⟩ := ars1 ha
   obtain ⟨a, vs, rfl, h1, h2⟩ := ar_lst fh h
   rw [bools_v h2 hn] at h1
   exact cr_any hc pins s σ H _ us Q I rs ⟨a, ns, rfl, h1, hq (.old _) (.bl _)⟩
theorem bi_all (hc : X.calm = true) : BiD X .all := by
 intro pins s σ H F xs ds z us Q I fh rs ha hg hq
 match ds, hg with
 | [.list ys], hg =>
  simp only [bi] at hg
  cases hn : boolsD ys with
  | none => rw [hn] at hg; cases hg
  | some ns =>
   rw [hn] at hg
   cases hg
   obtain ⟨x, rfl, h⟩ := ars1 ha
   obtain ⟨a, vs, rfl, h1, h2⟩ := ar_lst fh h
   rw [bools_v h2 hn] at h1
   exact cr_all hc pins s σ H _ us Q I rs ⟨a, ns, rfl, h1, hq (.old _) (.bl _)⟩
theorem bi_abs : BiD X .abs := by
 intro pins s σ H F xs ds z us Q I fh rs ha hg hq
 match ds, hg with
 | [.int i], hg =>
  cases hg
  obtain ⟨x, rfl, h⟩ := ars1 ha
  rw [ar_int h] at rs
  exact call_abs pins s σ H _ us Q I rs ⟨i, rfl, hq (.old _) (.int _)⟩
theorem bi_intB : BiD X .intB := by
 intro pins s σ H F xs ds z us Q I fh rs ha hg hq
 match ds, hg with
 | [.bool b], hg =>
  cases hg
  obtain ⟨x, rfl, h⟩ := ars1 ha
  rw [ar_bool h] at rs
  exact call_int1 pins s σ H _ us Q I rs (.inr ⟨b, rfl, hq (.old _) (.int _)⟩)
 | [.str a], hg =>
  simp only [bi] at hg
  split at hg
  . rename_i hl
    obtain ⟨n, hn, rfl⟩ := Option.map_eq_some_iff.mp hg
    obtain ⟨x, rfl, h⟩ := ars1 ha
    rw [ar_str h] at rs
    exact call_int_str pins s σ H _ us Q I rs ⟨a, n, rfl, hn, hl, hq (.old _) (.int _)⟩
  . cases hg
theorem bi_min2 (hc : X.calm = true) : BiD X .min2 := by
 intro pins s σ H F xs ds z us Q I fh rs ha hg hq
 match ds, hg with
 | [.int i, .int j], hg =>
  cases hg
  obtain ⟨x, y, rfl, h, h'⟩ := ars2 ha
  rw [ar_int h, ar_int h'] at rs
  exact call_min2 hc pins s σ H _ us Q I rs ⟨i, j, rfl, hq (.old _) (.int _)⟩
theorem bi_max2 (hc : X.calm = true) : BiD X .max2 := by
 intro pins s σ H F xs ds z us Q I fh rs ha hg hq
 match ds, hg with
 | [.int i, .int j], hg =>
  cases hg
  obtain ⟨x, y, rfl, h, h'⟩ := ars2 ha
  rw [ar_int h, ar_int h'] at rs
  exact call_max2 hc pins s σ H _ us Q I rs ⟨i, j, rfl, hq (.old _) (.int _)⟩
theorem bi_strInt : BiD X .strInt := by
 intro pins s σ H F xs ds z us Q I fh rs ha hg hq
 match ds, hg with
 | [.int i], hg =>
  simp only [bi] at hg
  split at hg
  . rename_i hz
    cases hg
    obtain ⟨x, rfl, h⟩ := ars1 ha
    rw [ar_int h] at rs
    exact call_str_int pins s σ H _ us Q I rs ⟨i, rfl, hz, hq (.old _) (.str _)⟩
  . cases hg
theorem bi_repr (hg : X.A.guards = some []) (hu : X.A.units + 100 < cLine) : BiD X .repr := by
 intro pins s σ H F xs ds z us Q I fh rs ha hz hq
 match ds, hz with
 | [d], hz =>
  simp only [bi] at hz
  split at hz
  . rename_i hc
    obtain ⟨h1, h2, h3, h4⟩ := hc
    cases hz
    obtain ⟨x, rfl, h⟩ := ars1 ha
    obtain ⟨u, rfl, ru⟩ := L2.vals1 rs
    obtain ⟨as, rd⟩ := Dp.reads I d x u (h.dp fh) ru
    have q := hq (.old (.str d.shown)) (.str _)
    cases d with
    | none =>
     rw [ar_none h] at ru; cases ru
     exact PySem.P.repr_of_none ⟨.str "None", H, I.tok _, ⟨_, rfl⟩, q⟩
    | bool b =>
     rw [ar_bool h] at ru; cases ru
     refine PySem.P.repr_of_bool ⟨.str (if b then "True" else "False"), H, I.tok _, ⟨_, rfl⟩, ?_⟩
     cases b <;> exact q
    | int i =>
     rw [ar_int h] at ru
     obtain ⟨t, rfl⟩ := ru
     have hl : i.natAbs.log2 < 1920 := of_decide_eq_true h1
     exact PySem.P.repr_of_int hl ⟨.str _, H, I.tok _, ⟨_, rfl⟩, q⟩
    | str w =>
     rw [ar_str h] at ru
     obtain ⟨t, rfl⟩ := ru
     exact PySem.P.repr_of_str ⟨.str _, H, I.tok _, ⟨_, rfl⟩, q⟩ h4
    | list ys =>
     obtain ⟨a, vs, rfl, _, _⟩ := ar_lst fh h
     cases ru
     exact repr_of_reads' rd h1 (PyData.noDict_hsm h2) hg (by omega) (fun _ _ e => e) (fun h' w tk hk => ⟨.str _, H, I.kept (t' := tk) hk, ⟨_, rfl⟩, q⟩) h4
    | tuple ys =>
     obtain ⟨a, vs, rfl, _, _⟩ := ar_tup fh h
     cases ru
     exact repr_of_reads' rd h1 (PyData.noDict_hsm h2) hg (by omega) (fun _ _ e => e) (fun h' w tk hk => ⟨.str _, H, I.kept (t' := tk) hk, ⟨_, rfl⟩, q⟩) h4
    | dict kvs => cases h2
  . cases hz
theorem dps_zip {K : PySem.W.Frag} {F : Hp} : ∀ {xs : List V} {ds : List D}, DpAll K F xs ds -> ∀ p ∈ xs.zip ds, Dp K F p.1 p.2
 | _, _, .nil, p, h => by simp at h
 | _, _, .cons h t, p, hp => by
  rw [List.zip_cons_cons] at hp
  rcases List.mem_cons.mp hp with rfl | hp
  . exact h
  . exact dps_zip t p hp
theorem dps_unzip {K : PySem.W.Frag} {F : Hp} : ∀ {ps : List (V × D)}, (∀ p ∈ ps, Dp K F p.1 p.2) -> DpAll K F (ps.map (·.1)) (ps.map (·.2))
 | [], _ => .nil
 | p :: ps, h => .cons (h p List.mem_cons_self) (dps_unzip fun q hq => h q (List.mem_cons_of_mem _ hq))
theorem each_vals : ∀ {out : List Value} {ps : List (V × D)}, W.EachIs (fun u p => RelV p.1 u) out ps -> Vals (ps.map (·.1)) out
 | _, _, .nil => .nil
 | _, _, .cons h t => .cons h (each_vals t)
theorem each_zip {K : PySem.W.Frag} {F : Hp} : ∀ {xs : List V} {ds : List D} {us : List Value}, DpAll K F xs ds -> Vals xs us -> W.EachIs (fun u (p : V × D) => RelV p.1 u) us (xs.zip ds)
 | _, _, _, .nil, .nil => .nil
 | _, _, _, .cons h t, .cons r rs => .cons r (each_zip t rs)
theorem each_reads {F : Hp} {pins : List (Addr × Obj)} {σ : L2.St} {H : Hp} {s : Shared} (I : Inv X pins σ H s) (fh : Same F H) : ∀ {xs : List V} {ds : List D} {us : List Value}, DpAll X.K F xs ds -> Vals xs us -> W.EachIs (fun u (p : V × D) => ∃ as, Reads s.heap u p.2 as) us (xs.zip ds)
 | _, _, _, .nil, .nil => .nil
 | _, _, _, .cons h t, .cons r rs => .cons (Dp.reads I _ _ _ (dp_mono fh h) r) (each_reads I fh t rs)
theorem zip_snd {α β : Type} : ∀ {xs : List α} {ys : List β}, xs.length = ys.length -> (xs.zip ys).map (·.2) = ys
 | [], [], _ => rfl
 | x :: xs, y :: ys, h => by
  rw [List.zip_cons_cons, List.map_cons, zip_snd (by simpa using h)]
theorem sorted_fin {pins : List (Addr × Obj)} {σ : L2.St} {H F : Hp} {s : Shared} {a : Addr} {vs : List V} {its : List Value} {ys : List D} {Q : VK} (hu : X.A.units + 100 < cLine) (I : Inv X pins σ H s) (fh : Same F H) (rv : Vals vs its) (pl : Sq s.heap a its.toArray) (hlen : vs.length <= sizeLine) (hd : DpAll X.K F vs ys)
  (h1 : allAlike ys = true) (h2 : sortable ys = true) (h3 : (ys.all fun d => decide (d.depth <= 60)) = true) (hq : ∀ nv, NVOk X.K F nv (R.fresh (.lst (sortD ys))) -> NVQ nv H Q) : wpAny (model X.prog X.w) X.A (call (.builtin "sorted") [.ref a]) (EP X pins σ Q) X.xe s := by
 have ez : (vs.zip ys).map (·.2) = ys := zip_snd (dps_len hd)
 have lz : (vs.zip ys).length <= sizeLine := by
  rw [List.length_zip]
  exact Nat.le_trans (Nat.min_le_left _ _) hlen
 have al : W.AllAlike ((vs.zip ys).map (·.2)) := by
  rw [ez]
  intro d hd' e he
  exact List.all_eq_true.mp (List.all_eq_true.mp h1 d hd') e he
 have so : W.Sortable ((vs.zip ys).map (·.2)) \/ Tup0 ((vs.zip ys).map (·.2)) := by
  rw [ez]
  unfold sortable at h2
  rw [Bool.or_eq_true, Bool.or_eq_true] at h2
  rcases h2 with (h2 | h2) | h2
  . refine .inl (.inl fun d hd' => ?_)
    have q := List.all_eq_true.mp h2 d hd'
    split at q
    . exact ⟨_, _, rfl⟩
    . cases q
  . refine .inl (.inr fun d hd' => ?_)
    have q := List.all_eq_true.mp h2 d hd'
    split at q
    . cases q
    . cases q
    . rename_i n1 n2
      exact ⟨n1, n2⟩
  . refine .inr ?_
    split at h2
    . rename_i rest
      refine ⟨fun d hd' => ?_, rest, rfl⟩
      have q := List.all_eq_true.mp h2 d hd'
      split at q
      . exact ⟨_, rfl⟩
      . cases q
    . cases h2
 refine sorted_any (enc := fun p : V × D => p.2) (R := fun u p => RelV p.1 u) pl (each_zip hd rv) (each_reads I fh hd rv) al so lz (fun p hp => ?_) fun out ho he => ?_
 . have hm : p.2 ∈ ys := (List.of_mem_zip hp).2
   have := of_decide_eq_true (List.all_eq_true.mp h3 _ hm)
   omega
 . obtain ⟨ep, at_⟩ := PyProof.Rows.sortedAll_at s.heap its out.toArray
   have vo := each_vals he
   have hp := List.mergeSort_perm (vs.zip ys) (W.dataLe false fun p : V × D => p.2)
   have dz : DpAll X.K F (((vs.zip ys).mergeSort (W.dataLe false fun p : V × D => p.2)).map (·.1)) (((vs.zip ys).mergeSort (W.dataLe false fun p : V × D => p.2)).map (·.2)) :=
    dps_unzip fun p hm => dps_zip hd p (hp.mem_iff.mp hm)
   have es : ((vs.zip ys).mergeSort (W.dataLe false fun p : V × D => p.2)).map (·.2) = sortD ys := by
    have e1 := List.map_mergeSort (r := W.dataLe false fun p : V × D => p.2) (s := fun a b => !W.dataLt b a) (f := fun p : V × D => p.2) (l := vs.zip ys) (fun _ _ _ _ => rfl)
    rw [e1, ez]
    rfl
   rw [es] at dz
   refine ⟨.ref (s.heap.objs.size + 1), _, I.laid (t' := s.toks) (o := .lst (((vs.zip ys).mergeSort (W.dataLe false fun p : V × D => p.2)).map (·.1))) (fun _ _ => PyProof.Rows.sortedAll_old) (Nat.le_succ _) ?_, rfl, hq (.lst _) dz _ (I.hok.fresh (Nat.le_succ _))⟩
   refine ⟨?_, out, ep, vo, at_⟩
   rw [List.length_map, List.length_mergeSort]
   exact lz
theorem bi_sorted (hu : X.A.units + 100 < cLine) : BiD X .sorted := by
 intro pins s σ H F xs ds z us Q I fh rs ha hz hq
 match ds, hz with
 | [.list ys], hz =>
  simp only [bi] at hz
  split at hz
  . rename_i hc
    obtain ⟨h1, h2, h3⟩ := hc
    cases hz
    obtain ⟨x, rfl, h⟩ := ars1 ha
    obtain ⟨u, rfl, ru⟩ := L2.vals1 rs
    obtain ⟨a, vs, rfl, hl, hd⟩ := ar_lst fh h
    cases ru
    obtain ⟨its, rv, pl, hlen⟩ := I.list hl
    obtain ⟨o, p1, p2, p3⟩ := pl.isList
    exact sorted_fin hu I fh rv ⟨o, p1, .inl p2, p3⟩ hlen hd h1 h2 h3 hq
  . cases hz
 | [.tuple ys], hz =>
  simp only [bi] at hz
  split at hz
  . rename_i hc
    obtain ⟨h1, h2, h3⟩ := hc
    cases hz
    obtain ⟨x, rfl, h⟩ := ars1 ha
    obtain ⟨u, rfl, ru⟩ := L2.vals1 rs
    obtain ⟨a, vs, rfl, hl, _, hd⟩ := ar_tup fh h
    cases ru
    obtain ⟨its, rv, pt, hlen⟩ := I.tuple hl
    obtain ⟨o, p1, p2, p3⟩ := id pt
    exact sorted_fin hu I fh rv ⟨o, p1, .inr p2, p3⟩ hlen hd h1 h2 h3 hq
  . cases hz
theorem foldMin (r : List Int) : ∀ x : Int, (∀ a ∈ x :: r, r.foldl (fun a b => if b < a then b else a) x <= a) /\ r.foldl (fun a b => if b < a then b else a) x ∈ x :: r := by
 induction r with
 | nil => exact fun x => ⟨fun a ha => by rw [List.mem_singleton.mp ha]; exact Int.le_refl _, List.mem_singleton.mpr rfl⟩
 | cons y r ih =>
  intro x
  rw [List.foldl_cons]
  obtain ⟨h1, h2⟩ := ih (if y < x then y else x)
  have h0 := h1 _ List.mem_cons_self
  refine ⟨fun a ha => ?_, ?_⟩
  . rcases List.mem_cons.mp ha with rfl | ha
    . split at h0 <;> split <;> omega
    . rcases List.mem_cons.mp ha with rfl | ha
      . split at h0 <;> split <;> omega
      . exact h1 a (List.mem_cons_of_mem _ ha)
  . rcases List.mem_cons.mp h2 with e | h2
    . rw [e]
      split
      . exact List.mem_cons_of_mem _ List.mem_cons_self
      . exact List.mem_cons_self
    . exact List.mem_cons_of_mem _ (List.mem_cons_of_mem _ h2)
theorem foldMax (r : List Int) : ∀ x : Int, (∀ a ∈ x :: r, a <= r.foldl (fun a b => if a < b then b else a) x) /\ r.foldl (fun a b => if a < b then b else a) x ∈ x :: r := by
 induction r with
 | nil => exact fun x => ⟨fun a ha => by rw [List.mem_singleton.mp ha]; exact Int.le_refl _, List.mem_singleton.mpr rfl⟩
 | cons y r ih =>
  intro x
  rw [List.foldl_cons]
  obtain ⟨h1, h2⟩ := ih (if x < y then y else x)
  have h0 := h1 _ List.mem_cons_self
  refine ⟨fun a ha => ?_, ?_⟩
  . rcases List.mem_cons.mp ha with rfl | ha
    . split at h0 <;> split <;> omega
    . rcases List.mem_cons.mp ha with rfl | ha
      . split at h0 <;> split <;> omega
      . exact h1 a (List.mem_cons_of_mem _ ha)
  . rcases List.mem_cons.mp h2 with e | h2
    . rw [e]
      split
      . exact List.mem_cons_of_mem _ List.mem_cons_self
      . exact List.mem_cons_self
    . exact List.mem_cons_of_mem _ (List.mem_cons_of_mem _ h2)
theorem bi_minL (hc : X.calm = true) : BiD X .minL := by
 intro pins s σ H F xs ds z us Q I fh rs ha hg hq
 match ds, hg with
 | [.list ys], hg =>
  simp only [bi] at hg
  obtain ⟨ns, hn, hg⟩ := Option.bind_eq_some_iff.mp hg
  obtain ⟨n, hm, hg⟩ := Option.map_eq_some_iff.mp hg
  subst hg
  obtain ⟨x, rfl, h⟩ := ars1 ha
  obtain ⟨a, vs, rfl, h1, h2⟩ := ar_lst fh h
  rw [ints_v h2 hn] at h1
  cases ns with
  | nil => cases hm
  | cons i r =>
   cases hm
   refine cr_min hc pins s σ H _ us Q I rs ⟨a, i :: r, rfl, h1, by simp, fun m m1 m2 => ?_⟩
   obtain ⟨g1, g2⟩ := foldMin r i
   have e : m = r.foldl (fun a b => if b < a then b else a) i := by
    have := g1 m m1
    have := m2 _ g2
    omega
   rw [e]
   exact hq (.old _) (.int _)
theorem reads_ints {h : Heap} : ∀ {ns : List Int} {its : List Value}, Vals (ns.map V.int) its -> ReadsAll h its (ns.map PyData.int) []
 | [], its, r => by
  cases r
  exact .nil
 | n :: ns, its, r => by
  cases r with
  | cons a b =>
   obtain ⟨t, rfl⟩ := a
   exact ReadsAll.cons (as := []) (bs := []) (.int n t) (reads_ints b)
theorem depth_ints : ∀ ns : List Int, PyData.depthAll (ns.map PyData.int) = 0
 | [] => rfl
 | n :: ns => by
  rw [List.map_cons]
  simp [PyData.depthAll, PyData.depth, depth_ints ns]
theorem max_fold (r : List Int) (i : Int) : r.foldl max i = r.foldl (fun a b => if a < b then b else a) i := by
 have : (max : Int -> Int -> Int) = fun a b => if a < b then b else a := by
  funext a b
  rw [Int.max_def]
  split <;> split <;> omega
 rw [this]
theorem max_tup (hc : X.calm = true) (hu : X.A.units + 100 < cLine) {pins : List (Addr × Obj)} {s : Shared} {σ : L2.St} {H F : Hp} {x : V} {us : List Value} {Q : VK} {ys : List D} {i : Int} {r : List Int} (I : Inv X pins σ H s) (fh : Same F H) (rs : Vals [x] us) (h : Ar X.K F H x (.tuple ys)) (hn : intsD ys = some (i :: r))
  (q : Q (.int (r.foldl (fun a b => if a < b then b else a) i)) H) : wpAny (model X.prog X.w) X.A (call (.builtin "max") us) (EP X pins σ Q) X.xe s := by
 obtain ⟨u, rfl, ru⟩ := L2.vals1 rs
 obtain ⟨a, vs, rfl, hl, _, hd⟩ := ar_tup fh h
 rw [ints_v hd hn] at hl
 cases ru
 obtain ⟨its, rv, pt, hlen⟩ := I.tuple hl
 have ra := reads_ints (h := s.heap) rv
 refine PySem.W.max_tuple_data (x := .int i) (xs := r.map .int) (I.ok.hd hc) pt (by simpa using ra) ?_ ?_ fun j v h' tk bs hi rd hk => ?_
 . refine ⟨fun x hx y hy => ?_, fun x hx => ?_⟩
   . rw [show PyData.int i :: r.map PyData.int = (i :: r).map PyData.int from rfl] at hx hy
     obtain ⟨_, _, rfl⟩ := List.mem_map.mp hx
     obtain ⟨_, _, rfl⟩ := List.mem_map.mp hy
     rfl
   . rw [show PyData.int i :: r.map PyData.int = (i :: r).map PyData.int from rfl] at hx
     obtain ⟨_, _, rfl⟩ := List.mem_map.mp hx
     exact fun z => by cases z
 . rw [show PyData.int i :: r.map PyData.int = (i :: r).map PyData.int from rfl, depth_ints]
   omega
 . rw [PySem.W.maxD_ints, max_fold] at rd
   cases rd
   exact ⟨.int _, H, I.kept hk, ⟨_, rfl⟩, q⟩
theorem bi_maxL (hc : X.calm = true) (hu : X.A.units + 100 < cLine) : BiD X .maxL := by
 intro pins s σ H F xs ds z us Q I fh rs ha hg hq
 match ds, hg with
 | [.list ys], hg =>
  simp only [bi] at hg
  obtain ⟨ns, hn, hg⟩ := Option.bind_eq_some_iff.mp hg
  obtain ⟨n, hm, hg⟩ := Option.map_eq_some_iff.mp hg
  subst hg
  obtain ⟨x, rfl, h⟩ := ars1 ha
  obtain ⟨a, vs, rfl, h1, h2⟩ := ar_lst fh h
  rw [ints_v h2 hn] at h1
  cases ns with
  | nil => cases hm
  | cons i r =>
   cases hm
   refine cr_max hc pins s σ H _ us Q I rs ⟨a, i :: r, rfl, h1, by simp, fun m m1 m2 => ?_⟩
   obtain ⟨g1, g2⟩ := foldMax r i
   have e : m = r.foldl (fun a b => if a < b then b else a) i := by
    have := g1 m m1
    have := m2 _ g2
    omega
   rw [e]
   exact hq (.old _) (.int _)
 | [.tuple ys], hg =>
  simp only [bi] at hg
  obtain ⟨ns, hn, hg⟩ := Option.bind_eq_some_iff.mp hg
  obtain ⟨n, hm, hg⟩ := Option.map_eq_some_iff.mp hg
  subst hg
  obtain ⟨x, rfl, h⟩ := ars1 ha
  cases ns with
  | nil => cases hm
  | cons i r =>
   cases hm
   exact max_tup hc hu I fh rs h hn (hq (.old _) (.int _))
theorem bi_all_ok (hc : X.calm = true) (hg : X.A.guards = some []) (hu : X.A.units + 100 < cLine) : ∀ f : Bi, nameOf f ≠ .none -> BiD X f
 | .len, _ => bi_len
 | .tuple, _ => bi_tuple
 | .list, _ => bi_list
 | .sum, _ => bi_sum hc
 | .any, _ => bi_any hc
 | .all, _ => bi_all hc
 | .abs, _ => bi_abs
 | .min2, _ => bi_min2 hc
 | .max2, _ => bi_max2 hc
 | .repr, _ => bi_repr hg hu
 | .strInt, _ => bi_strInt
 | .intB, _ => bi_intB
 | .sorted, _ => bi_sorted hu
 | .minL, _ => bi_minL hc
 | .maxL, _ => bi_maxL hc hu
 | .lenset, h => absurd rfl h
 | .sortset, h => absurd rfl h
 | .sortxor, h => absurd rfl h
end
end Ev
set_option maxHeartbeats 4000000
namespace Ev
open PySem PySem.Spec PyProof.Rows L2 PySem.HandSPX
inductive Bk where
 | ve
 | le
def Bk.ty : Bk -> String
 | .ve => "ValueError"
 | .le => "LookupError"
def Bk.nw : Bk -> String
 | .ve => "ValueError.__new__"
 | .le => "LookupError.__new__"
def Bk.ini : Bk -> String
 | .ve => "ValueError.__init__"
 | .le => "LookupError.__init__"
def Bk.up : Bk -> List Value
 | .ve => [.type "ValueError", .type "Exception", .type "BaseException", .type "object"]
 | .le => [.type "LookupError", .type "Exception", .type "BaseException", .type "object"]
theorem Bk.base : ∀ b : Bk, ExcBaseFacts b.ty b.nw b.ini b.up
 | .ve => PySem.F.excBase_ValueError
 | .le => PySem.F.excBase_LookupError
theorem Bk.obj : ∀ b : Bk, b.up.contains (.type "object") = true
 | .ve => by decide +kernel
 | .le => by decide +kernel
structure OxC (K : PySem.W.Frag) (b : Bk) (C : Addr) : Prop where
 cls : ∃ (B : Addr) (nm q : Str) (N : Addr) (bs : List Value) (sn : List Str) (su : List Value) (ab : Bool) (co : Option Bool) (dd : Option Addr) (m0 m1 m2 m3 m5 : Option Value), K.lookup C = some (excClassObj nm q C N bs (.ref B :: b.up) true sn su ab co dd m0 m1 m2 m3 m5 b.nw)
 sa : PySem.W.findIn K (.ref C) "__setattr__" = some (some (.builtin "object.__setattr__"))
 ex : PySem.W.subIn K (.ref C) (.type "BaseException") = some true
 ty : PySem.W.typeIn K (.ref C) = some (.type "type")
 kp : PySem.W.keepIn K (.ref C) = true
section
open PySem.Calls Builtin Builtin.ObjectAttr
variable {prog : Program} {w : World} {A : Around} {R : Result -> Shared -> Prop} {mem : Heap} {g : Array GenState} {d : Drawn} {t : Nat} {os : OsState}
abbrev exObj (C : Addr) (dct : Option Addr) (fv : Array Value) : Obj := { cls := .ref C, dict := dct, data := .fields fv }
def Stored (mem : Heap) (g : Array GenState) (d : Drawn) (os : OsState) (R : Result -> Shared -> Prop) (x C : Addr) (fv : Array Value) (f : Str) (v : Value) : Option Addr -> Prop
 | none => ∀ mem' n dx, (∀ b o, b ≠ x -> mem.get? b = some o -> mem'.get? b = some o) -> mem.objs.size <= dx -> dx ≠ x -> mem'.get? x = some (exObj C (some dx) fv) -> mem'.Ns1 dx (fun y => if y = f then some v else none) -> R (.ok (.ret .none)) ⟨mem', g, d, n, os⟩
 | some dx => ∃ was ns, mem.Ns1 dx was /\ Within was ns /\ ns.length <= 1000 /\ ∀ mem' n, (∀ b o, b ≠ dx -> mem.get? b = some o -> mem'.get? b = some o) -> mem'.Ns1 dx (fun y => if y = f then some v else was y) -> R (.ok (.ret .none)) ⟨mem', g, d, n, os⟩
end
section
variable {X : Cx} {pins : List (Addr × Obj)} {σ : L2.St} {H : Hp} {s : Shared} {a C dx : Addr} {f : Str} {y : V} {u : Value} {fs : List (Str × V)} {Q : Unit -> Shared -> Prop} {E : Value -> Shared -> Prop} {A : Around}
theorem OxC.line {K : PySem.W.Frag} {bk : Bk} (T : OxC K bk C) : ∃ (B : Addr) (cd : ClassData), PySem.W.clsIn K C = some cd /\ cd.mro = .ref C :: .ref B :: bk.up /\ cd.hasDict = true := by
 obtain ⟨B, nm, q, N, bs, sn, su, ab, co, dd, m0, m1, m2, m3, m5, look⟩ := T.cls
 refine ⟨B, { name := nm, bases := bs, mro := .ref C :: .ref B :: bk.up, ns := N, qualname := q, hasDict := true, slotNames := sn, subclasses := su, abstract := ab, collection := co, hasDel := false }, ?_, rfl, rfl⟩
 unfold PySem.W.clsIn
 rw [look] <;> rfl
end
def tIni (K : PySem.W.Frag) (bk : Bk) (ta : TA) : TE := fun σ H Q => ta σ H fun vs H1 => ∃ (a C : Addr) (ws : List V), vs = .ref a :: ws /\ ws.length <= 1000 /\ OxC K bk C /\ H1 a = some (exo a C none) /\ Q .non H1
def tFld (K : PySem.W.Frag) (bk : Bk) (f : Str) (to te : TE) : TS := fun D σ H => te σ H fun y H1 => to σ H1 fun x H2 => ∃ a C : Addr, x = .ref a /\ OxC K bk C /\ PySem.W.findIn K (.ref C) f = some none /\
 ((H2 a = some (exo a C none) /\ ∀ dx, H2 dx = none -> dx ≠ a -> D.nx σ (upd (upd H2 dx (exd dx [(f, y)])) a (exo a C (some dx)))) \/
  ∃ (dx : Addr) (fs : List (Str × V)), H2 a = some (exo a C (some dx)) /\ H2 dx = some (exd dx fs) /\ fs.length <= 900 /\ D.nx σ (upd H2 dx (exd dx ((f, y) :: fs))))
def tNew (C : Addr) (sp : Sp) (ta : TA) : L2.St -> Hp -> XK -> Prop := fun σ H Q => ta σ H fun vs H1 => vs.length <= 1000 /\ ∀ a, H1 a = none -> sp (.ref a :: vs) (upd H1 a (exo a C none))
 (fun v H2 => v = .non /\ ∃ (d : Addr) (fs : List (Str × V)), H2 a = some (exo a C (some d)) /\ H2 d = some (exd d fs) /\ H1 d = none /\ Q (.ref C) (some d) (upd (del H2 a) d (.xd fs))) (fun _ _ _ => False)
end Ev
set_option maxHeartbeats 2000000
namespace Ev
open PySem PySem.Spec PyProof.Rows L2
abbrev T (x : String) : Str := Str.ofString x
section
variable {X : Cx} {e : Expr} {es : List Expr} {ta : TA} {b : Str} {B : Addr} {p1 p2 pos : Pos}
structure BaseC (K : PySem.W.Frag) (mg : Str -> Option Value) (bk : Bk) (b : Str) (B : Addr) : Prop where
 at' : mg b = some (.ref B)
 ga : PySem.W.specialIn K (.ref B) "__getattribute__" = some (some (.builtin "type.__getattribute__"))
 rd : PySem.W.readsIn K B (.type "type") = true
 vi : PySem.W.findCls K (.ref B) (.type "type") "__init__" = some (.val (.builtin bk.ini))
end
end Ev
namespace Ev
open PySem PySem.Spec PyProof.Rows L2
def stK (f : Str) : Stmt -> Bool
 | .Assign [.Attribute (.Name s _) g _] (.Name h _) _ => s == T "self" && g == f && h == f && !(f == ("__debug__" : Str)) && !(f == ("__classdict__" : Str))
 | _ => false
def storesK : List Str -> List Stmt -> Bool
 | [], [] => true
 | f :: fs, s :: ss => stK f s && storesK fs ss
 | _, _ => false
def callK (b : Str) (st : Stmt) : Bool := match st with
 | .Expr (.Call (.Attribute (.Name x _) i p2) [.Name s _, .Constant (.str _) _ _] [] p6) _ => x == b && i == T "__init__" && s == T "self" && !(b == ("__debug__" : Str)) && p2.endLine == p6.line
 | _ => false
def bodyK (b : Str) (fs : List Str) : List Stmt -> Bool
 | s :: ss => callK b s && storesK fs ss
 | [] => false
def initK (b : Str) (fs : List Str) (st : Stmt) : Bool :=
 decide ((defScope st).kind = .function) && !(defScope st).isCoroutine && !(defScope st).isGenerator && decide ((T "self" :: fs).Nodup) &&
 ((T "self" :: fs).all fun x => (defScope st).names.lookup x == some .local) && ((defScope st).names.all fun y => y.2 != .free) && decide ((defScope st).names.lookup b = some .globalImplicit) &&
 decide (fs.length <= 9) && bodyK b fs (defBody st)
def tStores (K : PySem.W.Frag) (bk : Bk) : Nat -> List Str -> TS
 | _, [] => tNext
 | j, f :: fs => tSeq (tFld K bk f (tVar 0) (tVar j)) (tStores K bk (j + 1) fs)
def ISp (K : PySem.W.Frag) (bk : Bk) (fs : List Str) : Sp := fun vs H Q _ => ∃ (a C : Addr) (ws : List V), vs = .ref a :: ws /\ ws.length = fs.length /\ OxC K bk C /\ (∀ f ∈ fs, PySem.W.findIn K (.ref C) f = some none) /\ H a = some (exo a C none) /\
 ∀ H2 dx, H dx = none -> dx ≠ a -> H2 a = some (exo a C (some dx)) -> H2 dx = some (exd dx (fs.zip ws).reverse) -> (∀ b, b ≠ a -> b ≠ dx -> H2 b = H b) -> Q .non H2
def XcOk (P : Program) (w : World) (K : PySem.W.Frag) (mg : Str -> Option Value) (base : Heap) (x : String) (fs : List Str) : Prop :=
 ∃ (bk : Bk) (C fI : Addr) (fd : FuncData), mg (T x) = some (.ref C) /\ OxC K bk C /\ PySem.W.findIn K (.ref C) "__init__" = some (some (.ref fI)) /\ PySem.W.typeIn K (.ref fI) = some (.type "function") /\
  FnOk P w K mg base L2.CX0 1 fI fd (T "self" :: fs) (ISp K bk fs) /\ Binds K fd (T "self" :: fs) [] /\ ∀ f ∈ fs, PySem.W.findIn K (.ref C) f = some none
def SubOk (K : PySem.W.Frag) (mg : Str -> Option Value) (c : Str) (x : String) (b : Bool) : Prop := ∀ C : Addr, mg c = some (.ref C) -> ExcC K C /\ ∃ (v : V) (u : Value), (mg (T x) = some u \/ (mg (T x) = none /\ bootBuiltins (T x) = some u /\ T x ≠ "__name__")) /\ RelV v u /\ (∀ u', RelV v u' -> u' = u) /\
 PySem.W.kitOne K (.ref C) u = some b /\ PySem.W.exmOne K (.ref C) u = some b
def FldOk (K : PySem.W.Frag) (mg : Str -> Option Value) (c : Str) (f : String) : Prop := ∀ C : Addr, mg c = some (.ref C) -> XfC K C /\ PySem.W.findIn K (.ref C) (T f) = some none
end Ev
set_option maxHeartbeats 1000000
namespace Ev
open PySem PySem.Spec PyProof.Rows L2
structure FnG (P : Program) (w : World) (K : PySem.W.Frag) (mg : Str -> Option Value) (base : Heap) (k : Nat) (f : Addr) (fd : FuncData) (ps : List Str) (sp : Sp) : Prop where
 len : ∀ vs H Q E, sp vs H Q E -> vs.length = ps.length
 run : ∀ (A : Around) (outer : List PySem.Env) (s : Shared) (H : Hp) (args : Args) (us : List Value) (vs : List V) (Q : VK) (E : XK), Room k A -> A.guards = some [] -> Env0 P w K mg base A outer s H -> BindsTo s fd args (ps.zip us) -> Vals vs us ->
  sp vs H Q E -> codeAny (model P w) A (.call (.ref f) args) (CR (L2.CX P w) outer P w H s Q E) s
section
variable (K : PySem.W.Frag) (mg : Str -> Option Value)
def XOk (F H : Hp) (x : Xn) (cls : Value) (dd : Option Addr) : Prop :=
 ∃ C d fs, mg x.cls = some (.ref C) /\ cls = .ref C /\ dd = some d /\ H d = some (.xd fs) /\ FsOk K F fs x.fs
def isTb : Option HO -> Bool
 | some (.tbl _) => true
 | _ => false
def cut (H : Hp) (ls : List Addr) : Hp := fun a => if a ∈ ls \/ isTb (H a) = true then none else H a
theorem cut_gt (H : Hp) (ls : List Addr) : ∀ a ps, cut H ls a ≠ some (.tbl ps) := fun a ps z => by
 unfold cut at z
 split at z
 . cases z
 . rename_i h
   exact h (.inr (by rw [z]; rfl))
theorem cut_at {H : Hp} {ls : List Addr} {a : Addr} {o : HO} (h : H a = some o) (n : a ∉ ls) (t : ∀ ps, o ≠ .tbl ps) : cut H ls a = some o := by
 unfold cut
 rw [if_neg]
 . exact h
 . rintro (z | z)
   . exact n z
   . rw [h] at z
     cases o <;> first | (cases z; done) | exact t _ rfl
theorem cut_in {H : Hp} {ls : List Addr} {a : Addr} (h : a ∈ ls) : cut H ls a = none := if_pos (.inl h)
theorem cut_sub {H : Hp} {ls : List Addr} : Same (cut H ls) H := fun b o z => by
 unfold cut at z
 split at z
 . cases z
 . exact z
def lents : List Mo -> List V -> List Addr
 | .l :: ms, .ref a :: vs => a :: lents ms vs
 | _ :: ms, _ :: vs => lents ms vs
 | _, _ => []
def ftl (H : Hp) : List Addr -> List C -> List Addr
 | a :: as, c :: cs => ft H a c ++ ftl H as cs
 | _, _ => []
inductive ArgsOk (F H : Hp) (ls : List Addr) : List Mo -> List V -> List D -> List C -> Prop where
 | nil : ArgsOk F H ls [] [] [] []
 | f {ms : List Mo} {v : V} {vs : List V} {d : D} {ds : List D} {cs : List C} : Dp K F v d -> ArgsOk F H ls ms vs ds cs -> ArgsOk F H ls (.f :: ms) (v :: vs) (d :: ds) cs
 | b {ms : List Mo} {v : V} {vs : List V} {d : D} {ds : List D} {cs : List C} : Br K (cut H ls) F v d -> ArgsOk F H ls ms vs ds cs -> ArgsOk F H ls (.b :: ms) (v :: vs) (d :: ds) cs
 | l {ms : List Mo} {a : Addr} {c : C} {vs : List V} {ds : List D} {cs : List C} : Own K (cut H ls) F H a c -> (∀ x ∈ ft H a c, x ∈ ls) -> ArgsOk F H ls ms vs ds cs -> ArgsOk F H ls (.l :: ms) (.ref a :: vs) (c.d :: ds) (c :: cs)
 | d {ms : List Mo} {a : Addr} {f : String} {vs : List V} {ds : List D} {cs : List C} : FnAt K f a -> ArgsOk F H ls ms vs ds cs -> ArgsOk F H ls (.d :: ms) (.ref a :: vs) (dfnD f :: ds) cs
inductive LentOk (G F H : Hp) : List Addr -> List C -> Prop where
 | nil : LentOk G F H [] []
 | cons {a : Addr} {c : C} {ls : List Addr} {cs : List C} : Own K G F H a c -> LentOk G F H ls cs -> LentOk G F H (a :: ls) (c :: cs)
structure Aft (G F F' H' : Hp) (ls : List Addr) (cs : List C) : Prop where
 nd : (ftl H' ls cs).Nodup
 s1 : Same F F'
 s2 : Same F' H'
 s3 : Same G H'
 s4 : ∀ a, G a ≠ none -> F' a = F a
 td : TD F'
 lo : LentOk K G F' H' ls cs
 tb : Tbs K H'
 fl : Full F' H'
def FSp (ms : List Mo) (φ : List D -> FRes) : Sp := fun vs H Q E => vs.length = ms.length /\ ∃ F ds cs0, Same F H /\ TD F /\ Tbs K H /\ Full F H /\ (ftl H (lents ms vs) cs0).Nodup /\ ArgsOk K F H (ftl H (lents ms vs) cs0) ms vs ds cs0 /\
 match φ ds with
 | .bad => False
 | .ret d cs => ∀ v F' H', Aft K (cut H (ftl H (lents ms vs) cs0)) F F' H' (lents ms vs) cs -> Dp K F' v d -> Q v H'
 | .fresh c cs => ∀ p F' H', Aft K (cut H (ftl H (lents ms vs) cs0)) F F' H' (lents ms vs) cs -> Own K (cut H (ftl H (lents ms vs) cs0)) F' H' p c -> (∀ x ∈ ft H' p c, x ∉ ftl H' (lents ms vs) cs) -> Q (.ref p) H'
 | .exc x cs => ∀ cls dd F' H', Aft K (cut H (ftl H (lents ms vs) cs0)) F F' H' (lents ms vs) cs -> XOk K mg F' H' x cls dd -> E cls dd H'
end
def KbOk (K : PySem.W.Frag) (KB : List (String × Nat × List String × List Nat × List (Option Int))) (f : String) (fd : FuncData) (ps : List Str) : Prop := ∀ q ∈ KB, q.1 = f -> ∃ (dvs : List Value) (dV : List V), Vals dV dvs /\ (∀ F, DpAll K F dV (q.2.2.2.2.map dfD)) /\
 ∀ (s : Shared) (us ws zs : List Value), K.In s.heap -> us.length = q.2.1 -> ws.length = q.2.2.1.length -> pick q.2.2.2.1 (us ++ ws ++ dvs) = some zs -> BindsTo s fd ⟨us, (q.2.2.1.map T).zip ws⟩ (ps.zip zs)
abbrev KbE := String × Nat × List String × List Nat × List (Option Int)
theorem FnG.weaken {P : Program} {w : World} {K : PySem.W.Frag} {mg : Str -> Option Value} {base : Heap} {k : Nat} {f : Addr} {fd : FuncData} {ps : List Str} {sp sp' : Sp} (F : FnG P w K mg base k f fd ps sp) (h : ∀ vs H Q E, sp' vs H Q E -> sp vs H Q E) : FnG P w K mg base k f fd ps sp' :=
 ⟨fun vs H Q E q => F.len vs H Q E (h vs H Q E q), fun A outer s H args us vs Q E hr hg e0 hb r q => F.run A outer s H args us vs Q E hr hg e0 hb r (h vs H Q E q)⟩
def CalOk (P : Program) (w : World) (K : PySem.W.Frag) (mg : Str -> Option Value) (base : Heap) (KB : List KbE) (k : Nat) (f : String) (a : Addr) (ms : List Mo) (φ : List D -> FRes) : Prop :=
 FnAt K f a /\ ∃ fd ps ds dvs, Binds K fd ps ds /\ Vals dvs ds /\ FnG P w K mg base k a fd ps (fun vs H Q E => ∃ vs0, vs = vs0 ++ dvs /\ FSp K mg ms φ vs0 H Q E)
def CalKOk (P : Program) (w : World) (K : PySem.W.Frag) (mg : Str -> Option Value) (base : Heap) (KB : List KbE) (k : Nat) (f : String) (a : Addr) (ms : List Mo) (φ : List D -> FRes) : Prop :=
 ∃ fd ps, FnG P w K mg base k a fd ps (FSp K mg ms φ) /\ KbOk K KB f fd ps
structure OCls (K : PySem.W.Frag) (mg : Str -> Option Value) (cls : Str) (C : Addr) : Prop where
 ns : ClsAt K cls C
 at' : mg cls = some (.ref C)
 cl : Cls K C
 mkc : PySem.W.makesIn K C = true
 kp : PySem.W.keepIn K (.ref C) = true
def MetOk (P : Program) (w : World) (K : PySem.W.Frag) (mg : Str -> Option Value) (base : Heap) (k : Nat) (cls m : String) (ms : List Mo) (φ : List D -> FRes) : Prop :=
 ∃ C f fd ps, OCls K mg (Str.ofString cls) C /\ Meth K C (Str.ofString m) f /\ Binds K fd ps [] /\ FnG P w K mg base k f fd ps (FSp K mg ms φ)
def ktB (K : PySem.W.Frag) : Bool := K.all fun p => match p.2.cls with
 | .type t => t != "tuple" || p.2.dict.isNone
 | _ => true
def AskPost (K : PySem.W.Frag) (mg : Str -> Option Value) (G F : Hp) (t : AskR) (Q : VK) (E : XK) : Prop := match t with
 | .val d => ∀ v F' H', Aft K G F F' H' [] [] -> Dp K F' v d -> Q v H'
 | .exc x => ∀ cls dd F' H', Aft K G F F' H' [] [] -> XOk K mg F' H' x cls dd -> E cls dd H'
def AskOk (X : Cx) (f : Th) (t : AskR) : Prop := ∀ (W : WX) (pn : List (Addr × Obj)) (xe : Value -> Shared -> Prop) (a : Str) (p1 p2 : Pos), X.N[0]? = some a -> Takes (X.tr pn xe) W ->
 PE (X.tr pn xe) (.Call (.Name a p1) [] [] p2) fun σ H Q => σ[0]? = some (some (.ref f.1)) /\ ∃ F, Same f.2 F /\ Same F H /\ TD F /\ Tbs X.K H /\ Full F H /\ AskPost X.K X.mg (cut H []) F t Q fun cls dd H' => W cls dd σ H'
def TeOk (K : PySem.W.Frag) (u : Value) : Te -> Prop
 | .fs fs => ∃ a as, u = .ref a /\ SqT K (fun _ => none) a (as.map V.ref) /\ FnAll K fs as
 | .dat d => ∃ v, RelV v u /\ Dp K (fun _ => none) v d
def TbAt (K : PySem.W.Frag) (w : World) (g : String) (tbl : List (Str × Te)) : Prop := ∃ d es n, PySem.W.nsIn K mainGlobals (Str.ofString g) = some (some (.ref d)) /\ L2.KDict K w d es n /\ ∀ x, match tbl.lookup x with
 | none => PySem.W.nsIn K d x = some none
 | some te => ∃ u, PySem.W.nsIn K d x = some (some u) /\ TeOk K u te
inductive TbEs (K : PySem.W.Frag) : List DictEntry -> List (Str × Te) -> Prop where
 | nil : TbEs K [] []
 | cons {h : Int} {x : Str} {t : Tok} {u : Value} {te : Te} {es : List DictEntry} {tbl : List (Str × Te)} : TeOk K u te -> TbEs K es tbl -> TbEs K (⟨h, .str x t, u⟩ :: es) ((x, te) :: tbl)
structure Ok (X : Cx) (W : WX) (BN : List String) (GL : List (String × D)) (KB : List KbE) (G : Gm) : Prop where
 nd : X.N.Nodup
 un : X.A.units + 100 < cLine
 gd : X.A.guards = some []
 bn : ∀ x ∈ BN, X.mg (T x) = none
 gl : ∀ p ∈ GL, ∃ u v, X.mg (T p.1) = some u /\ RelV v u /\ Dp X.K (fun _ => none) v p.2
 tk : Takes X W
 xc : X.calm = true -> ∀ x, G.xc x ≠ [] -> Room 2 X.A /\ XcOk X.prog X.w X.K X.mg X.base x (G.xc x)
 sub : ∀ c x b, G.sub c x = some b -> SubOk X.K X.mg c x b
 fld : ∀ c f, G.fld c f = true -> FldOk X.K X.mg c f
 fns : X.calm = true -> ∀ f ms φ, G.fn f = some (ms, φ) -> ∃ k a, Room k X.A /\ X.mg (T f) = some (.ref a) /\ PySem.W.keepIn X.K (.ref a) = true /\ CalOk X.prog X.w X.K X.mg X.base KB k f a ms φ
 fks : X.calm = true -> ∀ f ms φ, G.fk f = some (ms, φ) -> ∃ k a, Room k X.A /\ X.mg (T f) = some (.ref a) /\ PySem.W.keepIn X.K (.ref a) = true /\ CalKOk X.prog X.w X.K X.mg X.base KB k f a ms φ
 kn : ∀ x ∈ G.kn, ∃ C, X.mg (T x) = some (.ref C)
 kt : ktB X.K = true
 mts : X.calm = true -> ∀ c m ms φ, G.mt c m = some (ms, φ) -> ∃ k, Room (k + 1) X.A /\ MetOk X.prog X.w X.K X.mg X.base k c m ms φ
 atr : ∀ c f, G.atr c f = true -> ∃ C, OCls X.K X.mg c C /\ NoAttr X.K C (Str.ofString f)
 tb : ∀ g tbl, G.tb g = some tbl -> TbAt X.K X.w g tbl
abbrev Rl (α β : Type) := Hp -> Hp -> Hp -> L2.St -> Env -> α -> β -> Prop
def After (X : Cx) (W : WX) {α β : Type} (L : Fr) (G F : Hp) (σ : L2.St) (P : Rl α β) (Q : β -> Hp -> Prop) : Res α -> Prop
 | .bad => False
 | .ok a e => ∀ b F' H', Rel X.K L G F' H' σ e -> Step G F F' -> P G F' H' σ e a b -> Q b H'
 | .exc x e => ∀ c dd F' H', Rel X.K L G F' H' σ e -> Step G F F' -> XOk X.K X.mg F' H' x c dd -> W c dd σ H'
def XL (X : Cx) (L : Fr) : Prop := X.calm = false -> ∀ a C dd x, L.xa = some (a, C, dd, x) -> X.mg x = some (.ref C) /\ ∃ oe, (a, oe) ∈ X.pn /\ Zc (.ref C) (some dd) oe /\ ∃ vs, oe.data = .fields vs
abbrev FrX (X : Cx) := {L : Fr // XL X L}
def Tr (X : Cx) (W : WX) {α β : Type} (c : Env -> Res α) (P : Rl α β) : L2.St -> Hp -> (β -> Hp -> Prop) -> Prop := fun σ H Q =>
 ∃ (L : FrX X) (G F : Hp) (e : Env), Rel X.K L G F H σ e /\ After X W L G F σ P Q (c e)
section
variable {X : Cx} {W : WX} {α β γ δ : Type} {L : Fr} {G F F1 : Hp} {σ : L2.St} {P : Rl α β} {P1 : Rl γ δ} {Q Q' : β -> Hp -> Prop} {r : Res α}
theorem After.mono (h : After X W L G F σ P Q r) (k : ∀ b H, Q b H -> Q' b H) : After X W L G F σ P Q' r := by
 cases r with
 | bad => exact h
 | ok a e => exact fun b F' H' r1 st p => k _ _ (h b F' H' r1 st p)
 | exc x e => exact h
theorem After.step (h : After X W L G F σ P Q r) (st : Step G F F1) : After X W L G F1 σ P Q r := by
 cases r with
 | bad => exact h
 | ok a e => exact fun b F' H' r1 s1 p => h b F' H' r1 (st.trans s1) p
 | exc x e => exact fun c dd F' H' r1 s1 p => h c dd F' H' r1 (st.trans s1) p
def Left (X : Cx) (W : WX) {α β γ δ : Type} (L : Fr) (G F : Hp) (σ : L2.St) (P1 : Rl γ δ) (f : γ -> Env -> Res α) (P : Rl α β) (Q : β -> Hp -> Prop) : δ -> Hp -> Prop := fun b1 H1 =>
 ∃ F1 e1 a, Rel X.K L G F1 H1 σ e1 /\ Step G F F1 /\ P1 G F1 H1 σ e1 a b1 /\ After X W L G F1 σ P Q (f a e1)
theorem After.bind {c : Res γ} {f : γ -> Env -> Res α} (h : After X W L G F σ P Q (c.bind f)) : After X W L G F σ P1 (Left X W L G F σ P1 f P Q) c := by
 cases c with
 | bad => exact h
 | ok a e => exact fun b F' H' r1 st p => ⟨F', e, a, r1, st, p, After.step h st⟩
 | exc x e => exact h
theorem After.ofO {o : Option γ} {f : γ -> Env -> Res α} {e : Env} (h : After X W L G F σ P Q ((ofO o e).bind f)) : ∃ a, o = some a /\ After X W L G F σ P Q (f a e) := by
 cases o with
 | none => exact h.elim
 | some a => exact ⟨a, rfl, h⟩
theorem After.ofO' {o : Option α} {e : Env} (h : After X W L G F σ P Q (Ev.ofO o e)) : ∃ a, o = some a /\ After X W L G F σ P Q (.ok a e) := by
 cases o with
 | none => exact h.elim
 | some a => exact ⟨a, rfl, h⟩
end
theorem pe_imp {X : Cx} {e : Expr} {t t' : TE} (h : PE X e t) (k : ∀ σ H Q, t' σ H Q -> t σ H Q) : PE X e t' := ⟨fun pins s σ H Q I q => h.run pins s σ H Q I (k σ H Q q)⟩
theorem pt_imp {X : Cx} {e : Expr} {t t' : TT} (h : PT X e t) (k : ∀ σ H Q, t' σ H Q -> t σ H Q) : PT X e t' := ⟨fun pins s σ H Q I q => h.run pins s σ H Q I (k σ H Q q)⟩
theorem pw_imp {X : Cx} {e : Expr} {t t' : TT} (h : PW X e t) (k : ∀ σ H Q, t' σ H Q -> t σ H Q) : PW X e t' := ⟨fun wh pins s σ H Q I q => h.run wh pins s σ H Q I (k σ H Q q)⟩
theorem pa_imp {X : Cx} {es : List Expr} {t t' : TA} (h : PA X es t) (k : ∀ σ H Q, t' σ H Q -> t σ H Q) : PA X es t' := ⟨fun pos pins s σ H Q I q => h.run pos pins s σ H Q I (k σ H Q q)⟩
theorem ps_imp {X : Cx} {e : Stmt} {t t' : TS} (h : PS X e t) (k : ∀ D σ H, t' D σ H -> t D σ H) : PS X e t' := ⟨fun pins s σ H D I q => h.run pins s σ H D I (k D σ H q)⟩
theorem pss_imp {X : Cx} {e : List Stmt} {t t' : TS} (h : PSs X e t) (k : ∀ D σ H, t' D σ H -> t D σ H) : PSs X e t' := ⟨fun pins s σ H D I q => h.run pins s σ H D I (k D σ H q)⟩
abbrev PV (X : Cx) (W : WX) (e : Expr) (c : Vc) : Prop := PE X e (Tr X W c (ROk X.K))
def BOk : Rl Bool Bool := fun _ _ _ _ _ a b => a = b
abbrev PB (X : Cx) (W : WX) (e : Expr) (t : Env -> Res Bool) : Prop := PT X e (Tr X W t BOk)
def nF : R -> Prop
 | .fresh _ => False
 | _ => True
def RNk (K : PySem.W.Frag) : Rl R V := fun G F H σ e r v => ROk K G F H σ e r v /\ nF r
def DOk (K : PySem.W.Frag) : Rl D V := fun _ F _ _ _ d v => Dp K F v d
theorem RNk.later {K : PySem.W.Frag} {G F F' H H' : Hp} {σ : L2.St} {e e' : Env} {r : R} {v : V} (h : RNk K G F H σ e r v) (st : Same F F') : RNk K G F' H' σ e' r v :=
 ⟨h.1.later st (fun c z => by subst z; exact h.2), h.2⟩
section
variable {X : Cx} {W : WX} {ex ea eb : Expr} {c ca cb : Vc} {pos : Pos}
theorem sg_some {σ : L2.St} {i : Nat} {v : V} (h : sg σ i = some v) : σ[i]? = some (some v) := by
 unfold sg List.getD at h
 cases e : σ[i]? with
 | none => rw [e] at h; cases h
 | some o => rw [e] at h; simp only [Option.getD_some] at h; rw [h]
theorem setl_state {L : Fr} {G F H : Hp} {σ : L2.St} {e : Env} {r : R} {v : V} {Q : VK} (rl : Rel X.K L G F H σ e) (h : ROk X.K G F H σ e r v) (q : After X W L G F σ (RNk X.K) Q (setl e r)) : Q v H := by
 cases r with
 | val d => exact q v F H rl (Step.refl G F) ⟨h, trivial⟩
 | slot i => exact q v F H rl (Step.refl G F) ⟨h, trivial⟩
 | fresh cc =>
  cases cc <;> first | exact (show False from q).elim | skip
  obtain ⟨p, rfl, ow, hn⟩ := h
  obtain ⟨o, q3, q4⟩ := ow.cs (fun _ _ z => by cases z)
  obtain ⟨r', st⟩ := rl.keep (o := o) (cs_tdo q4) q3 ow.f ow.g fun i => hn i p (ft_root _ _ _)
  exact q (.ref p) _ H r' st ⟨dp_of_cr upd_same (cs_mono st.s q4), trivial⟩
theorem pv_n (h : PV X W ex c) : PE X ex (Tr X W (vN c) (RNk X.K)) := pe_imp h fun σ H Q ⟨L, G, F, e, r, a⟩ =>
 ⟨L, G, F, e, r, (After.bind (P1 := ROk X.K) a).mono fun v H1 ⟨F1, e1, rr, r1, st, p1, a1⟩ => setl_state r1 p1 a1⟩
theorem esc_state {L : Fr} {G F H : Hp} {σ : L2.St} {e : Env} {r : R} {v : V} {Q : VK} (rl : Rel X.K L G F H σ e) (h : ROk X.K G F H σ e r v) (q : After X W L G F σ (DOk X.K) Q (esc e r)) : Q v H := by
 cases r with
 | val d => exact q v F H rl (Step.refl G F) h
 | fresh cc =>
  cases cc <;> first | exact (show False from q).elim | skip
  obtain ⟨p, rfl, ow, hn⟩ := h
  obtain ⟨o, q3, q4⟩ := ow.cs (fun _ _ z => by cases z)
  obtain ⟨r', st⟩ := rl.keep (o := o) (cs_tdo q4) q3 ow.f ow.g fun i => hn i p (ft_root _ _ _)
  exact q (.ref p) _ H r' st (dp_of_cr upd_same (cs_mono st.s q4))
 | slot i =>
  have h : sg σ i = some v := h
  dsimp only [esc] at q
  split at q
  . rename_i cc hi
    obtain ⟨F', a, e1, r', st, dp⟩ := rl.freeze hi
    rw [h] at e1
    cases e1
    exact q _ F' H r' st dp
  . exact q.elim
theorem pv_e (h : PV X W ex c) : PE X ex (Tr X W (vE c) (DOk X.K)) := pe_imp h fun σ H Q ⟨L, G, F, e, r, a⟩ =>
 ⟨L, G, F, e, r, (After.bind (P1 := ROk X.K) a).mono fun v H1 ⟨F1, e1, rr, r1, st, p1, a1⟩ => esc_state r1 p1 a1⟩
def AOk (K : PySem.W.Frag) : Rl D V := fun _ F H _ _ d v => Ar K F H v d
theorem pv_d (h : PV X W ex c) : PE X ex (Tr X W (vD c) (AOk X.K)) := pe_imp h fun σ H Q ⟨L, G, F, e, r, a⟩ =>
 ⟨L, G, F, e, r, (After.bind (P1 := ROk X.K) a).mono fun v H1 ⟨F1, e1, rr, r1, st, p1, a1⟩ => by
  obtain ⟨d, hd, a2⟩ := a1.ofO'
  exact a2 v F1 H1 r1 (Step.refl G F1) (rd_ok r1 p1 hd)⟩
theorem pv_var {i : Nat} {x : Str} (hN : X.N[i]? = some x) (hv : Vis X.env.scope x) (hd : (x == ("__debug__" : Str)) = false) (hcd : (x == ("__classdict__" : Str)) = false) : PV X W (.Name x pos) (varC i) :=
 pe_imp (pe_var hN hv hd hcd) fun σ H Q ⟨L, G, F, e, r, a⟩ => by
  unfold varC at a
  split at a
  . rename_i d hi
    obtain ⟨v, e1, q⟩ := r.sl i _ hi
    exact ⟨v, sg_some e1, a v F H r (Step.refl G F) q⟩
  . rename_i d hi
    obtain ⟨v, e1, q⟩ := r.sl i _ hi
    split at a
    . exact ⟨v, sg_some e1, a v F H r (Step.refl G F) e1⟩
    . rename_i hl
      rcases q with q | ⟨_, _, _, _, rfl, _⟩
      . exact ⟨v, sg_some e1, a v F H r (Step.refl G F) q⟩
      . exact absurd rfl hl
  . rename_i t k cc hi
    obtain ⟨b, e1, _⟩ := r.sl i _ hi
    exact ⟨_, sg_some e1, a _ F H r (Step.refl G F) e1⟩
  . rename_i u hi
    obtain ⟨b, e1, _⟩ := r.sl i _ hi
    exact ⟨_, sg_some e1, a _ F H r (Step.refl G F) e1⟩
  . exact a.elim
theorem pv_con {d : D} {v : V} (h : PE X ex (tC v)) (hd : ∀ F : Hp, Dp X.K F v d) : PV X W ex (conC d) := pe_imp h fun σ H Q q => by
 obtain ⟨L, G, F, e, r, a⟩ := q
 exact a v F H r (Step.refl G F) (hd F)
inductive DsOk (K : PySem.W.Frag) (F : Hp) : List D -> List V -> Prop where
 | nil : DsOk K F [] []
 | cons {d : D} {ds : List D} {v : V} {vs : List V} : Dp K F v d -> DsOk K F ds vs -> DsOk K F (d :: ds) (v :: vs)
def DsR (K : PySem.W.Frag) : Rl (List D) (List V) := fun _ F _ _ _ ds vs => DpAll K F vs ds
inductive RsOk (K : PySem.W.Frag) (G F H : Hp) (σ : L2.St) (e : Env) : List R -> List V -> Prop where
 | nil : RsOk K G F H σ e [] []
 | cons {r : R} {rs : List R} {v : V} {vs : List V} : RNk K G F H σ e r v -> RsOk K G F H σ e rs vs -> RsOk K G F H σ e (r :: rs) (v :: vs)
inductive PVs (X : Cx) (W : WX) : List Expr -> List Vc -> Prop where
 | nil : PVs X W [] []
 | cons {e : Expr} {es : List Expr} {c : Vc} {cs : List Vc} : PV X W e c -> (starEach (e :: es) X.env = (false, eval e X.env) :: starEach es X.env) -> PVs X W es cs -> PVs X W (e :: es) (c :: cs)
theorem pa_es : ∀ {es : List Expr} {cs : List Vc}, PVs X W es cs -> PA X es (Tr X W (vEs cs) (DsR X.K))
 | _, _, .nil => pa_imp pa_nil fun σ H Q q => by
   obtain ⟨L, G, F, e, r, a⟩ := q
   exact a [] F H r (Step.refl G F) .nil
 | _, _, .cons h hs t => pa_imp (pa_cons (pv_e h) (pa_es t) hs) fun σ H Q ⟨L, G, F, e, r, a⟩ =>
   ⟨L, G, F, e, r, (After.bind (P1 := DOk X.K) a).mono fun v H1 ⟨F1, e1, d, r1, st, p1, a1⟩ =>
    ⟨L, G, F1, e1, r1, (After.bind (P1 := DsR X.K) a1).mono fun vs H2 ⟨F2, e2, ds, r2, st2, p2, a2⟩ => a2 (v :: vs) F2 H2 r2 (Step.refl G F2) (.cons (dp_mono st2.s p1) p2)⟩⟩
theorem pa_ns : ∀ {es : List Expr} {cs : List Vc}, PVs X W es cs -> PA X es (Tr X W (vNs cs) (RsOk X.K))
 | _, _, .nil => pa_imp pa_nil fun σ H Q q => by
   obtain ⟨L, G, F, e, r, a⟩ := q
   exact a [] F H r (Step.refl G F) .nil
 | _, _, .cons h hs t => pa_imp (pa_cons (pv_n h) (pa_ns t) hs) fun σ H Q ⟨L, G, F, e, r, a⟩ =>
   ⟨L, G, F, e, r, (After.bind (P1 := RNk X.K) a).mono fun v H1 ⟨F1, e1, d, r1, st, p1, a1⟩ =>
    ⟨L, G, F1, e1, r1, (After.bind (P1 := RsOk X.K) a1).mono fun vs H2 ⟨F2, e2, ds, r2, st2, p2, a2⟩ => a2 (v :: vs) F2 H2 r2 (Step.refl G F2) (.cons (p1.later st2.s) p2)⟩⟩
theorem vEs_len : ∀ {cs : List Vc} {e : Env} {ds : List D} {e' : Env}, vEs cs e = .ok ds e' -> ds.length = cs.length := by
 intro cs
 induction cs with
 | nil => intro e ds e' z; cases z; rfl
 | cons c cs ih =>
  intro e ds e' z
  unfold vEs at z
  cases h1 : vE c e with
  | bad => rw [h1] at z; cases z
  | exc x e2 => rw [h1] at z; cases z
  | ok d e1 =>
   rw [h1, bind_ok] at z
   cases h2 : vEs cs e1 with
   | bad => rw [h2] at z; cases z
   | exc x e2 => rw [h2] at z; cases z
   | ok ds' e2 =>
    rw [h2, bind_ok] at z
    cases z
    rw [List.length_cons, List.length_cons, ih h2]
theorem PVs.len {es : List Expr} {cs : List Vc} (h : PVs X W es cs) : cs.length = es.length := by
 induction h with
 | nil => rfl
 | cons _ _ _ ih => simp [ih]
def tTupZ (t : TA) : TE := fun σ H Q => t σ H fun xs H1 => xs.length <= sizeLine /\ ∀ p ob, H1 p = none -> ob.dict = none -> Q (.ref p) (upd H1 p (.frz ob (.tup xs)))
theorem pe_tupZ {es : List Expr} {t : TA} {k : Nat} (h : PA X es t) : PE X (.Tuple es k pos) (tTupZ t) := ⟨fun pins s σ H Q I q => by
 refine PyProof.Rows.Tuple_ (wpAny_mono (h.run pos pins s σ H _ I q) (fun vs s1 z => ?_) fun _ _ z => z)
 obtain ⟨xs, H1, J, rv, hz, fin⟩ := z
 refine wpAny_newTuple ?_ (by rw [<- rv.length]; exact hz)
 exact ⟨.ref s1.heap.objs.size, _, lay_tup (t' := s1.toks) J rv hz, rfl, fin _ _ (J.hok.fresh (Nat.le_refl _)) rfl⟩⟩
theorem pv_tup {es : List Expr} {cs : List Vc} {k : Nat} (h : PVs X W es cs) (hl : es.length <= sizeLine) : PV X W (.Tuple es k pos) (tupC cs) := by
 refine pe_imp (pe_tupZ (pa_es h)) fun σ H Q q => ?_
 obtain ⟨L, G, F, e, r, a⟩ := q
 refine ⟨L, G, F, e, r, ?_⟩
 unfold tupC at a
 cases hv : vEs cs e with
 | bad => rw [hv] at a; exact a.elim
 | exc x e2 => rw [hv] at a; exact a
 | ok ds e1 =>
  rw [hv, bind_ok] at a
  intro vs F1 H1 r1 st p1
  have p1 : DpAll X.K F1 vs ds := p1
  refine ⟨by rw [dps_len p1, vEs_len hv, h.len]; exact hl, fun p ob hp hob => ?_⟩
  obtain ⟨r2, st2⟩ := r1.lay (o := .frz ob (.tup vs)) hp hob
  exact a (.ref p) _ _ r2 (st.trans st2) (.tup (.inl (.inr ⟨ob, upd_same⟩)) (dps_mono st2.s p1))
theorem fresh_put {L : Fr} {G F H : Hp} {σ : L2.St} {e : Env} {p : Addr} {vs : List V} {ds : List D} (r : Rel X.K L G F H σ e) (hp : H p = none) (h : DpAll X.K F vs ds) :
  Rel X.K L G F (upd H p (.lst vs)) σ e /\ ROk X.K G F (upd H p (.lst vs)) σ e (.fresh (.lst ds)) (.ref p) := by
 exact ⟨r.put hp, fresh_cs r hp (c := .lst ds) h⟩
theorem pv_lst {es : List Expr} {cs : List Vc} (h : PVs X W es cs) (hl : es.length <= sizeLine) : PV X W (.List es pos) (lstC cs) := by
 refine pe_imp (pe_lst (pa_es h)) fun σ H Q q => ?_
 obtain ⟨L, G, F, e, r, a⟩ := q
 refine ⟨L, G, F, e, r, ?_⟩
 unfold lstC at a
 cases hv : vEs cs e with
 | bad => rw [hv] at a; exact a.elim
 | exc x e2 => rw [hv] at a; exact a
 | ok ds e1 =>
  rw [hv, bind_ok] at a
  intro vs F1 H1 r1 st p1
  have p1 : DpAll X.K F1 vs ds := p1
  refine ⟨by rw [dps_len p1, vEs_len hv, h.len]; exact hl, fun p hp => ?_⟩
  obtain ⟨r2, o2⟩ := fresh_put r1 hp p1
  exact a (.ref p) _ _ r2 st o2
theorem v2_eq {α : Type} (a b : Vc) (f : D × D -> Env -> Res α) (e : Env) : (v2 a b e).bind f = ((vN a e).bind fun r e1 => ((vN b e1).bind fun q e2 => ((ofO (rd e2 r) e2).bind fun x e3 => ((ofO (rd e3 q) e3).bind fun y e4 => f (x, y) e4)))) := by
 unfold v2
 cases vN a e with
 | bad => rfl
 | exc _ _ => rfl
 | ok r1 e1 =>
  simp only [bind_ok]
  cases vN b e1 with
  | bad => rfl
  | exc _ _ => rfl
  | ok r2 e2 =>
   simp only [bind_ok]
   cases rd e2 r1 with
   | none => rfl
   | some d =>
    simp only [ofO_some, bind_ok]
    cases rd e2 r2 with
    | none => rfl
    | some d' => rfl
theorem two_tr {α β : Type} {P : Rl α β} {a b : Vc} {f : D × D -> Env -> Res α} {r : R2} {Q : β -> Hp -> Prop} {Q' : VK}  {σ : L2.St} {H : Hp}
  (k : ∀ (L : FrX X) (G F H : Hp) (e : Env) (x y : V) (d d' : D), Rel X.K L G F H σ e -> Ar X.K F H x d -> Ar X.K F H y d' -> After X W L G F σ P Q (f (d, d') e) -> r x y H Q') (q : Tr X W (fun e => (v2 a b e).bind f) P σ H Q) :
  tOp r (Tr X W (vN a) (RNk X.K)) (Tr X W (vN b) (RNk X.K)) σ H Q' := by
 obtain ⟨L, G, F, e, r0, h⟩ := q
 have h : After X W L G F σ P Q ((v2 a b e).bind f) := h
 rw [v2_eq] at h
 refine ⟨L, G, F, e, r0, (After.bind (P1 := RNk X.K) h).mono fun x H1 z => ?_⟩
 obtain ⟨F1, e1, ra, r1, st1, p1, a1⟩ := z
 refine ⟨L, G, F1, e1, r1, (After.bind (P1 := RNk X.K) a1).mono fun y H2 z => ?_⟩
 obtain ⟨F2, e2, rb, r2, st2, p2, a2⟩ := z
 obtain ⟨d, hd, a3⟩ := a2.ofO
 obtain ⟨d', hd', a4⟩ := a3.ofO
 exact k L G F2 H2 e2 x y d d' r2 (rd_ok r2 (p1.later st2.s).1 hd) (rd_ok r2 p2.1 hd') a4
def rOpD (X : Cx) (g : D -> D -> Option R) : R2 := fun x y H Q => ∃ F d d' z, Same F H /\ Ar X.K F H x d /\ Ar X.K F H y d' /\ g d d' = some z /\ ∀ nv, NVOk X.K F nv z -> NVQ nv H Q
theorem opr_of {f : Value -> Value -> Sem Value} {g : D -> D -> Option R} (h : OpD X f g) : OpR X f (rOpD X g) := fun pins s σ H x y v u Q I rx ry q => by
 obtain ⟨F, d, d', z, fh, h1, h2, h3, h4⟩ := q
 exact h pins s σ H F x y d d' z v u Q I fh rx ry h1 h2 h3 h4
def rCmpD (X : Cx) (g : D -> D -> Option Bool) : R2 := fun x y H Q => ∃ F d d' k, Same F H /\ Ar X.K F H x d /\ Ar X.K F H y d' /\ g d d' = some k /\ Q (.bl k) H
theorem cmpr_of {f : Value -> Value -> Sem Value} {g : D -> D -> Option Bool} (h : CmpD X f g) : OpR X f (rCmpD X g) := fun pins s σ H x y v u Q I rx ry q => by
 obtain ⟨F, d, d', z, fh, h1, h2, h3, h4⟩ := q
 exact h pins s σ H F x y d d' z v u Q I fh rx ry h1 h2 h3 h4
theorem pv_bin {op : Operator} (ha : PV X W ea ca) (hb : PV X W eb cb) : PV X W (.BinOp ea op eb pos) (binC op ca cb) :=
 pe_imp (pe_op (opr_of (opd_all op)) (pv_n ha) (pv_n hb)) fun σ H Q q => two_tr (P := ROk X.K) (Q := Q) (fun L G F H e x y d d' r hx hy a => by
  obtain ⟨z, hz, a1⟩ := a.ofO'
  exact ⟨F, d, d', z, r.fh, hx, hy, hz, fun nv hnv => nv_state r hnv fun v F' H' r' st p => a1 v F' H' r' st p⟩) q
theorem pb_cmp {op : CmpOp} (hu : X.A.units + 100 < cLine) (ha : PV X W ea ca) (hb : PV X W eb cb) (hm : behindInMarks op eb = false) : PB X W (.Compare ea [op] [eb] pos) (cmpB op ca cb) :=
 pt_imp (pt_cmpR (cmpr_of (cmp_all hu op)) (pv_n ha) (pv_n hb) hm) fun σ H Q q => two_tr (P := BOk) (Q := Q) (fun L G F H e x y d d' r hx hy a => by
  obtain ⟨k, hk, a1⟩ := a.ofO'
  exact ⟨F, d, d', k, r.fh, hx, hy, hk, k, rfl, a1 k F H r (Step.refl G F) rfl⟩) q
theorem boolR_bind {α : Type} (c : Env -> Res α) (f : α -> Env -> Res Bool) (e : Env) : boolR (fun e => (c e).bind f) e = (c e).bind fun a e1 => (f a e1).bind fun k e2 => .ok (.val (.bool k)) e2 := by
 show ((c e).bind f).bind _ = _
 cases c e <;> rfl
theorem tr_congr {α β : Type} {c c' : Env -> Res α} {P : Rl α β} {σ : L2.St} {H : Hp} {Q : β -> Hp -> Prop} (h : ∀ e, c e = c' e) (q : Tr X W c P σ H Q) : Tr X W c' P σ H Q := by
 obtain ⟨L, G, F, e, r, a⟩ := q
 exact ⟨L, G, F, e, r, by rw [<- h e]; exact a⟩
theorem pv_cmp {op : CmpOp} (hu : X.A.units + 100 < cLine) (ha : PV X W ea ca) (hb : PV X W eb cb) (hm : behindInMarks op eb = false) : PV X W (.Compare ea [op] [eb] pos) (boolR (cmpB op ca cb)) :=
 pe_imp (pe_cmpR (cmpr_of (cmp_all hu op)) (pv_n ha) (pv_n hb) hm) fun σ H Q q => by
  refine two_tr (P := ROk X.K) (Q := Q) (f := fun p e2 => (ofO (cop op p.1 p.2) e2).bind fun k e3 => .ok (.val (.bool k)) e3) (fun L G F H e x y d d' r hx hy a => ?_) ?_
  . obtain ⟨k, hk, a1⟩ := a.ofO
    exact ⟨F, d, d', k, r.fh, hx, hy, hk, a1 (.bl k) F H r (Step.refl G F) (.bl k)⟩
  . exact tr_congr (fun e => boolR_bind (v2 ca cb) _ e) q
theorem pb_tru (ha : PV X W ea ca) (he : ∀ whole, isTrue ea X.env whole = (do let v <- whole; standAt ea.pos; holding [v] (truthy v))) : PB X W ea (tOf ca) :=
 pt_imp (pt_truth (pv_d ha) he) fun σ H Q q => by
  obtain ⟨L, G, F, e, r, a⟩ := q
  refine ⟨L, G, F, e, r, (After.bind (P1 := AOk X.K) a).mono fun x H1 z => ?_⟩
  obtain ⟨F1, e1, d, r1, st1, p1, a1⟩ := z
  obtain ⟨k, hk, a2⟩ := a1.ofO'
  exact ⟨k, tru_v r1.fh p1 hk, a2 k F1 H1 r1 (Step.refl G F1) rfl⟩
theorem pv_not (ha : PV X W ea ca) : PV X W (.UnaryOp .Not ea pos) (notC ca) :=
 pe_imp (pe_notT (pv_d ha)) fun σ H Q q => by
  obtain ⟨L, G, F, e, r, a⟩ := q
  refine ⟨L, G, F, e, r, (After.bind (P1 := AOk X.K) a).mono fun x H1 z => ?_⟩
  obtain ⟨F1, e1, d, r1, st1, p1, a1⟩ := z
  obtain ⟨k, hk, a2⟩ := a1.ofO
  exact ⟨k, tru_v r1.fh p1 hk, a2 (.bl (!k)) F1 H1 r1 (Step.refl G F1) (.bl _)⟩
variable {ta tb : Env -> Res Bool}
theorem pb_not (ha : PB X W ea ta) : PB X W (.UnaryOp .Not ea pos) (notT ta) :=
 pt_imp (pt_not ha) fun σ H Q q => by
  obtain ⟨L, G, F, e, r, a⟩ := q
  refine ⟨L, G, F, e, r, (After.bind (P1 := BOk) a).mono fun x H1 z => ?_⟩
  obtain ⟨F1, e1, k, r1, st1, p1, a1⟩ := z
  cases p1
  exact a1 (!x) F1 H1 r1 (Step.refl G F1) rfl
end
end Ev
namespace Ev
open PySem PySem.Spec PyProof.Rows L2
section
variable {X : Cx} {L : Fr} {G F H : Hp} {σ : L2.St} {e : Env}
theorem esc_at {r : R} {v : V} {d : D} {e' : Env} (rl : Rel X.K L G F H σ e) (h : ROk X.K G F H σ e r v) (q : esc e r = .ok d e') : ∃ F', Rel X.K L G F' H σ e' /\ Step G F F' /\ Dp X.K F' v d := by
 cases r with
 | val d' => cases q; exact ⟨F, rl, Step.refl G F, h⟩
 | fresh cc =>
  cases cc <;> first | (cases q; done) | skip
  cases q
  obtain ⟨p, rfl, ow, hn⟩ := h
  obtain ⟨o, q3, q4⟩ := ow.cs (fun _ _ z => by cases z)
  obtain ⟨r', st⟩ := rl.keep (o := o) (cs_tdo q4) q3 ow.f ow.g fun i => hn i p (ft_root _ _ _)
  exact ⟨_, r', st, dp_of_cr upd_same (cs_mono st.s q4)⟩
 | slot i =>
  have h : sg σ i = some v := h
  dsimp only [esc] at q
  split at q
  . rename_i cc hi
    cases q
    obtain ⟨F', a, e1, r', st, dp⟩ := rl.freeze hi
    rw [h] at e1
    cases e1
    exact ⟨F', r', st, dp⟩
  . cases q
theorem RsOk.later {G F F' H H' : Hp} {K : PySem.W.Frag} {e' : Env} {rs : List R} {vs : List V} (h : RsOk K G F H σ e rs vs) (st : Same F F') : RsOk K G F' H' σ e' rs vs := by
 induction h with
 | nil => exact .nil
 | cons h _ ih => exact .cons (h.later st) ih
theorem escAll_at : ∀ {ms : List Mo} {rs qs : List R} {vs : List V} {F : Hp} {e e' : Env}, Rel X.K L G F H σ e -> RsOk X.K G F H σ e rs vs -> escAll ms rs e = some (qs, e') -> ∃ F', Rel X.K L G F' H σ e' /\ Step G F F' /\ RsOk X.K G F' H σ e' qs vs
 | [], [], qs, vs, F, e, e', rl, h, q => by
  cases q
  exact ⟨F, rl, Step.refl G F, h⟩
 | .f :: ms, r :: rs, qs, vs, F, e, e', rl, h, q => by
  cases h with
  | cons h t =>
   dsimp only [escAll] at q
   split at q
   . rename_i d e1 he
     obtain ⟨F1, r1, st1, dp⟩ := esc_at rl h.1 he
     cases hr : escAll ms rs e1 with
     | none => rw [hr] at q; cases q
     | some z =>
      rw [hr] at q
      cases q
      obtain ⟨F2, r2, st2, t2⟩ := escAll_at r1 (t.later st1.s) hr
      exact ⟨F2, r2, st1.trans st2, .cons ⟨dp_mono st2.s dp, trivial⟩ t2⟩
   . cases q
 | .b :: ms, r :: rs, qs, vs, F, e, e', rl, h, q => by
  cases h with
  | cons h t =>
   dsimp only [escAll] at q
   cases hr : escAll ms rs e with
   | none => rw [hr] at q; cases q
   | some z =>
    rw [hr] at q
    cases q
    obtain ⟨F2, r2, st2, t2⟩ := escAll_at rl t hr
    exact ⟨F2, r2, st2, .cons (h.later st2.s) t2⟩
 | .l :: ms, r :: rs, qs, vs, F, e, e', rl, h, q => by
  cases h with
  | cons h t =>
   dsimp only [escAll] at q
   cases hr : escAll ms rs e with
   | none => rw [hr] at q; cases q
   | some z =>
    rw [hr] at q
    cases q
    obtain ⟨F2, r2, st2, t2⟩ := escAll_at rl t hr
    exact ⟨F2, r2, st2, .cons (h.later st2.s) t2⟩
 | [], r :: rs, qs, vs, F, e, e', rl, h, q => by cases q
 | m :: ms, [], qs, vs, F, e, e', rl, h, q => by cases m <;> cases q
inductive Lents (σ : L2.St) (e : Env) : List Nat -> List Addr -> Prop where
 | nil : Lents σ e [] []
 | cons {i : Nat} {a : Addr} {t : Bool} {c : C} {is : List Nat} {as : List Addr} : sg σ i = some (.ref a) -> e[i]? = some (.mu t false c) -> Lents σ e is as -> Lents σ e (i :: is) (a :: as)
def cOf (e : Env) (i : Nat) : C := match e[i]? with
 | some (.mu _ _ c) => c
 | _ => .lst []
theorem cOf_at {e : Env} {i : Nat} {t k : Bool} {c : C} (h : e[i]? = some (.mu t k c)) : cOf e i = c := by unfold cOf; rw [h]
theorem Lents.mem {is : List Nat} {as : List Addr} (h : Lents σ e is as) {x : Addr} (hx : x ∈ ftl H as (is.map (cOf e))) : ∃ i ∈ is, hasF H σ e i x := by
 induction h with
 | nil => cases hx
 | @cons i a t c is as h1 h2 _ ih =>
  rcases List.mem_append.mp hx with hx | hx
  . rw [cOf_at h2] at hx
    exact ⟨_, List.mem_cons_self, t, false, c, a, h2, h1, hx⟩
  . obtain ⟨i, hi, q⟩ := ih hx
    exact ⟨i, List.mem_cons_of_mem _ hi, q⟩
theorem Lents.memI {is : List Nat} {as : List Addr} (h : Lents σ e is as) {i : Nat} (hi : i ∈ is) : (∃ t c, e[i]? = some (.mu t false c)) /\ ∀ x, hasF H σ e i x -> x ∈ ftl H as (is.map (cOf e)) := by
 induction h with
 | nil => cases hi
 | @cons i a t c is as h1 h2 _ ih =>
  rcases List.mem_cons.mp hi with rfl | hi
  . refine ⟨⟨_, _, h2⟩, fun x q => List.mem_append_left _ ?_⟩
    obtain ⟨t', k', c', a', g1, g2, g3⟩ := q
    rw [cOf_at g1]
    rw [h1] at g2; cases g2
    exact g3
  . obtain ⟨q1, q2⟩ := ih hi
    exact ⟨q1, fun x q => List.mem_append_right _ (q2 x q)⟩
theorem not_mem_of {xs : List Nat} {x : Nat} (h : (!xs.contains x) = true) : x ∉ xs := by
 intro hx
 have : xs.contains x = true := by simpa using hx
 rw [this] at h
 cases h
theorem Lents.nodup (rl : Rel X.K L G F H σ e) : ∀ {is : List Nat} {as : List Addr}, Lents σ e is as -> uniq is = true -> (ftl H as (is.map (cOf e))).Nodup
 | _, _, .nil, _ => List.nodup_nil
 | _, _, @Lents.cons _ _ i a tt c is as h1 h2 t, u => by
  unfold uniq at u
  rw [Bool.and_eq_true] at u
  show (ft H a (cOf e i) ++ ftl H as (is.map (cOf e))).Nodup
  rw [cOf_at h2]
  obtain ⟨b, e1, ow, _⟩ := rl.sl i _ h2
  rw [h1] at e1; cases e1
  refine List.nodup_append.mpr ⟨ow.nd, Lents.nodup rl t u.2, fun x hx y hy e1 => ?_⟩
  subst e1
  obtain ⟨j, hj, q⟩ := t.mem hy
  refine rl.ap i j x ?_ ⟨_, _, _, _, h2, h1, hx⟩ q
  rintro rfl
  exact not_mem_of u.1 hj
theorem readAll_at {LS : List Addr} {ls₀ : List Nat} (rl : Rel X.K L G F H σ e) (hLS : ∀ j x, hasF H σ e j x -> j ∉ ls₀ -> x ∉ LS) (hgn : ∀ x, G x ≠ none -> x ∉ LS) (hin : ∀ i ∈ ls₀, ∀ x, hasF H σ e i x -> x ∈ LS) :
  ∀ {ms : List Mo} {qs : List R} {vs : List V} {ds : List D} {ls : List Nat}, RsOk X.K G F H σ e qs vs -> readAll e ms qs = some (ds, ls) -> apart ls₀ ms qs = true -> (∀ i ∈ ls, i ∈ ls₀) ->
   ArgsOk X.K F H LS ms vs ds (ls.map (cOf e)) /\ Lents σ e ls (lents ms vs) /\ vs.length = ms.length
 | [], [], vs, ds, ls, h, q, _, _ => by
  cases h
  cases q
  exact ⟨.nil, .nil, rfl⟩
 | .f :: ms, .val d :: rs, vs, ds, ls, h, q, ap, hs => by
  cases h with
  | cons h t =>
   dsimp only [readAll] at q
   cases hr : readAll e ms rs with
   | none => rw [hr] at q; cases q
   | some z =>
    rw [hr] at q
    cases q
    obtain ⟨h1, h2, h3⟩ := readAll_at rl hLS hgn hin t hr ap hs
    exact ⟨.f h.1 h1, by cases ‹V› <;> exact h2, by rw [List.length_cons, h3]; rfl⟩
 | .b :: ms, r :: rs, vs, ds, ls, h, q, ap, hs => by
  cases h with
  | @cons _ _ v _ h t =>
   dsimp only [readAll] at q
   cases hd : rd e r with
   | none => rw [hd] at q; cases q
   | some d =>
    rw [hd] at q
    simp only [Option.bind_some] at q
    cases hr : readAll e ms rs with
    | none => rw [hr] at q; cases q
    | some z =>
     rw [hr] at q
     cases q
     have ap2 : apart ls₀ ms rs = true := by
      cases r <;> first | exact ap | (simp only [apart, Bool.and_eq_true] at ap; exact ap.2)
     obtain ⟨h1, h2, h3⟩ := readAll_at rl hLS hgn hin t hr ap2 hs
     have br : Br X.K (cut H LS) F v d := by
      cases r with
      | val d' => cases hd; exact .inl h.1
      | fresh c => exact (show False from h.2).elim
      | slot j =>
       have hj : sg σ j = some v := h.1
       have nj : j ∉ ls₀ := by
        simp only [apart, Bool.and_eq_true] at ap
        exact not_mem_of ap.1
       dsimp only [rd] at hd
       split at hd
       . rename_i t' k c he
         cases hd
         obtain ⟨a, e1, ow, _⟩ := rl.sl j _ he
         obtain ⟨o, q3, q4⟩ := ow.cs (fun _ _ z => by cases z)
         rw [hj] at e1; cases e1
         have na : a ∉ LS := hLS j a (hasF_root he hj) nj
         . cases o <;> first | exact (show False from q4).elim | skip
           refine .inr ⟨a, _, _, rfl, rfl, SqL.of ?_, q4⟩
           exact cut_at q3 na fun _ z => (by cases z)
       . rename_i d' he
         cases hd
         obtain ⟨w, e1, b⟩ := rl.sl j _ he
         rw [hj] at e1; cases e1
         rcases b with b | ⟨a, xs, ds', rfl, rfl, b1, b2⟩
         . exact .inl b
         . refine .inr ⟨a, xs, ds', rfl, rfl, ?_, b2⟩
           refine Same.seq (H := L.b) (fun x y hx => ?_) b1
           have hg := rl.bg _ _ hx
           have nx : x ∉ LS := hgn x (by rw [hg]; exact fun z => nomatch z)
           exact cut_at (rl.gh _ _ hg) nx fun ps z => rl.nw.gt x ps (by rw [hg, z])
       . cases hd
     exact ⟨.b br h1, by cases v <;> exact h2, by rw [List.length_cons, h3]; rfl⟩
 | .l :: ms, .slot i :: rs, vs, ds, ls, h, q, ap, hs => by
  cases h with
  | @cons _ _ v _ h t =>
   dsimp only [readAll] at q
   split at q
   . rename_i t' c he
     cases hr : readAll e ms rs with
     | none => rw [hr] at q; cases q
     | some z =>
      rw [hr] at q
      cases q
      obtain ⟨h1, h2, h3⟩ := readAll_at rl hLS hgn hin t hr ap fun j hj => hs j (List.mem_cons_of_mem _ hj)
      have hi : sg σ i = some v := h.1
      obtain ⟨a, e1, ow, _⟩ := rl.sl i _ he
      rw [hi] at e1; cases e1
      have ma : ∀ x ∈ ft H a c, x ∈ LS := fun x hx => hin i (hs i List.mem_cons_self) x ⟨_, _, _, _, he, hi, hx⟩
      have ow2 := (ow.move (G' := cut H LS) (H' := H) (Same.refl F) fun x hx => ⟨(ow.all x hx).1, cut_in (ma x hx), rfl⟩).1
      refine ⟨?_, .cons hi he h2, by rw [List.length_cons, h3]; rfl⟩
      show ArgsOk X.K F H LS (.l :: ms) (.ref a :: _) _ (cOf e i :: z.2.map (cOf e))
      rw [cOf_at he]
      exact .l ow2 ma h1
   . cases q
 | [], r :: rs, vs, ds, ls, h, q, _, _ => by cases q
 | .f :: ms, [], vs, ds, ls, h, q, _, _ => by cases q
 | .b :: ms, [], vs, ds, ls, h, q, _, _ => by cases q
 | .l :: ms, [], vs, ds, ls, h, q, _, _ => by cases q
 | .f :: ms, .slot _ :: rs, vs, ds, ls, h, q, _, _ => by cases q
 | .f :: ms, .fresh _ :: rs, vs, ds, ls, h, q, _, _ => by cases q
 | .l :: ms, .val _ :: rs, vs, ds, ls, h, q, _, _ => by cases q
 | .l :: ms, .fresh _ :: rs, vs, ds, ls, h, q, _, _ => by cases q
 | .d :: ms, [], vs, ds, ls, h, q, _, _ => by cases q
 | .d :: ms, .val _ :: rs, vs, ds, ls, h, q, _, _ => by cases q
 | .d :: ms, .slot _ :: rs, vs, ds, ls, h, q, _, _ => by cases q
 | .d :: ms, .fresh _ :: rs, vs, ds, ls, h, q, _, _ => by cases q
theorem readAll_ls : ∀ {ms : List Mo} {qs : List R} {vs : List V} {ds : List D} {ls : List Nat}, Rel X.K L G F H σ e -> RsOk X.K G F H σ e qs vs -> readAll e ms qs = some (ds, ls) -> Lents σ e ls (lents ms vs)
 | [], [], vs, ds, ls, rl, h, q => by
  cases h
  cases q
  exact .nil
 | .f :: ms, .val d :: rs, vs, ds, ls, rl, h, q => by
  cases h with
  | @cons _ _ v _ h t =>
   dsimp only [readAll] at q
   cases hr : readAll e ms rs with
   | none => rw [hr] at q; cases q
   | some z =>
    rw [hr] at q
    cases q
    have := readAll_ls rl t hr
    cases v <;> exact this
 | .b :: ms, r :: rs, vs, ds, ls, rl, h, q => by
  cases h with
  | @cons _ _ v _ h t =>
   dsimp only [readAll] at q
   cases hd : rd e r with
   | none => rw [hd] at q; cases q
   | some d =>
    rw [hd] at q
    simp only [Option.bind_some] at q
    cases hr : readAll e ms rs with
    | none => rw [hr] at q; cases q
    | some z =>
     rw [hr] at q
     cases q
     have := readAll_ls rl t hr
     cases v <;> exact this
 | .l :: ms, .slot i :: rs, vs, ds, ls, rl, h, q => by
  cases h with
  | @cons _ _ v _ h t =>
   dsimp only [readAll] at q
   split at q
   . rename_i t' c he
     cases hr : readAll e ms rs with
     | none => rw [hr] at q; cases q
     | some z =>
      rw [hr] at q
      cases q
      have hi : sg σ i = some v := h.1
      obtain ⟨a, e1, _⟩ := rl.sl i _ he
      rw [hi] at e1; cases e1
      exact .cons hi he (readAll_ls rl t hr)
   . cases q
 | [], r :: rs, vs, ds, ls, rl, h, q => by cases q
 | .f :: ms, [], vs, ds, ls, rl, h, q => by cases q
 | .b :: ms, [], vs, ds, ls, rl, h, q => by cases q
 | .l :: ms, [], vs, ds, ls, rl, h, q => by cases q
 | .f :: ms, .slot _ :: rs, vs, ds, ls, rl, h, q => by cases q
 | .f :: ms, .fresh _ :: rs, vs, ds, ls, rl, h, q => by cases q
 | .l :: ms, .val _ :: rs, vs, ds, ls, rl, h, q => by cases q
 | .l :: ms, .fresh _ :: rs, vs, ds, ls, rl, h, q => by cases q
 | .d :: ms, [], vs, ds, ls, rl, h, q => by cases q
 | .d :: ms, .val _ :: rs, vs, ds, ls, rl, h, q => by cases q
 | .d :: ms, .slot _ :: rs, vs, ds, ls, rl, h, q => by cases q
 | .d :: ms, .fresh _ :: rs, vs, ds, ls, rl, h, q => by cases q
end
end Ev
namespace Ev
open PySem PySem.Spec PyProof.Rows L2
section
variable {X : Cx} {W : WX} {L : Fr} {G F H : Hp} {σ : L2.St} {e : Env}
theorem putBack_get : ∀ {ls : List Nat} {cs : List C} {e e' : Env} {as : List Addr}, Lents σ e ls as -> uniq ls = true -> putBack ls cs e = some e' -> cs.length = ls.length /\ e'.length = e.length /\ (∀ j, j ∉ ls -> e'[j]? = e[j]?) /\ ∀ (k : Nat) (i : Nat) (c : C), ls[k]? = some i -> cs[k]? = some c -> ∃ t c0, e[i]? = some (.mu t false c0) /\ e'[i]? = some (.mu t false c)
 | [], [], e, e', as, _, _, q => by
  cases q
  exact ⟨rfl, rfl, fun _ _ => rfl, fun k i c h _ => by simp at h⟩
 | i :: is, c :: cs, e, e', _, @Lents.cons _ _ _ _ t c0 _ as2 h1 h2 h3, u, q => by
  unfold uniq at u
  rw [Bool.and_eq_true] at u
  have ni := not_mem_of u.1
  have hi : i < e.length := (List.getElem?_eq_some_iff.mp h2).1
  unfold putBack at q
  rw [h2] at q
  dsimp only at q
  have h3' : Lents σ (e.set i (.mu t false c)) is as2 := by
   have : ∀ {is : List Nat} {as : List Addr}, Lents σ e is as -> i ∉ is -> Lents σ (e.set i (.mu t false c)) is as := by
    intro is as h
    induction h with
    | nil => intro _; exact .nil
    | cons g1 g2 _ ih =>
     intro n
     exact .cons g1 ((List.getElem?_set_ne (fun z => n (by rw [z]; exact List.mem_cons_self))).trans g2) (ih fun z => n (List.mem_cons_of_mem _ z))
   exact this h3 ni
  obtain ⟨q1, q2, q3, q4⟩ := putBack_get h3' u.2 q
  refine ⟨by simp [q1], by rw [q2, List.length_set], fun j hj => ?_, fun k j c' hk hc => ?_⟩
  . rw [q3 j fun z => hj (List.mem_cons_of_mem _ z), List.getElem?_set_ne]
    rintro rfl
    exact hj List.mem_cons_self
  . cases k with
    | zero =>
     simp only [List.getElem?_cons_zero, Option.some.injEq] at hk hc
     subst hk hc
     refine ⟨t, c0, h2, ?_⟩
     rw [q3 i ni, List.getElem?_set_self hi]
    | succ k =>
     simp only [List.getElem?_cons_succ] at hk hc
     obtain ⟨t', c1, g1, g2⟩ := q4 k j c' hk hc
     refine ⟨t', c1, ?_, g2⟩
     rw [List.getElem?_set_ne] at g1
     . exact g1
     . rintro rfl
       exact ni (List.mem_of_getElem? hk)
 | [], c :: cs, e, e', as, _, _, q => by cases q
 | i :: is, [], e, e', as, _, _, q => by cases q
theorem Lents.at {is : List Nat} {as : List Addr} (h : Lents σ e is as) : ∀ {k : Nat} {i : Nat}, is[k]? = some i -> ∃ a, as[k]? = some a /\ sg σ i = some (.ref a) := by
 induction h with
 | nil => intro k i hk; simp at hk
 | cons h1 h2 _ ih =>
  intro k i hk
  cases k with
  | zero => simp at hk; subst hk; exact ⟨_, rfl, h1⟩
  | succ k =>
   obtain ⟨a, q1, q2⟩ := ih (k := k) (i := i) (by simpa using hk)
   exact ⟨a, by simpa using q1, q2⟩
theorem LentOk.at {K : PySem.W.Frag} {G F H : Hp} {as : List Addr} {cs : List C} (h : LentOk K G F H as cs) : ∀ {k : Nat} {a : Addr} {c : C}, as[k]? = some a -> cs[k]? = some c -> Own K G F H a c := by
 induction h with
 | nil => intro k a c hk; simp at hk
 | cons h _ ih =>
  intro k a c hk hc
  cases k with
  | zero => simp at hk hc; subst hk hc; exact h
  | succ k => exact ih (by simpa using hk) (by simpa using hc)
theorem ftl_mem {H : Hp} : ∀ {as : List Addr} {cs : List C} {k : Nat} {a : Addr} {c : C}, as[k]? = some a -> cs[k]? = some c -> ∀ x ∈ ft H a c, x ∈ ftl H as cs
 | [], _, k, a, c, h, _ => by simp at h
 | _ :: _, [], k, a, c, _, h => by simp at h
 | a :: as, c :: cs, 0, _, _, h1, h2 => by
  simp at h1 h2
  subst h1 h2
  exact fun x hx => List.mem_append_left _ hx
 | a :: as, c :: cs, k + 1, _, _, h1, h2 => fun x hx => List.mem_append_right _ (ftl_mem (k := k) (by simpa using h1) (by simpa using h2) x hx)
theorem ftl_ne {H : Hp} : ∀ {as : List Addr} {cs : List C} {k l : Nat} {a b : Addr} {c d : C} {x : Addr}, (ftl H as cs).Nodup -> k ≠ l -> as[k]? = some a -> cs[k]? = some c -> as[l]? = some b -> cs[l]? = some d -> x ∈ ft H a c -> x ∉ ft H b d
 | [], _, k, l, a, b, c, d, x, _, _, h, _, _, _ => by simp at h
 | _ :: _, [], k, l, a, b, c, d, x, _, _, _, h, _, _ => by simp at h
 | a0 :: as, c0 :: cs, k, l, a, b, c, d, x, nd, hkl, h1, h2, h3, h4 => by
  obtain ⟨n1, n2, n3⟩ := List.nodup_append.mp nd
  cases k with
  | zero =>
   cases l with
   | zero => exact absurd rfl hkl
   | succ l =>
    simp at h1 h2 h3 h4
    subst h1 h2
    exact fun hx hy => n3 x hx x (ftl_mem h3 h4 x hy) rfl
  | succ k =>
   cases l with
   | zero =>
    simp at h1 h2 h3 h4
    subst h3 h4
    exact fun hx hy => n3 x hy x (ftl_mem h1 h2 x hx) rfl
   | succ l => exact ftl_ne (k := k) (l := l) n2 (fun z => hkl (congrArg (· + 1) z)) (by simpa using h1) (by simpa using h2) (by simpa using h3) (by simpa using h4)
structure AftS (G H H' : Hp) (σ : L2.St) (e e' : Env) (ls : List Nat) (FT LS : List Addr) (cs : List C) : Prop where
 gn : ∀ a, G a ≠ none -> a ∉ FT
 cg : ∀ x, cut H FT x = none -> G x = none
 old : ∀ i x, hasF H σ e i x -> i ∉ ls -> x ∉ FT /\ ∃ o, H x = some o /\ cut H FT x = some o
 out : ∀ i x, i ∉ ls -> hasF H' σ e' i x -> hasF H σ e i x
 inn : ∀ i, i ∈ ls -> ∃ (k : Nat) (a : Addr) (c : C) (t : Bool), ls[k]? = some i /\ LS[k]? = some a /\ cs[k]? = some c /\ sg σ i = some (.ref a) /\ e'[i]? = some (.mu t false c) /\ ∀ x, hasF H' σ e' i x -> x ∈ ft H' a c
theorem ls_gn {ls : List Nat} {LS : List Addr} (rl : Rel X.K L G F H σ e) (le : Lents σ e ls LS) : ∀ a, G a ≠ none -> a ∉ ftl H LS (ls.map (cOf e)) := fun a ha hm => by
 obtain ⟨i, _, q5⟩ := le.mem hm
 exact ha (rl.allF q5).2.1
theorem ls_old {ls : List Nat} {LS : List Addr} (rl : Rel X.K L G F H σ e) (le : Lents σ e ls LS) : ∀ i x, hasF H σ e i x -> i ∉ ls -> x ∉ ftl H LS (ls.map (cOf e)) := fun i x h hi hm => by
 obtain ⟨j, hj, q⟩ := le.mem hm
 refine rl.ap j i x ?_ q h
 rintro rfl
 exact hi hj
theorem aft_s {ls : List Nat} {LS FT : List Addr} {cs : List C} {e' : Env} {F' H' : Hp} (rl : Rel X.K L G F H σ e) (gn : ∀ a, G a ≠ none -> a ∉ FT) (old0 : ∀ i x, hasF H σ e i x -> i ∉ ls -> x ∉ FT) (le : Lents σ e ls LS) (u : uniq ls = true) (pb : putBack ls cs e = some e') (af : Aft X.K (cut H FT) F F' H' LS cs) :
  AftS G H H' σ e e' ls FT LS cs := by
 obtain ⟨p1, p2, p3, p4⟩ := putBack_get le u pb
 have old : ∀ i x, hasF H σ e i x -> i ∉ ls -> x ∉ FT /\ ∃ o, H x = some o /\ cut H FT x = some o := fun i x h hi => by
  obtain ⟨_, _, o, q3, q4⟩ := rl.allF h
  have na := old0 i x h hi
  exact ⟨na, o, q3, cut_at q3 na q4.1⟩
 refine ⟨gn, fun x hx => ?_, old, fun i x hi h => ?_, fun i hi => ?_⟩
 . cases hg : G x with
   | none => rfl
   | some o =>
    rw [cut_at (rl.gh _ _ hg) (gn x (by rw [hg]; exact fun z => nomatch z)) fun ps z => rl.nw.gt x ps (by rw [hg, z])] at hx
    cases hx
 . obtain ⟨t, k, c, a, h1, h2, h3⟩ := h
   rw [p3 i hi] at h1
   refine ⟨t, k, c, a, h1, h2, ?_⟩
   obtain ⟨b, e1, ow, _⟩ := rl.sl i _ h1
   rw [h2] at e1; cases e1
   rw [(ow.move (G' := G) (F' := F) (H' := H') (Same.refl F) fun y hy => by
    obtain ⟨_, o, o1, o2⟩ := old i y ⟨t, k, c, a, h1, h2, hy⟩ hi
    exact ⟨(ow.all y hy).1, (ow.all y hy).2.1, by rw [o1]; exact af.s3 _ _ o2⟩).2] at h3
   exact h3
 . obtain ⟨k, hk⟩ := List.getElem?_of_mem hi
   have hkl : k < cs.length := by
    rw [p1]
    exact (List.getElem?_eq_some_iff.mp hk).1
   obtain ⟨t, c0, g1, g2⟩ := p4 k i cs[k] hk (List.getElem?_eq_getElem hkl)
   obtain ⟨a, ha, hs⟩ := le.at hk
   refine ⟨k, a, cs[k], t, hk, ha, List.getElem?_eq_getElem hkl, hs, g2, fun x h => ?_⟩
   obtain ⟨t2, k2, c2, a2, h1, h2, h3⟩ := h
   rw [g2] at h1; cases h1
   rw [hs] at h2; cases h2
   exact h3
theorem aft_state {ls : List Nat} {LS FT : List Addr} {cs : List C} {e' : Env} {F' H' : Hp} (rl : Rel X.K L G F H σ e) (gn : ∀ a, G a ≠ none -> a ∉ FT) (old0 : ∀ i x, hasF H σ e i x -> i ∉ ls -> x ∉ FT) (le : Lents σ e ls LS) (u : uniq ls = true) (pb : putBack ls cs e = some e') (af : Aft X.K (cut H FT) F F' H' LS cs) :
  Rel X.K L G F' H' σ e' /\ Step G F F' := by
 obtain ⟨p1, p2, p3, p4⟩ := putBack_get le u pb
 have A := aft_s rl gn old0 le u pb af
 have inCut : ∀ i x, i ∈ ls -> hasF H' σ e' i x -> cut H FT x = none := fun i x hi h => by
  obtain ⟨k, a, c, t, _, h2, h3, _, _, h6⟩ := A.inn i hi
  exact ((af.lo.at h2 h3).all x (h6 x h)).2.1
 refine ⟨⟨af.s2, fun a o h => ?_, by rw [rl.len, p2], fun i s h => ?_, fun i j x hij m1 m2 => ?_, rl.bg, af.td, ⟨af.tb, af.fl, rl.nw.gt, rl.nw.tg⟩⟩, af.s1, fun a h => ?_⟩
 . exact af.s3 a o (cut_at (rl.gh _ _ h) (A.gn a (by rw [h]; exact fun z => nomatch z)) fun ps z => rl.nw.gt a ps (by rw [h, z]))
 . by_cases hi : i ∈ ls
   . obtain ⟨k, a, c, t, hk, h2, h3, h4, h5, _⟩ := A.inn i hi
     obtain ⟨t0, c0, g1, g2⟩ := p4 k i c hk h3
     rw [h] at g2
     cases g2
     obtain ⟨a', e2, _, q5⟩ := rl.sl i _ g1
     have e3 : (some (V.ref a') : Option V) = some (.ref a) := e2.symm.trans h4
     cases e3
     have ow := af.lo.at h2 h3
     exact ⟨a, h4, (ow.move (G' := G) (H' := H') (Same.refl F') fun x hx => ⟨(ow.all x hx).1, A.cg x (ow.all x hx).2.1, rfl⟩).1, q5⟩
   . rw [p3 i hi] at h
     have q := rl.sl i s h
     cases s with
     | un => trivial
     | th f => exact ⟨q.1, q.2.trans af.s1⟩
     | fns fs => obtain ⟨a', as, x1, x2, x3⟩ := q; exact ⟨a', as, x1, sqt_mono af.s1 x2, x3⟩
     | fnc f => exact q
     | bt u => obtain ⟨v, e1, q⟩ := q; exact ⟨v, e1, q.mono (Same.refl _) af.s1⟩
     | fz d => obtain ⟨v, e1, q⟩ := q; exact ⟨v, e1, dp_mono af.s1 q⟩
     | bo d => obtain ⟨v, e1, q⟩ := q; exact ⟨v, e1, q.mono af.s1⟩
     | xc x => obtain ⟨a, C, dd, fs, x1, x2, x3, x4⟩ := q; exact ⟨a, C, dd, fs, x1, x2, x3, fs_mono af.s1 x4⟩
     | mu t k c =>
      obtain ⟨a, e1, ow, q5⟩ := q
      refine ⟨a, e1, (ow.move (G' := G) (H' := H') af.s1 fun x hx => ?_).1, q5⟩
      obtain ⟨x1, x2, _⟩ := ow.all x hx
      obtain ⟨_, o, o1, o2⟩ := A.old i x ⟨t, k, c, a, h, e1, hx⟩ hi
      exact ⟨by rw [af.s4 x (by rw [o2]; exact fun z => nomatch z)]; exact x1, x2, by rw [o1]; exact af.s3 _ _ o2⟩
 . by_cases hi : i ∈ ls
   . by_cases hj : j ∈ ls
     . obtain ⟨k, a, c, t, hk, h2, h3, h4, h5, h6⟩ := A.inn i hi
       obtain ⟨k', a', c', t', hk', h2', h3', h4', h5', h6'⟩ := A.inn j hj
       refine ftl_ne af.nd (fun z => hij ?_) h2 h3 h2' h3' (h6 x m1) (h6' x m2)
       subst z
       rw [hk] at hk'
       exact Option.some.inj hk'
     . obtain ⟨_, o, _, o2⟩ := A.old j x (A.out j x hj m2) hj
       rw [inCut i x hi m1] at o2
       cases o2
   . by_cases hj : j ∈ ls
     . obtain ⟨_, o, _, o2⟩ := A.old i x (A.out i x hi m1) hi
       rw [inCut j x hj m2] at o2
       cases o2
     . exact rl.ap i j x hij (A.out i x hi m1) (A.out j x hj m2)
 . refine af.s4 a ?_
   cases hg : G a with
   | none => exact absurd hg h
   | some o =>
    rw [cut_at (rl.gh _ _ hg) (A.gn a h) fun ps z => rl.nw.gt a ps (by rw [hg, z])]
    exact fun z => nomatch z
theorem fresh_aft {ls : List Nat} {LS FT : List Addr} {cs : List C} {p : Addr} {c : C} {e' : Env} {F' H' : Hp} (A : AftS G H H' σ e e' ls FT LS cs) (ow : Own X.K (cut H FT) F' H' p c) (np : ∀ x ∈ ft H' p c, x ∉ ftl H' LS cs) : ROk X.K G F' H' σ e' (.fresh c) (.ref p) := by
 refine ⟨p, rfl, (ow.move (G' := G) (H' := H') (Same.refl F') fun x hx => ⟨(ow.all x hx).1, A.cg x (ow.all x hx).2.1, rfl⟩).1, fun i x hx m => ?_⟩
 by_cases hi : i ∈ ls
 . obtain ⟨k, a, c', t, hk, h2, h3, h4, h5, h6⟩ := A.inn i hi
   exact np x hx (ftl_mem h2 h3 x (h6 x m))
 . obtain ⟨_, o, _, o2⟩ := A.old i x (A.out i x hi m) hi
   rw [(ow.all x hx).2.1] at o2
   cases o2
theorem call_sp {rs : List R} {vs : List V} {Q : VK} {o : Option (List Mo × (List D -> FRes))} {ms : List Mo} {φ : List D -> FRes} (rl : Rel X.K L G F H σ e) (h : RsOk X.K G F H σ e rs vs) (hf : o = some (ms, φ)) (a : After X W L G F σ (ROk X.K) Q (callO o rs e)) :
  FSp X.K X.mg ms φ vs H Q (fun cls dd H' => W cls dd σ H') := by
 subst hf
 unfold callO at a
 dsimp only at a
 cases he : escAll ms rs e with
 | none => rw [he] at a; exact a.elim
 | some z =>
  obtain ⟨qs, e2⟩ := z
  rw [he] at a
  dsimp only at a
  obtain ⟨F2, r2, st2, t2⟩ := escAll_at rl h he
  cases hr : readAll e2 ms qs with
  | none => rw [hr] at a; exact a.elim
  | some z =>
   obtain ⟨ds, ls⟩ := z
   rw [hr] at a
   dsimp only at a
   split at a
   . rename_i hc
     obtain ⟨ha, hu⟩ := hc
     have le := readAll_ls r2 t2 hr
     obtain ⟨ao, _, len⟩ := readAll_at (LS := ftl H (lents ms vs) (ls.map (cOf e2))) (ls₀ := ls) r2 (ls_old r2 le) (ls_gn r2 le) (fun i hi => (le.memI hi).2) t2 hr ha fun _ hi => hi
     refine ⟨len, F2, ds, ls.map (cOf e2), r2.fh, r2.td, r2.nw.tb, r2.nw.fl, le.nodup r2 hu, ao, ?_⟩
     cases hφ : φ ds with
     | bad => rw [hφ] at a; exact a.elim
     | ret d cs =>
      rw [hφ] at a
      dsimp only [behind] at a ⊢
      intro v F' H' af dp
      cases hp : putBack ls cs e2 with
      | none => rw [hp] at a; exact a.elim
      | some e3 =>
       rw [hp] at a
       obtain ⟨r3, st3⟩ := aft_state r2 (ls_gn r2 le) (ls_old r2 le) le hu hp af
       exact a v F' H' r3 (st2.trans st3) dp
     | fresh c cs =>
      rw [hφ] at a
      dsimp only [behind] at a ⊢
      intro p F' H' af ow np
      cases hp : putBack ls cs e2 with
      | none => rw [hp] at a; exact a.elim
      | some e3 =>
       rw [hp] at a
       obtain ⟨r3, st3⟩ := aft_state r2 (ls_gn r2 le) (ls_old r2 le) le hu hp af
       exact a (.ref p) F' H' r3 (st2.trans st3) (fresh_aft (aft_s r2 (ls_gn r2 le) (ls_old r2 le) le hu hp af) ow np)
     | exc x cs =>
      rw [hφ] at a
      dsimp only [behind] at a ⊢
      intro cls dd F' H' af xo
      cases hp : putBack ls cs e2 with
      | none => rw [hp] at a; exact a.elim
      | some e3 =>
       rw [hp] at a
       obtain ⟨r3, st3⟩ := aft_state r2 (ls_gn r2 le) (ls_old r2 le) le hu hp af
       exact a cls dd F' H' r3 (st2.trans st3) xo
   . exact a.elim
end
section
variable {X : Cx} {W : WX} {pos p : Pos}
theorem run_g {pins : List (Addr × Obj)} {σ : L2.St} {H : Hp} {s : Shared} {Q : VK} {us : List Value} {vs : List V} {k : Nat} {f : Addr} {fd : FuncData} {ps : List Str} {sp : Sp} {ds : List Value} {dvs : List V} (Fn : FnG X.prog X.w X.K X.mg X.base k f fd ps (fun vs H Q E => ∃ vs0, vs = vs0 ++ dvs /\ sp vs0 H Q E)) (hr : Room k X.A) (hg : X.A.guards = some []) (hb : Binds X.K fd ps ds) (hd : Vals dvs ds) (tk : L2.Takes X W)
  (I : Inv X pins σ H s) (r : Vals vs us) (h : sp vs H Q fun cls dd H' => W cls dd σ H') : wpAny (model X.prog X.w) X.A (call (.ref f) us) (EP X pins σ Q) X.xe s := by
 have hl : (us ++ ds).length = ps.length := by
  have := Fn.len (vs ++ dvs) H Q _ ⟨vs, rfl, h⟩
  rw [List.length_append, r.length, hd.length] at this
  rw [List.length_append]
  exact this
 have b := hb s us I.kIn hl
 refine wpAny_call (codeAny_mono (Fn.run X.A X.stack s H ⟨us, []⟩ (us ++ ds) (vs ++ dvs) Q _ hr hg I.env0 b (r.append hd) ⟨vs, rfl, h⟩) fun res s' hq => ?_)
 cases res with
 | error x => exact tk x s' (XE.of_call I (fun _ _ _ z => z) hq)
 | ok fl =>
  cases fl with
  | ret u => exact I.after hq
  | _ => exact False.elim hq
theorem backTo_any (l : List (Bool × Sem Value)) : (backTo pos l).any (·.1) = l.any (·.1) := by
 unfold backTo
 rw [List.any_map]
 rfl
theorem starEach_len : ∀ {es : List Expr} {cs : List Vc}, PVs X W es cs -> (starEach es X.env).any (·.1) = false
 | _, _, .nil => rfl
 | _, _, .cons _ hs t => by
  rw [hs, List.any_cons, starEach_len t]
  rfl
theorem pv_cal {BN : List String} {GL : List (String × D)} {KB : List KbE} {Gf : Gm} {f : String} {es : List Expr} {cs : List Vc} (hcalm : X.calm = true) (ok : Ok X W BN GL KB Gf) (hg : Gl X (T f)) (hdb : (T f == ("__debug__" : Str)) = false) (h : PVs X W es cs) : PV X W (.Call (.Name (T f) p) es [] pos) (calC Gf f cs) := by
 refine ⟨fun pins s σ H Q I q => ?_⟩
 obtain ⟨L, G, F, e, r, a⟩ := q
 cases hf : Gf.fn f with
 | none =>
  unfold calC at a
  rw [hf] at a
  exact a.elim
 | some z =>
  obtain ⟨ms, φ⟩ := z
  obtain ⟨k, ad, hr, hm, hk, _, fd, ps, dds, dvs, hb, hdv, Fn⟩ := ok.fns hcalm f ms φ hf
  have a : After X W L G F σ (ROk X.K) Q ((vNs cs e).bind fun rs e1 => callD Gf f rs e1) := by
   unfold calC at a
   rw [hf] at a
   exact a
  refine wpAny_Call_Name_kw (ld_glob I hg hm ?_ hdb)
  cases h with
  | nil =>
   have a : After X W L G F σ (ROk X.K) Q (callD Gf f [] e) := a
   exact PySem.W.callWith_K0 I.kIn hk (run_g (us := []) Fn hr ok.gd hb hdv ok.tk I .nil (call_sp r .nil hf a))
  | cons h hs t =>
   have PAh := pa_ns (.cons h hs t)
   refine PySem.W.callWith_K (h₀ := X.base) I.ok.mod.kin hk (thn (PAh.run pos pins s σ H _ I ⟨L, G, F, e, r, After.bind (P1 := RsOk X.K) a⟩) fun us s1 z => ?_) hs (by rw [backTo_any]; exact starEach_len t)
   obtain ⟨vs, H1, I1, rv, F1, e1, rs, r1, st1, p1, a1⟩ := z
   exact ⟨I1.kIn, run_g Fn hr ok.gd hb hdv ok.tk I1 rv (call_sp r1 p1 hf a1)⟩
end
end Ev
namespace Ev
open PySem PySem.Spec PyProof.Rows L2
def IteT (K : PySem.W.Frag) (a : Addr) : It where
 go := fun i H => ∃ (xs : List V) (x : V), SqT K H a xs /\ xs[i]? = some x
 yld := fun i H v H' => ∃ T x, v = .ref T /\ H T = none /\ H' = upd H T (.tup [.int (i : Nat), x]) /\ ∀ xs, SqT K H a xs -> xs[i]? = some x
 stop := fun i H => ∃ xs : List V, SqT K H a xs /\ xs.length = i
def iEnumA (K : PySem.W.Frag) (ta : TA) : TI := fun σ H R => ta σ H fun vs H1 => ∃ a xs, vs = [.ref a] /\ ((SqL K H1 a xs /\ R (Ite K a) H1) \/ (SqT K H1 a xs /\ R (IteT K a) H1))
end Ev
namespace Ev
open PySem PySem.Spec PyProof.Rows L2
section
variable {X : Cx} {W : WX} {ea eb ec : Expr} {ca cb cc : Vc} {ta tb : Env -> Res Bool} {pos p p2 : Pos} {rest : List Expr}
theorem bol_v {K : PySem.W.Frag} {F H : Hp} {x : V} {d : D} {k : Bool} (h : Ar K F H x d) (hk : bolD d = some k) : x = .bl k := by
 cases d <;> simp only [bolD, reduceCtorEq] at hk
 cases hk
 exact ar_bool h
theorem pv_one {op : BoolOp} (h : PV X W ea ca) : PV X W (.BoolOp op [ea] pos) ca := pe_one h
theorem pv_and (ha : PV X W ea ca) (hb : PV X W (.BoolOp .And (eb :: rest) pos) cb) : PV X W (.BoolOp .And (ea :: eb :: rest) pos) (andC ca cb) :=
 pe_imp (pe_and (pv_d ha) hb) fun σ H Q q => by
  obtain ⟨L, G, F, e, r, a⟩ := q
  refine ⟨L, G, F, e, r, (After.bind (P1 := AOk X.K) a).mono fun x H1 z => ?_⟩
  obtain ⟨F1, e1, d, r1, st1, p1, a1⟩ := z
  obtain ⟨k, hk, a2⟩ := a1.ofO
  refine ⟨k, bol_v p1 hk, ?_⟩
  cases k with
  | true =>
   rw [if_pos rfl] at a2 ⊢
   exact ⟨L, G, F1, e1, r1, a2⟩
  | false =>
   rw [if_neg Bool.false_ne_true] at a2 ⊢
   exact a2 (.bl false) F1 H1 r1 (Step.refl G F1) (.bl false)
abbrev PBW (X : Cx) (W : WX) (e : Expr) (t : Env -> Res Bool) : Prop := PW X e (Tr X W t BOk)
theorem pw_a1 (h : PB X W ea ta) : PBW X W (.BoolOp .And [ea] pos) ta := pw_and1 h
theorem pw_o1 (h : PB X W ea ta) : PBW X W (.BoolOp .Or [ea] pos) ta := pw_or1 h
theorem pbw_and (ha : PB X W ea ta) (hb : PBW X W (.BoolOp .And (eb :: rest) pos) tb) : PBW X W (.BoolOp .And (ea :: eb :: rest) pos) (andT ta tb) :=
 pw_imp (L2.pw_and ha hb) fun σ H Q q => by
  obtain ⟨L, G, F, e, r, a⟩ := q
  refine ⟨L, G, F, e, r, (After.bind (P1 := BOk) a).mono fun x H1 z => ?_⟩
  obtain ⟨F1, e1, k, r1, st1, p1, a1⟩ := z
  cases p1
  cases x with
  | true =>
   dsimp only at a1
   rw [if_pos rfl] at a1 ⊢
   exact ⟨L, G, F1, e1, r1, a1⟩
  | false =>
   dsimp only at a1
   rw [if_neg Bool.false_ne_true] at a1 ⊢
   exact a1 false F1 H1 r1 (Step.refl G F1) rfl
theorem pv_ite (hc : PB X W ec ta) (ha : PV X W ea ca) (hb : PV X W eb cb) : PV X W (.IfExp ec ea eb pos) (iteC ta ca cb) :=
 pe_imp (pe_ifExp hc ha hb) fun σ H Q q => by
  obtain ⟨L, G, F, e, r, a⟩ := q
  refine ⟨L, G, F, e, r, (After.bind (P1 := BOk) a).mono fun x H1 z => ?_⟩
  obtain ⟨F1, e1, k, r1, st1, p1, a1⟩ := z
  cases p1
  cases x with
  | true =>
   dsimp only at a1
   rw [if_pos rfl] at a1 ⊢
   exact ⟨L, G, F1, e1, r1, a1⟩
  | false =>
   dsimp only at a1
   rw [if_neg Bool.false_ne_true] at a1 ⊢
   exact ⟨L, G, F1, e1, r1, a1⟩
def rIxD (X : Cx) : R2 := fun x y H Q => ∃ F d d' z, Same F H /\ Ar X.K F H x d /\ Ar X.K F H y d' /\ iop d d' = some z /\ ∀ w, Dp X.K F w z -> Q w H
theorem ixr_of : IxR X (rIxD X) := fun value slice pins s σ H x y v u Q I rx ry q hs => by
 obtain ⟨F, d, d', z, fh, h1, h2, h3, h4⟩ := q
 exact ix_ok value slice I fh rx ry h1 h2 h3 h4 hs
theorem pv_idx (ha : PV X W ea ca) (hb : PV X W eb cb) (hs : PlainIx eb) : PV X W (.Subscript ea eb pos) (idxC ca cb) :=
 pe_imp (pe_ix ixr_of (pv_n ha) (pv_n hb) hs) fun σ H Q q => two_tr (P := ROk X.K) (Q := Q) (fun L G F H e x y d d' r hx hy a => by
  obtain ⟨z, hz, a1⟩ := a.ofO
  exact ⟨F, d, d', z, r.fh, hx, hy, hz, fun w hw => a1 w F H r (Step.refl G F) hw⟩) q
theorem pv_neg (ha : PV X W ea ca) : PV X W (.UnaryOp .USub ea pos) (negC ca) :=
 pe_imp (pe_un un_neg (pv_d ha)) fun σ H Q q => by
  obtain ⟨L, G, F, e, r, a⟩ := q
  refine ⟨L, G, F, e, r, (After.bind (P1 := AOk X.K) a).mono fun x H1 z => ?_⟩
  obtain ⟨F1, e1, d, r1, st1, p1, a1⟩ := z
  cases d <;> first | exact a1.elim | skip
  rename_i i
  exact ⟨i, ar_int p1, a1 (.int (-i)) F1 H1 r1 (Step.refl G F1) (.int _)⟩
inductive POs (X : Cx) (W : WX) : Option Expr -> Option Vc -> Prop where
 | none : POs X W none none
 | some {e : Expr} {c : Vc} : PV X W e c -> POs X W (some e) (some c)
def OOk : Rl (Option Int) (Option Int) := fun _ _ _ _ _ a b => a = b
theorem po_of {lo : Option Expr} {c : Option Vc} (h : POs X W lo c) : PO X lo (Tr X W (optC c) OOk) := by
 cases h with
 | none =>
  refine ⟨fun pins s σ H Q I q => po_none.run pins s σ H Q I ?_⟩
  obtain ⟨L, G, F, e, r, a⟩ := q
  exact a none F H r (Step.refl G F) rfl
 | some h =>
  refine ⟨fun pins s σ H Q I q => (po_some (pv_d h)).run pins s σ H Q I ?_⟩
  obtain ⟨L, G, F, e, r, a⟩ := q
  refine ⟨L, G, F, e, r, (After.bind (P1 := AOk X.K) a).mono fun x H1 z => ?_⟩
  obtain ⟨F1, e1, d, r1, st1, p1, a1⟩ := z
  obtain ⟨i, hi, a2⟩ := a1.ofO
  refine ⟨i, ?_, a2 (some i) F1 H1 r1 (Step.refl G F1) rfl⟩
  cases d <;> simp only [intD, reduceCtorEq] at hi
  cases hi
  exact ar_int p1
def rSlD (X : Cx) : V -> Option Int -> Option Int -> Hp -> VK -> Prop := fun x lo hi H Q => ∃ F d z, Same F H /\ Ar X.K F H x d /\ sop d lo hi = some z /\ ∀ nv, NVOk X.K F nv z -> NVQ nv H Q
theorem slr_of : SlR X (rSlD X) := fun pins s σ H x v vl vu lo hi sl Q I rx hs pl pu q => by
 obtain ⟨F, d, z, fh, h1, h2, h3⟩ := q
 exact sl_ok I fh rx h1 hs pl pu h2 h3
theorem pv_sli {lo hi : Option Expr} {cl ch : Option Vc} (ha : PV X W ea ca) (hl : POs X W lo cl) (hh : POs X W hi ch) : PV X W (.Subscript ea (.Slice lo hi none p2) pos) (sliC ca cl ch) :=
 pe_imp (pe_slice slr_of (pv_n ha) (po_of hl) (po_of hh)) fun σ H Q q => by
  obtain ⟨L, G, F, e, r, a⟩ := q
  refine ⟨L, G, F, e, r, (After.bind (P1 := RNk X.K) a).mono fun x H1 z => ?_⟩
  obtain ⟨F1, e1, rr, r1, st1, p1, a1⟩ := z
  refine ⟨L, G, F1, e1, r1, (After.bind (P1 := OOk) a1).mono fun lo' H2 z => ?_⟩
  obtain ⟨F2, e2, o, r2, st2, p2, a2⟩ := z
  cases p2
  refine ⟨L, G, F2, e2, r2, (After.bind (P1 := OOk) a2).mono fun hi' H3 z => ?_⟩
  obtain ⟨F3, e3, o', r3, st3, p3, a3⟩ := z
  cases p3
  obtain ⟨d, hd, a4⟩ := a3.ofO
  obtain ⟨w, hw, a5⟩ := a4.ofO'
  exact ⟨F3, d, w, r3.fh, rd_ok r3 (p1.later (st2.s.trans st3.s)).1 hd, hw, fun nv hnv => nv_state r3 hnv fun v F' H' r' st p => a5 v F' H' r' st p⟩
theorem ars_of {L : Fr} {G F H : Hp} {σ : L2.St} {e : Env} (rl : Rel X.K L G F H σ e) : ∀ {rs : List R} {vs : List V} {ds : List D}, RsOk X.K G F H σ e rs vs -> rdAll e rs = some ds -> Ars X.K F H vs ds
 | [], _, _, .nil, q => by cases q; exact .nil
 | r :: rs, _, ds, .cons h t, q => by
  unfold rdAll at q
  cases hd : rd e r with
  | none => rw [hd] at q; cases q
  | some d =>
   rw [hd] at q
   simp only [Option.bind_some] at q
   cases hr : rdAll e rs with
   | none => rw [hr] at q; cases q
   | some ds' =>
    rw [hr] at q
    cases q
    exact .cons (rd_ok rl h.1 hd) (ars_of rl t hr)
def rBiD (X : Cx) (f : Bi) : List V -> Hp -> VK -> Prop := fun xs H Q => ∃ F ds z, Same F H /\ Ars X.K F H xs ds /\ bi f ds = some z /\ ∀ nv, NVOk X.K F nv z -> NVQ nv H Q
theorem callr_of {f : Bi} (h : BiD X f) : CallR X (nameOf f) (rBiD X f) := fun pins s σ H xs us Q I rs q => by
 obtain ⟨F, ds, z, fh, h1, h2, h3⟩ := q
 exact h pins s σ H F xs ds z us Q I fh rs h1 h2 h3
theorem bif_tr {f : Bi} {cs : List Vc} {σ : L2.St} {H : Hp} {Q : VK} (q : Tr X W (bifC f cs) (ROk X.K) σ H Q) : tCB (rBiD X f) (Tr X W (vNs cs) (RsOk X.K)) σ H Q := by
 obtain ⟨L, G, F, e, r, a⟩ := q
 refine ⟨L, G, F, e, r, (After.bind (P1 := RsOk X.K) a).mono fun vs H1 z => ?_⟩
 obtain ⟨F1, e1, rs, r1, st1, p1, a1⟩ := z
 obtain ⟨ds, hd, a2⟩ := a1.ofO
 obtain ⟨w, hw, a3⟩ := a2.ofO'
 exact ⟨F1, ds, w, r1.fh, ars_of r1 p1 hd, hw, fun nv hnv => nv_state r1 hnv fun v F' H' r' st p => a3 v F' H' r' st p⟩
theorem pv_biB {f : Bi} {id : String} {x : Str} {es : List Expr} {cs : List Vc} (hf : nameOf f = .builtin id) (hb : BiD X f) (hg : Gl X x) (hm : X.mg x = none) (hv : bootBuiltins x = some (.builtin id)) (h : PVs X W es cs) (hne : es ≠ []) (hn : x ≠ "__name__") (hdb : (x == ("__debug__" : Str)) = false) :
  PV X W (.Call (.Name x p) es [] pos) (bifC f cs) := by
 cases h with
 | nil => exact absurd rfl hne
 | cons h hs t => exact pe_imp (pe_callB (hf ▸ callr_of hb) hg hm hv (pa_ns (.cons h hs t)) hn hdb hs (by rw [backTo_any]; exact starEach_len t)) fun σ H Q q => bif_tr q
theorem pv_biT {f : Bi} {id : String} {x : Str} {es : List Expr} {cs : List Vc} (hf : nameOf f = .type id) (hb : BiD X f) (hg : Gl X x) (hm : X.mg x = none) (hv : bootBuiltins x = some (.type id)) (h : PVs X W es cs) (hne : es ≠ []) (hn : x ≠ "__name__") (hdb : (x == ("__debug__" : Str)) = false) :
  PV X W (.Call (.Name x p) es [] pos) (bifC f cs) := by
 cases h with
 | nil => exact absurd rfl hne
 | cons h hs t => exact pe_imp (pe_callTy (hf ▸ callr_of hb) hg hm hv (pa_ns (.cons h hs t)) hn hdb hs (by rw [backTo_any]; exact starEach_len t)) fun σ H Q q => bif_tr q
variable {tg ei : Expr} {ci : Vc}
def isTupE : Expr -> Bool
 | .Tuple _ _ _ => true
 | _ => false
def YOk (K : PySem.W.Frag) (F H : Hp) (pr : Bool) (x : V) (d : D) : Prop := Dp K F x d \/ (pr = true /\ ∃ T xs ds, x = .ref T /\ d = .tuple ds /\ SqT K H T xs /\ DpAll K F xs ds)
def SrcR (X : Cx) (pr : Bool) : Rl Src It := fun G F H σ e s J => match s with
 | .vals ds => ∀ (L' : Fr) (G' F' H' : Hp) (σ' : L2.St) (e' : Env), Same F F' -> Rel X.K L' G' F' H' σ' e' -> Same G G' -> (∀ k, k < ds.length -> J.go k H') /\ J.stop ds.length H' /\
   ∀ k x H3, J.yld k H' x H3 -> ∀ d, ds[k]? = some d -> ∃ F3, Rel X.K L' G' F3 H3 σ' e' /\ Step G' F' F3 /\ YOk X.K F3 H3 pr x d
 | .slot i en => ∃ a, sg σ i = some (.ref a) /\ ∀ (L' : Fr) (G' F' H' : Hp) (σ' : L2.St) (e' : Env) (k : Nat), L'.l i = some a -> Rel X.K L' G' F' H' σ' e' -> ∀ o, itemAt i en k e' = some o -> match o with
   | none => J.stop k H'
   | some d => J.go k H' /\ ∀ x H3, J.yld k H' x H3 -> ∃ F3, Rel X.K L' G' F3 H3 σ' e' /\ Step G' F' F3 /\ YOk X.K F3 H3 pr x d
abbrev PIs (X : Cx) (W : WX) (tg e : Expr) (w : Env -> Res Src) : Prop := PI X tg e (Tr X W w (SrcR X (isTupE tg)))
theorem pi_imp {t t' : TI} (h : PI X tg ei t) (k : ∀ σ H Q, t' σ H Q -> t σ H Q) : PI X tg ei t' := ⟨fun pins s σ H Q I q => h.run pins s σ H Q I (k σ H Q q)⟩
theorem SqT.mono {K : PySem.W.Frag} {F F' : Hp} {a : Addr} {xs : List V} (s : Same F F') (h : SqT K F a xs) : SqT K F' a xs := by
 rcases h with (h | ⟨o, h⟩) | h
 . exact .inl (.inl (s _ _ h))
 . exact .inl (.inr ⟨o, s _ _ h⟩)
 . exact .inr h
theorem src_list {pr : Bool} {L : Fr} {G F H : Hp} {σ : L2.St} {e : Env} {a : Addr} {xs : List V} {ds : List D} (h : ∀ (L' : Fr) (G' F' H' : Hp) (σ' : L2.St) (e' : Env), Same F F' -> Rel X.K L' G' F' H' σ' e' -> Same G G' -> SqL X.K H' a xs) (hd : DpAll X.K F xs ds) : SrcR X pr G F H σ e (.vals ds) (Itl X.K a) := by
 intro L' G' F' H' σ' e' st r sg'
 have q := h L' G' F' H' σ' e' st r sg'
 have hl := dps_len hd
 refine ⟨fun k hk => ⟨xs, xs[k]'(by omega), q, by simp [show k < xs.length by omega]⟩, ⟨xs, q, by omega⟩, fun k x H3 y d hdk => ?_⟩
 obtain ⟨rfl, y⟩ := y
 obtain ⟨v, h1, h2⟩ := dps_get hd hdk
 have e1 := y xs q
 rw [h1] at e1
 cases e1
 exact ⟨F', r, Step.refl G' F', .inl (dp_mono st h2)⟩
theorem src_tup {pr : Bool} {G F H : Hp} {σ : L2.St} {e : Env} {a : Addr} {xs : List V} {ds : List D} (h : SqT X.K F a xs) (hd : DpAll X.K F xs ds) : SrcR X pr G F H σ e (.vals ds) (Itt X.K a) := by
 intro L' G' F' H' σ' e' st r sg'
 have q := SqT.mono (st.trans r.fh) h
 have hl := dps_len hd
 refine ⟨fun k hk => ⟨xs, xs[k]'(by omega), q, by simp [show k < xs.length by omega]⟩, ⟨xs, q, by omega⟩, fun k x H3 y d hdk => ?_⟩
 obtain ⟨rfl, y⟩ := y
 obtain ⟨v, h1, h2⟩ := dps_get hd hdk
 have e1 := y xs q
 rw [h1] at e1
 cases e1
 exact ⟨F', r, Step.refl G' F', .inl (dp_mono st h2)⟩
theorem src_str {pr : Bool} {G F H : Hp} {σ : L2.St} {e : Env} {z : Str} : SrcR X pr G F H σ e (.vals (z.cps.toList.map fun c => PyData.str ⟨#[c]⟩)) (Its z) := by
 intro L' G' F' H' σ' e' st r sg'
 refine ⟨fun k hk => by simpa [Its] using hk, by simp [Its], fun k x H3 y d hdk => ?_⟩
 obtain ⟨rfl, c, hc, rfl⟩ := y
 refine ⟨F', r, Step.refl G' F', ?_⟩
 rw [List.getElem?_map, Array.getElem?_toList, hc] at hdk
 cases hdk
 exact .inl (.str _)
theorem src_range {pr : Bool} {G F H : Hp} {σ : L2.St} {e : Env} {lo : Int} {n : Nat} : SrcR X pr G F H σ e (.vals (rngD lo n)) (Itr lo n) := by
 intro L' G' F' H' σ' e' st r sg'
 have hl : (rngD lo n).length = n := by simp [rngD]
 refine ⟨fun k hk => by rw [hl] at hk; exact hk, by rw [hl]; exact Nat.le_refl n, fun k x H3 y d hdk => ?_⟩
 obtain ⟨rfl, rfl⟩ := y
 refine ⟨F', r, Step.refl G' F', ?_⟩
 unfold rngD at hdk
 rw [List.getElem?_map] at hdk
 cases hk : (List.range n)[k]? with
 | none => rw [hk] at hdk; cases hdk
 | some j =>
  rw [hk] at hdk
  cases hdk
  obtain ⟨h1, h2⟩ := List.getElem?_eq_some_iff.mp hk
  rw [List.getElem_range] at h2
  subst h2
  exact .inl (.int _)
theorem src_slot {pr : Bool} {L : Fr} {G F H : Hp} {σ : L2.St} {e : Env} {i : Nat} {a : Addr} (h : sg σ i = some (.ref a)) : SrcR X pr G F H σ e (.slot i false) (Itl X.K a) := by
 refine ⟨a, h, fun L' G' F' H' σ' e' k hL r o ho => ?_⟩
 unfold itemAt at ho
 split at ho
 . rename_i t ds he
   cases ho
   obtain ⟨b, e1, ⟨q1, q2, ob, q3, q4⟩, q5⟩ := r.sl i _ he
   have eb : b = a := by
    have := q5 (.inr rfl)
    rw [hL] at this
    exact (Option.some.inj this).symm
   subst eb
   cases ob <;> first | exact (show False from q4).elim | skip
   rename_i xs
   have hq : SqL X.K H' b xs := SqL.of q3
   have hl := dps_len (show DpAll X.K F' xs ds from q4)
   rw [if_neg Bool.false_ne_true]
   cases hd : ds[k]? with
   | none =>
    have : ds.length <= k := List.getElem?_eq_none_iff.mp hd
    exact ⟨xs, hq, by omega⟩
   | some d =>
    obtain ⟨v, h1, h2⟩ := dps_get (show DpAll X.K F' xs ds from q4) hd
    refine ⟨⟨xs, v, hq, h1⟩, fun x H3 y => ?_⟩
    obtain ⟨rfl, y⟩ := y
    have e2 := y xs hq
    rw [h1] at e2
    cases e2
    exact ⟨F', r, Step.refl G' F', .inl h2⟩
 . cases ho
theorem pi_val (h : PV X W ei ci) : PIs X W tg ei (wOf ci) := by
 refine ⟨fun pins s σ H R I q => ?_⟩
 obtain ⟨L, G, F, e, r, a⟩ := q
 have a : After X W L G F σ (SrcR X (isTupE tg)) R ((vN ci e).bind fun r e1 => srcOf false e1 r) := a
 cases hv : vN ci e with
 | bad => rw [hv] at a; exact a.elim
 | exc x e2 =>
  rw [hv] at a
  exact (pi_list (pv_n h)).run pins s σ H R I ⟨L, G, F, e, r, by rw [hv]; exact a⟩
 | ok rr e1 =>
  rw [hv, bind_ok] at a
  cases rr with
  | fresh c => exact a.elim
  | val d =>
   dsimp only [srcOf] at a
   rw [if_neg (by simp)] at a
   obtain ⟨ds, hds, a1⟩ := a.ofO
   cases d <;> simp only [itemsD, reduceCtorEq, Option.some.injEq] at hds
   . rename_i z
     subst hds
     refine (pi_str (pv_n h)).run pins s σ H R I ⟨L, G, F, e, r, ?_⟩
     rw [hv]
     intro v F' H' r' st p
     have p1 : Dp X.K F' v (.str z) := p.1
     cases p1
     exact ⟨z, rfl, a1 (Its z) F' H' r' st src_str⟩
   . subst hds
     refine (pi_list (pv_n h)).run pins s σ H R I ⟨L, G, F, e, r, ?_⟩
     rw [hv]
     intro v F' H' r' st p
     cases (show Dp X.K F' v _ from p.1) with
     | lst h1 h2 => exact ⟨_, rfl, ⟨_, r'.fh.seq h1⟩, a1 _ F' H' r' st (src_list (L := L) (fun L2 G2 F2 H2 σ2 e2 st2 r2 _ => (st2.trans r2.fh).seq h1) h2)⟩
   . subst hds
     refine (pi_tup (pv_n h)).run pins s σ H R I ⟨L, G, F, e, r, ?_⟩
     rw [hv]
     intro v F' H' r' st p
     cases (show Dp X.K F' v _ from p.1) with
     | tup h1 h2 => exact ⟨_, rfl, ⟨_, SqT.mono r'.fh h1⟩, a1 _ F' H' r' st (src_tup h1 h2)⟩
  | slot i =>
   refine (pi_list (pv_n h)).run pins s σ H R I ⟨L, G, F, e, r, ?_⟩
   rw [hv]
   intro v F' H' r' st p
   have hi : sg σ i = some v := p.1
   dsimp only [srcOf] at a
   split at a
   . rename_i ds he
     rw [if_neg Bool.false_ne_true] at a
     obtain ⟨w, e1', br⟩ := r'.sl i _ he
     rw [hi] at e1'; cases e1'
     rcases br with br | ⟨b, xs, ds', rfl, ed, b1, b2⟩
     . cases br with
       | lst h1 h2 => exact ⟨_, rfl, ⟨_, r'.fh.seq h1⟩, a _ F' H' r' st (src_list (L := L) (fun L2 G2 F2 H2 σ2 e2 st2 r2 _ => (st2.trans r2.fh).seq h1) h2)⟩
     . cases ed
       refine ⟨b, rfl, ⟨xs, (r'.bg.trans r'.gh).seq b1⟩, a _ F' H' r' st (src_list (L := L) (fun L2 G2 F2 H2 σ2 e2 st2 r2 gg => ?_) b2)⟩
       exact ((r'.bg.trans gg).trans r2.gh).seq b1
   . rename_i t k ds he
     obtain ⟨b, e1', ⟨q1, q2, o, q3, q4⟩, q5⟩ := r'.sl i _ he
     rw [hi] at e1'; cases e1'
     cases o <;> first | exact (show False from q4).elim | skip
     exact ⟨b, rfl, ⟨_, SqL.of q3⟩, a _ F' H' r' st (src_slot (L := L) hi)⟩
   . exact a.elim
variable {elts : List Expr} {kk : Nat} {tpos : Pos}
theorem pi_r1 (hg : Gl X "range") (hm : X.mg "range" = none) (h : PV X W ei ci) (hs : starEach [ei] X.env = [(false, eval ei X.env)]) : PIs X W tg (.Call (.Name "range" p) [ei] [] pos) (rg1W ci) := by
 refine pi_imp (pi_range1 hg hm (pa_cons (pv_d h) pa_nil hs) hs) fun σ H Q q => ?_
 obtain ⟨L, G, F, e, r, a⟩ := q
 refine ⟨L, G, F, e, r, (After.bind (P1 := AOk X.K) a).mono fun x H1 z => ?_⟩
 obtain ⟨F1, e1, d, r1, st1, p1, a1⟩ := z
 obtain ⟨j, hj, a2⟩ := a1.ofO
 split at a2
 . rename_i hb
   cases d <;> simp only [intD, reduceCtorEq] at hj
   cases hj
   rw [ar_int p1]
   have hb1 : -(16777216 : Int) <= j := hb.1
   have hb2 : j <= 16777216 := hb.2
   exact ⟨j, rfl, by omega, by omega, a2 _ F1 H1 r1 (Step.refl G F1) src_range⟩
 . exact a2.elim
end
end Ev
namespace Ev
open PySem PySem.Spec PyProof.Rows L2
section
variable {X : Cx} {W : WX}
theorem set_getD {σ : L2.St} {i j : Nat} {o : Option V} (hi : i < σ.length) : sg (σ.set i o) j = if i = j then o else sg σ j := by
 unfold sg List.getD
 by_cases h : i = j
 . subst h
   rw [if_pos rfl, List.getElem?_set_self hi]
   rfl
 . rw [if_neg h, List.getElem?_set_ne h]
theorem Rel.setFz {L : Fr} {G F H : Hp} {σ : L2.St} {e : Env} {i : Nat} {v : V} {d : D} (r : Rel X.K L G F H σ e) (hi : i < e.length) (h : Dp X.K F v d) : Rel X.K L G F H (σ.set i (some v)) (e.set i (.fz d)) := by
 have hs : i < σ.length := by rw [r.len]; exact hi
 have mm : ∀ {j : Nat} {x : Addr}, hasF H (σ.set i (some v)) (e.set i (.fz d)) j x -> i ≠ j /\ hasF H σ e j x := fun h => hasF_set (fun _ _ _ z => by cases z) hi (fun j hj => by rw [set_getD hs, if_neg hj]) h
 refine ⟨r.fh, r.gh, by rw [List.length_set, List.length_set]; exact r.len, fun j s hj => ?_, fun j k a hjk m1 m2 => r.ap j k a hjk (mm m1).2 (mm m2).2, r.bg, r.td, r.nw⟩
 rw [set_getD hs]
 by_cases hij : i = j
 . subst hij
   rw [List.getElem?_set_self hi] at hj
   cases hj
   rw [if_pos rfl]
   exact ⟨v, rfl, h⟩
 . rw [List.getElem?_set_ne hij] at hj
   rw [if_neg hij]
   exact r.sl j s hj
theorem hasF_flag {H : Hp} {σ : L2.St} {e : Env} {i : Nat} {t k t' k' : Bool} {c : C} (he : e[i]? = some (.mu t k c)) {j : Nat} {x : Addr} (h : hasF H σ (e.set i (.mu t' k' c)) j x) : hasF H σ e j x := by
 obtain ⟨t2, k2, c2, a, h1, h2, h3⟩ := h
 by_cases hij : i = j
 . subst hij
   rw [List.getElem?_set_self (List.getElem?_eq_some_iff.mp he).1] at h1
   cases h1
   exact ⟨t, k, c, a, he, h2, h3⟩
 . rw [List.getElem?_set_ne hij] at h1
   exact ⟨t2, k2, c2, a, h1, h2, h3⟩
def setAll : List Nat -> List V -> L2.St -> L2.St
 | i :: is, v :: vs, σ => setAll is vs (σ.set i (some v))
 | _, _, σ => σ
theorem putAll_cons {i : Nat} {is : List Nat} {d : D} {ds : List D} {e e1 : Env} (h : putAll (i :: is) (d :: ds) e = some e1) : i < e.length /\ putAll is ds (e.set i (.fz d)) = some e1 := by
 unfold putAll at h
 split at h
 . cases h
 . cases h
 . rename_i q
   exact ⟨(List.getElem?_eq_some_iff.mp q).1, h⟩
 . cases h
theorem putAll_state {L : Fr} {G F H : Hp} : ∀ {is : List Nat} {ds : List D} {vs : List V} {σ : L2.St} {e e1 : Env}, Rel X.K L G F H σ e -> DpAll X.K F vs ds -> putAll is ds e = some e1 -> Rel X.K L G F H (setAll is vs σ) e1 /\ vs.length = is.length
 | [], [], vs, σ, e, e1, r, h, q => by
  cases q
  cases h
  exact ⟨r, rfl⟩
 | i :: is, d :: ds, vs, σ, e, e1, r, h, q => by
  cases h with
  | cons h t =>
   obtain ⟨hi, q⟩ := putAll_cons q
   obtain ⟨r2, l2⟩ := putAll_state (r.setFz hi h) t q
   exact ⟨r2, by rw [List.length_cons, l2]; rfl⟩
 | [], _ :: _, vs, σ, e, e1, r, h, q => by cases q
 | _ :: _, [], vs, σ, e, e1, r, h, q => by cases q
def gIs : List Nat -> TGs
 | [] => gNil
 | i :: is => gCons (gName i) (gIs is)
theorem gIs_set : ∀ {is : List Nat} {vs : List V} {σ : L2.St} {H : Hp} {Q : L2.St -> Hp -> Prop}, vs.length = is.length -> Q (setAll is vs σ) H -> gIs is vs σ H Q
 | [], vs, σ, H, Q, h, q => ⟨List.length_eq_zero_iff.mp h, by
   cases vs with
   | nil => exact q
   | cons _ _ => cases h⟩
 | i :: is, vs, σ, H, Q, h, q => by
  cases vs with
  | nil => cases h
  | cons v vs => exact ⟨v, vs, rfl, gIs_set (by simpa using h) q⟩
def gEi (K : PySem.W.Frag) (n : Nat) (t : TGs) : TG := fun v σ H Q => gTup K n t v σ H Q \/ gLst K n t v σ H Q
theorem pg_ei {es : List Expr} {k : Nat} {t : TGs} {n : Nat} {pos : Pos} (hc : X.calm = true) (h : PGs X es t) (hn : (assignEach es X.env).length = n := by rfl) (hst : (assignEach es X.env).findIdx? (·.1) = none := by rfl) : PG X (.Tuple es k pos) (gEi X.K n t) :=
 ⟨fun pins s σ H v u Q I r hw => by
  rcases hw with hw | hw
  . exact (pg_tup hc h hn hst).run pins s σ H v u Q I r hw
  . exact (pg_lst hc h hn hst).run pins s σ H v u Q I r hw⟩
def gOf (K : PySem.W.Frag) (tg : List Nat) : Bool -> TG
 | true => gEi K tg.length (gIs tg)
 | false => match tg with
  | [i] => gName i
  | _ => fun _ _ _ _ => False
theorem tg_state {L : Fr} {G F H : Hp} {σ : L2.St} {e e1 : Env} {tg : List Nat} {pair : Bool} {v : V} {d : D} {Q : L2.St -> Hp -> Prop} (r : Rel X.K L G F H σ e) (h : YOk X.K F H pair v d) (q : putT tg pair d e = some e1)
  (k : ∀ vs, Rel X.K L G F H (setAll tg vs σ) e1 -> Q (setAll tg vs σ) H) : gOf X.K tg pair v σ H Q := by
 cases pair with
 | false =>
  unfold putT at q
  split at q
  . rename_i i d' h1 h2
    obtain ⟨r2, _⟩ := putAll_state (vs := [v]) r (.cons (by rcases h with h | ⟨z, _⟩; exact h; cases z) .nil) q
    exact k [v] r2
  . rename_i h1
    cases h1
  . rename_i h1
    cases h1
  . cases q
 | true =>
  unfold putT at q
  split at q
  . rename_i h1
    cases h1
  . rename_i is ds h1
    split at q
    . rename_i hl
      rcases h with h | ⟨_, a, xs, ds', rfl, ed, h1, h2⟩
      . cases h with
        | @tup a xs _ h1 h2 =>
         obtain ⟨r2, l2⟩ := putAll_state r h2 q
         exact .inl ⟨a, xs, rfl, SqT.mono r.fh h1, l2, gIs_set l2 (k xs r2)⟩
      . cases ed
        obtain ⟨r2, l2⟩ := putAll_state r h2 q
        exact .inl ⟨a, xs, rfl, h1, l2, gIs_set l2 (k xs r2)⟩
    . cases q
  . rename_i is ds h1
    split at q
    . rename_i hl
      rcases h with h | ⟨_, a, xs, ds', rfl, ed, h1, h2⟩
      . cases h with
        | @lst a xs _ h1 h2 =>
         obtain ⟨r2, l2⟩ := putAll_state r h2 q
         exact .inr ⟨a, xs, rfl, r.fh.seq h1, l2, gIs_set l2 (k xs r2)⟩
      . cases ed
    . cases q
  . cases q
theorem wipeE_set : ∀ {is : List Nat} {e e1 : Env}, wipeE e is = some e1 -> e1.length = e.length /\ (∀ i ∈ is, e1[i]? = some .un /\ ¬ isMu e i) /\ ∀ j, j ∉ is -> e1[j]? = e[j]?
 | [], e, e1, h => by
  cases h
  exact ⟨rfl, fun i hi => absurd hi (by simp), fun _ _ => rfl⟩
 | i :: is, e, e1, h => by
  unfold wipeE at h
  split at h
  . cases h
  . rename_i s hs hn
    have hi : i < e.length := (List.getElem?_eq_some_iff.mp hn).1
    obtain ⟨h1, h2, h3⟩ := wipeE_set h
    have nm : ¬ isMu e i := fun ⟨t, k, c, z⟩ => by
     rw [hn] at z
     cases z
     exact hs t k c rfl
    refine ⟨by rw [h1, List.length_set], fun j hj => ?_, fun j hj => ?_⟩
    . rcases List.mem_cons.mp hj with rfl | hj
      . refine ⟨?_, nm⟩
        by_cases hm : j ∈ is
        . exact (h2 j hm).1
        . rw [h3 j hm, List.getElem?_set_self hi]
      . refine ⟨(h2 j hj).1, fun m => ?_⟩
        by_cases hij : i = j
        . subst hij; exact nm m
        . refine (h2 j hj).2 ?_
          obtain ⟨t, k, c, z⟩ := m
          exact ⟨t, k, c, by rw [List.getElem?_set_ne hij]; exact z⟩
    . rw [h3 j fun z => hj (List.mem_cons_of_mem _ z), List.getElem?_set_ne]
      rintro rfl
      exact hj List.mem_cons_self
  . cases h
theorem wipe_get {σ : L2.St} : ∀ {is : List Nat} {j : Nat}, j ∉ is -> (wipe σ is)[j]? = σ[j]?
 | [], _, _ => rfl
 | i :: is, j, h => by
  unfold wipe
  rw [List.getElem?_set_ne (fun z => h (by rw [z]; exact List.mem_cons_self)), wipe_get fun z => h (List.mem_cons_of_mem _ z)]
theorem wipe_in {σ : L2.St} : ∀ {is : List Nat} {j : Nat}, j ∈ is -> j < σ.length -> (wipe σ is)[j]? = some none
 | i :: is, j, h, hj => by
  unfold wipe
  by_cases hij : i = j
  . subst hij
    rw [List.getElem?_set_self (by rw [wipe_length]; exact hj)]
  . rw [List.getElem?_set_ne hij]
    rcases List.mem_cons.mp h with rfl | h
    . exact absurd rfl hij
    . exact wipe_in h hj
theorem sg_wipe {σ : L2.St} {is : List Nat} {j : Nat} (hj : j ∉ is) : sg (wipe σ is) j = sg σ j := by
 unfold sg List.getD
 rw [wipe_get hj]
theorem wipe_has {H : Hp} {σ : L2.St} {e e1 : Env} {is : List Nat} (h : wipeE e is = some e1) {j : Nat} {x : Addr} (m : hasF H (wipe σ is) e1 j x) : j ∉ is /\ hasF H σ e j x := by
 obtain ⟨h1, h2, h3⟩ := wipeE_set h
 obtain ⟨t, k, c, a, z, z2, z3⟩ := m
 by_cases hj : j ∈ is
 . rw [(h2 j hj).1] at z
   cases z
 . rw [h3 j hj] at z
   rw [sg_wipe hj] at z2
   exact ⟨hj, t, k, c, a, z, z2, z3⟩
theorem Rel.wipe {L : Fr} {G F H : Hp} {σ : L2.St} {e e1 : Env} {is : List Nat} (r : Rel X.K L G F H σ e) (h : wipeE e is = some e1) : Rel X.K L G F H (L2.wipe σ is) e1 := by
 obtain ⟨h1, h2, h3⟩ := wipeE_set h
 refine ⟨r.fh, r.gh, by rw [wipe_length, h1]; exact r.len, fun j s hj => ?_, fun j k a hjk m1 m2 => r.ap j k a hjk (wipe_has h m1).2 (wipe_has h m2).2, r.bg, r.td, r.nw⟩
 by_cases hm : j ∈ is
 . rw [(h2 j hm).1] at hj
   cases hj
   trivial
 . rw [h3 j hm] at hj
   rw [sg_wipe hm]
   exact r.sl j s hj
theorem backE_get {e₀ : Env} : ∀ {is : List Nat} {e : Env}, (backE e₀ e is).length = e.length /\ (∀ j, j ∉ is -> (backE e₀ e is)[j]? = e[j]?) /\ ∀ j ∈ is, j < e.length -> j < e₀.length -> (backE e₀ e is)[j]? = e₀[j]?
 | [], e => ⟨rfl, fun _ _ => rfl, fun j hj => absurd hj (by simp)⟩
 | i :: is, e => by
  unfold backE
  obtain ⟨h1, h2, h3⟩ := backE_get (e₀ := e₀) (is := is) (e := e.set i (e₀[i]?.getD .un))
  refine ⟨by rw [h1, List.length_set], fun j hj => ?_, fun j hj hl hl0 => ?_⟩
  . rw [h2 j fun z => hj (List.mem_cons_of_mem _ z), List.getElem?_set_ne]
    rintro rfl
    exact hj List.mem_cons_self
  . by_cases hm : j ∈ is
    . exact h3 j hm (by rw [List.length_set]; exact hl) hl0
    . rcases List.mem_cons.mp hj with rfl | hj
      . rw [h2 j hm, List.getElem?_set_self hl, List.getElem?_eq_getElem hl0]
        rfl
      . exact absurd hj hm
theorem back_has {H : Hp} {σ : L2.St} {e0 e e1 : Env} {is : List Nat} (hw : wipeE e0 is = some e1) (le : e.length = e0.length) {j : Nat} {x : Addr} (m : hasF H σ (backE e0 e is) j x) : j ∉ is /\ hasF H (wipe σ is) e j x := by
 obtain ⟨w1, w2, w3⟩ := wipeE_set hw
 obtain ⟨b1, b2, b3⟩ := backE_get (e₀ := e0) (is := is) (e := e)
 obtain ⟨t, k, c, a, z, z2, z3⟩ := m
 by_cases hj : j ∈ is
 . have hl : j < e0.length := by rw [<- w1]; exact (List.getElem?_eq_some_iff.mp (w2 j hj).1).1
   rw [b3 j hj (by omega) hl] at z
   exact absurd ⟨t, k, c, z⟩ (w2 j hj).2
 . rw [b2 j hj] at z
   exact ⟨hj, t, k, c, a, z, by rw [sg_wipe hj]; exact z2, z3⟩
theorem Rel.back {L : Fr} {G F F0 H H0 : Hp} {σ : L2.St} {e0 e e1 : Env} {is : List Nat} (r0 : Rel X.K L G F0 H0 σ e0) (hw : wipeE e0 is = some e1) (r : Rel X.K L G F H (L2.wipe σ is) e) (st : Same F0 F) (hu : ∀ i ∈ is, e[i]? = some .un) : Rel X.K L G F H σ (backE e0 e is) := by
 obtain ⟨w1, w2, w3⟩ := wipeE_set hw
 obtain ⟨b1, b2, b3⟩ := backE_get (e₀ := e0) (is := is) (e := e)
 have le : e.length = e0.length := by rw [<- r.len, wipe_length, r0.len]
 have inl : ∀ i ∈ is, i < e.length := fun i hi => (List.getElem?_eq_some_iff.mp (hu i hi)).1
 refine ⟨r.fh, r.gh, by rw [b1, le]; exact r0.len, fun j s hj => ?_, fun j k a hjk m1 m2 => r.ap j k a hjk (back_has hw le m1).2 (back_has hw le m2).2, r.bg, r.td, r.nw⟩
 by_cases hm : j ∈ is
 . rw [b3 j hm (inl j hm) (by rw [<- le]; exact inl j hm)] at hj
   have q := r0.sl j s hj
   cases s with
   | un => trivial
   | th f => exact ⟨q.1, q.2.trans st⟩
   | fns fs => obtain ⟨a', as, x1, x2, x3⟩ := q; exact ⟨a', as, x1, sqt_mono st x2, x3⟩
   | fnc f => exact q
   | bt u => obtain ⟨v, e1, q⟩ := q; exact ⟨v, e1, q.mono (Same.refl _) st⟩
   | fz d => obtain ⟨v, e1, q⟩ := q; exact ⟨v, e1, dp_mono st q⟩
   | bo d => obtain ⟨v, e1, q⟩ := q; exact ⟨v, e1, q.mono st⟩
   | xc x => obtain ⟨a, C, dd, fs, x1, x2, x3, x4⟩ := q; exact ⟨a, C, dd, fs, x1, x2, x3, fs_mono st x4⟩
   | mu t k c => exact absurd ⟨t, k, c, hj⟩ (w2 j hm).2
 . rw [b2 j hm] at hj
   rw [<- sg_wipe hm]
   exact r.sl j s hj
theorem Rel.guard {L : Fr} {G F H : Hp} {σ : L2.St} {e : Env} {D : Addr} {o : HO} (r : Rel X.K L G F H σ e) (hg : G D = none) (hD : H D = some o) (hn : ∀ i, ¬ hasF H σ e i D) (no : ∀ ps, o ≠ .tbl ps := by intro _ z; cases z) : Rel X.K L (upd G D o) F H σ e := by
 obtain ⟨s1, s2⟩ := r.slots (L' := L) (G' := upd G D o) (H' := H) (F' := F) rfl rfl (fun _ _ z => z) (Same.refl F) fun i x q => by
  obtain ⟨q1, q2, _⟩ := r.allF q
  refine ⟨q1, ?_, rfl⟩
  rw [upd_ne]
  . exact q2
  . rintro rfl
    exact hn i q
 refine ⟨r.fh, fun b x q => ?_, r.len, s1, s2, r.bg.trans (same_upd hg), r.td, r.nw.tb, r.nw.fl, fun a ps z => ?_, fun j => (r.nw.tg j).trans (same_upd hg)⟩
 . unfold upd at q
   split at q
   . rename_i h; subst h; cases q; exact hD
   . exact r.gh _ _ q
 . unfold upd at z
   split at z
   . cases z; exact no ps rfl
   . exact r.nw.gt a ps z
theorem Rel.unguard {L : Fr} {G F H : Hp} {σ : L2.St} {e : Env} {D : Addr} {o : HO} (r : Rel X.K L (upd G D o) F H σ e) (hg : G D = none) (hb : Same L.b G /\ ∀ j, Same (L.t j) G) : Rel X.K L G F H σ e /\ H D = some o /\ ∀ i, ¬ hasF H σ e i D := by
 have gs : Same G (upd G D o) := same_upd hg
 obtain ⟨s1, s2⟩ := r.slots (L' := L) (G' := G) (H' := H) (F' := F) rfl rfl (fun _ _ z => z) (Same.refl F) fun i x q => by
  obtain ⟨q1, q2, _⟩ := r.allF q
  exact ⟨q1, gs.free q2, rfl⟩
 refine ⟨⟨r.fh, gs.trans r.gh, r.len, s1, s2, hb.1, r.td, ⟨r.nw.tb, r.nw.fl, fun a ps z => r.nw.gt a ps (gs _ _ z), hb.2⟩⟩, r.gh _ _ upd_same, fun i q => ?_⟩
 obtain ⟨_, q2, _⟩ := r.allF q
 rw [upd_same] at q2
 cases q2
theorem Rel.change {L : Fr} {G F H : Hp} {σ : L2.St} {e : Env} {D : Addr} {o : HO} (r : Rel X.K L G F H σ e) (hg : G D = none) (hf : F D = none) (hn : ∀ i, ¬ hasF H σ e i D) {o0 : HO} (hD : H D = some o0) (n1 : ∀ ps, o0 ≠ .tbl ps := by intro _ z; cases z) (n2 : ∀ p, o0 ≠ .ext p := by intro _ z; cases z) (no : ∀ ob xs, o ≠ .frz ob (.tup xs) := by intro _ _ z; cases z) : Rel X.K L G F (upd H D o) σ e := by
 obtain ⟨s1, s2⟩ := r.slots (L' := L) (G' := G) (H' := upd H D o) (F' := F) rfl rfl (fun _ _ z => z) (Same.refl F) fun i x q => by
  obtain ⟨q1, q2, _⟩ := r.allF q
  refine ⟨q1, q2, upd_ne ?_⟩
  rintro rfl
  exact hn i q
 refine ⟨fun b x q => ?_, fun b x q => ?_, r.len, s1, s2, r.bg, r.td, tbs_chg r.nw.tb hD n1 n2, full_put r.nw.fl no, r.nw.gt, r.nw.tg⟩
 . rw [upd_ne (ne_of_none q hf)]
   exact r.fh _ _ q
 . rw [upd_ne (ne_of_none q hg)]
   exact r.gh _ _ q
theorem has_upd {L : Fr} {G F H : Hp} {σ : L2.St} {e : Env} {D : Addr} {o : HO} (r : Rel X.K L G F H σ e) (hn : ∀ i, ¬ hasF H σ e i D) : ∀ i, ¬ hasF (upd H D o) σ e i D := fun i q => hn i (hasF_back (H' := upd H D o) r (fun j y m => by
 refine upd_ne ?_
 rintro rfl
 exact hn j m) q)
end
end Ev
namespace Ev
open PySem PySem.Spec PyProof.Rows L2
def Okp {α : Type} (P : α -> Env -> Prop) (r : Res α) : Prop := ∃ a e, r = .ok a e /\ P a e
theorem Okp.bind {α β : Type} {P : β -> Env -> Prop} {r : Res α} {f : α -> Env -> Res β} (h : Okp P (r.bind f)) : Okp (fun a e => Okp P (f a e)) r := by
 obtain ⟨b, e, h, p⟩ := h
 cases r with
 | bad => cases h
 | exc x e1 => cases h
 | ok a e1 => exact ⟨a, e1, rfl, b, e, h, p⟩
theorem Okp.noX {α : Type} {P : α -> Env -> Prop} {r : Res α} (h : Okp P (Ev.noX r)) : Okp P r := by
 obtain ⟨b, e, h, p⟩ := h
 cases r with
 | bad => cases h
 | exc x e1 => cases h
 | ok a e1 => exact ⟨b, e, h, p⟩
theorem noX_ne {α : Type} {r : Res α} {x : Xn} {e : Env} : noX r ≠ .exc x e := by
 cases r <;> exact fun h => nomatch h
theorem lcTurn_ne {own tg : List Nat} {pair : Bool} {c : Option (Env -> Res Bool)} {v : Vc} {d : D} {s : Env} {x : Xn} {e : Env} : lcTurn own tg pair c v d s ≠ .exc x e := by
 unfold lcTurn
 split
 . exact fun h => nomatch h
 . exact noX_ne
theorem lcGoN_ne {turn : D -> Env -> Res (Option D)} {nx : Nat -> Env -> Option (Option D)} (h : ∀ d s x e, turn d s ≠ .exc x e) : ∀ {n k : Nat} {s : Env} {x : Xn} {e : Env}, lcGoN turn nx n k s ≠ .exc x e
 | 0, k, s, x, e => fun h => nomatch h
 | n + 1, k, s, x, e => by
  unfold lcGoN
  split
  . exact fun h => nomatch h
  . exact fun h => nomatch h
  . rename_i d _
    cases ht : turn d s with
    | bad => exact fun h => nomatch h
    | exc y e1 => exact absurd ht (h _ _ _ _)
    | ok o e1 =>
     rw [bind_ok]
     cases hr : lcGoN turn nx n (k + 1) e1 with
     | bad => exact fun h => nomatch h
     | exc y e1 => exact absurd hr (lcGoN_ne h)
     | ok r e2 => exact fun h => nomatch h
section
variable {X : Cx} {W : WX}
def SrcN (X : Cx) (pr : Bool) (L : Fr) (G F : Hp) (J : It) (nx : Nat -> Env -> Option (Option D)) : Prop :=
 ∀ (G' F' H' : Hp) (σ' : L2.St) (e' : Env) (k : Nat), Same F F' -> Rel X.K L G' F' H' σ' e' -> Same G G' -> ∀ o, nx k e' = some o -> match o with
   | none => J.stop k H'
   | some d => J.go k H' /\ ∀ x H3, J.yld k H' x H3 -> ∃ F3, Rel X.K L G' F3 H3 σ' e' /\ Step G' F' F3 /\ YOk X.K F3 H3 pr x d
theorem wipe_set {σ : L2.St} {o : Option V} : ∀ {is : List Nat} {i : Nat}, i ∈ is -> wipe (σ.set i o) is = wipe σ is
 | j :: is, i, h => by
  unfold wipe
  by_cases hm : i ∈ is
  . rw [wipe_set hm]
  . rcases List.mem_cons.mp h with rfl | h
    . have : ∀ {is : List Nat}, i ∉ is -> wipe (σ.set i o) is = (wipe σ is).set i o := by
       intro is
       induction is with
       | nil => intro _; rfl
       | cons k ks ih =>
        intro hk
        unfold wipe
        rw [ih fun z => hk (List.mem_cons_of_mem _ z), List.set_comm]
        rintro rfl
        exact hk List.mem_cons_self
      rw [this hm, List.set_set]
    . exact absurd h hm
theorem wipe_setAll {own : List Nat} : ∀ {is : List Nat} {vs : List V} {σ : L2.St}, (∀ i ∈ is, i ∈ own) -> wipe (setAll is vs σ) own = wipe σ own
 | [], vs, σ, _ => rfl
 | _ :: _, [], σ, _ => rfl
 | i :: is, v :: vs, σ, h => by
  show wipe (setAll is vs (σ.set i (some v))) own = _
  rw [wipe_setAll fun j hj => h j (List.mem_cons_of_mem _ hj), wipe_set (h i List.mem_cons_self)]
theorem wipe_eq {σ : L2.St} {own : List Nat} (h : ∀ i ∈ own, i < σ.length -> σ[i]? = some none) : wipe σ own = σ := by
 apply List.ext_getElem?
 intro j
 by_cases hj : j ∈ own
 . by_cases hl : j < σ.length
   . rw [wipe_in hj hl, h j hj hl]
   . rw [List.getElem?_eq_none_iff.mpr (by rw [wipe_length]; omega), List.getElem?_eq_none_iff.mpr (by omega)]
 . exact wipe_get hj
theorem wipe_wipe {σ : L2.St} {own : List Nat} : wipe (wipe σ own) own = wipe σ own := wipe_eq fun i hi hl => wipe_in hi (by rw [wipe_length] at hl; exact hl)
theorem no_mu {L : Fr} {G F H : Hp} {σ : L2.St} {e : Env} {p : Addr} (r : Rel X.K L G F H σ e) (hp : H p = none) : ∀ i, ¬ hasF H σ e i p := fun i => r.nofree hp
def W0 : WX := fun _ _ _ _ => False
theorem tr_ok {α β : Type} {c : Env -> Res α} {P : Rl α β} {L : FrX X} {G F H : Hp} {σ : L2.St} {e e' : Env} {a : α} {Q : β -> Hp -> Prop} (r : Rel X.K L G F H σ e) (h : c e = .ok a e') (k : ∀ b F' H', Rel X.K L G F' H' σ e' -> Step G F F' -> P G F' H' σ e' a b -> Q b H') : Tr X W c P σ H Q :=
 ⟨L, G, F, e, r, by rw [h]; exact k⟩
theorem tr_blk {α β : Type} {c : Env -> Res α} {P : Rl α β} {σ : L2.St} {H H0 : Hp} {s : Shared} {scope : Scope} {cenv : PySem.Env} {fp : List Addr} {Q : β -> Hp -> Prop} (hc : X.calm = true) (q : Tr X W0 c P σ H Q) : Tr (X.blk s H0 scope cenv fp) W0 c P σ H Q := by
 obtain ⟨L, G, F, e, r, a⟩ := q
 refine ⟨⟨L.1, fun z => ?_⟩, G, F, e, r, ?_⟩
 . exact absurd (hc.symm.trans z) (by decide)
 . cases h : c e with
   | bad => rw [h] at a; exact a
   | ok b e1 => rw [h] at a; exact a
   | exc y e1 => rw [h] at a; exact a
def tOfC (X : Cx) : Option (Env -> Res Bool) -> TT
 | none => tYes
 | some t => Tr X W0 t BOk
theorem tOfC_ok {c : Option (Env -> Res Bool)} {L : FrX X} {G F H : Hp} {σ : L2.St} {e e' : Env} {a : Bool} {Q : Bool -> Hp -> Prop} (r : Rel X.K L G F H σ e) (h : tstC c e = .ok a e') (k : ∀ F' H', Rel X.K L G F' H' σ e' -> Step G F F' -> Q a H') : tOfC X c σ H Q := by
 cases c with
 | none =>
  cases h
  exact k F H r (Step.refl G F)
 | some t => exact tr_ok r h fun b F' H' r' st p => by cases p; exact k F' H' r' st
theorem Step.weak {G G' F F' : Hp} (gs : Same G G') (st : Step G' F F') : Step G F F' := ⟨st.s, fun a h => st.g a fun z => h (gs.free z)⟩
theorem getElem?_lt {α : Type} {l : List α} {i : Nat} {a : α} (h : l[i]? = some a) : i < l.length := (List.getElem?_eq_some_iff.mp h).1
theorem lc_go {L : FrX X} {G F1 H1 : Hp} {σ : L2.St} {e2 : Env} {J : It} {nx : Nat -> Env -> Option (Option D)} {n : Nat} {own tg : List Nat} {pair : Bool} {c : Option (Env -> Res Bool)} {x : Vc} {D0 : Addr} {Q : VK}
  (htg : ∀ i ∈ tg, i ∈ own) (hn : n <= sizeLine) (hD : H1 D0 = none) (rl : Rel X.K L G F1 H1 (wipe σ own) e2) (hu : ∀ i ∈ own, e2[i]? = some .un) (src : SrcN X pair L G F1 J nx)
  (done : Okp (fun ds e3 => ∀ F' H' vs, Rel X.K L G F' H' (wipe σ own) e3 -> Step G F1 F' -> F' D0 = none -> H' D0 = some (.lst vs) -> DpAll X.K F' vs ds -> (∀ i, ¬ hasF H' (wipe σ own) e3 i D0) -> (∀ i ∈ own, e3[i]? = some .un) -> Q (.ref D0) H') (lcGoN (lcTurn own tg pair c x) nx n 0 e2)) :
  ∃ W : Nat -> Nat -> Hp -> Prop, (∃ m, W 0 m (upd H1 D0 (.lst []))) /\ ∀ i m H, W i m H ->
   (J.stop i H /\ Q (.ref D0) H) \/ (J.go i H /\ ∃ Nx : Hp -> Prop, (∀ H', Nx H' -> ∃ m', m' < m /\ W (i + 1) m' H') /\ ∀ y H', J.yld i H y H' -> gOf X.K tg pair y (wipe σ own) H' fun σ2 H2 => wipe σ2 own = wipe σ own /\ tOfC X c σ2 H2 fun b H3 =>
    if b = true then (Tr X W0 (vE x) (DOk X.K)) σ2 H3 fun y H4 => ∃ acc, H4 D0 = some (.lst acc) /\ acc.length < sizeLine /\ Nx (upd H4 D0 (.lst (acc ++ [y]))) else Nx H3) := by
 have gD : G D0 = none := rl.gh.free hD
 refine ⟨fun i m H => i + m = n /\ ∃ F2 e vs acc, Rel X.K L G F2 H (wipe σ own) e /\ Step G F1 F2 /\ F2 D0 = none /\ H D0 = some (.lst vs) /\ DpAll X.K F2 vs acc /\ (∀ i, ¬ hasF H (wipe σ own) e i D0) /\ (∀ i ∈ own, e[i]? = some .un) /\ acc.length <= i /\
  Okp (fun ds e3 => ∀ F' H' vs, Rel X.K L G F' H' (wipe σ own) e3 -> Step G F1 F' -> F' D0 = none -> H' D0 = some (.lst vs) -> DpAll X.K F' vs (acc ++ ds) -> (∀ i, ¬ hasF H' (wipe σ own) e3 i D0) -> (∀ i ∈ own, e3[i]? = some .un) -> Q (.ref D0) H') (lcGoN (lcTurn own tg pair c x) nx m i e), ⟨n, by omega, F1, e2, [], [], rl.put hD, Step.refl G F1, rl.fh.free hD, upd_same, .nil, has_upd rl (no_mu rl hD), hu, Nat.le_refl _, by simpa using done⟩, ?_⟩
 rintro i m H ⟨him, F2, e, vs, acc, r2, st2, f2, hD2, dv, nm, hu2, hlen, ok⟩
 cases m with
 | zero => obtain ⟨_, _, z, _⟩ := ok; cases z
 | succ m =>
  unfold lcGoN at ok
  have rg := r2.guard gD hD2 nm
  have gs : Same G (upd G D0 (.lst vs)) := same_upd gD
  cases hx : nx i e with
  | none => rw [hx] at ok; obtain ⟨_, _, z, _⟩ := ok; cases z
  | some o =>
   rw [hx] at ok
   cases o with
   | none =>
    obtain ⟨_, _, z, q⟩ := ok
    cases z
    have s1 := src G F2 H (wipe σ own) e i st2.s r2 (Same.refl G) none hx
    exact .inl ⟨s1, q F2 H vs r2 st2 f2 hD2 (by simpa using dv) nm hu2⟩
   | some d =>
    obtain ⟨g1, y1⟩ := src (upd G D0 (.lst vs)) F2 H (wipe σ own) e i st2.s rg gs (some d) hx
    refine .inr ⟨g1, _, fun H' w => ⟨m, Nat.lt_succ_self m, w⟩, fun y H' yl => ?_⟩
    obtain ⟨F3, r3, st3, dp3⟩ := y1 y H' yl
    have ok := ok.bind
    obtain ⟨oo, e5, ht, ok2⟩ := ok
    unfold lcTurn at ht
    cases hp : putT tg pair d e with
    | none => rw [hp] at ht; cases ht
    | some s1 =>
     rw [hp] at ht
     dsimp only at ht
     have ht : Okp (fun a b => a = oo /\ b = e5) _ := ⟨oo, e5, ht, rfl, rfl⟩
     obtain ⟨k, s2, hk, ht⟩ := ht.noX.bind
     refine tg_state r3 dp3 hp fun ws r4 => ?_
     have hw : wipe (setAll tg ws (wipe σ own)) own = wipe σ own := by rw [wipe_setAll htg, wipe_wipe]
     refine ⟨hw, tOfC_ok r4 hk fun F5 H5 r5 st5 => ?_⟩
     have fin : ∀ {F6 H6 : Hp} {s3 : Env}, Rel X.K L (upd G D0 (.lst vs)) F6 H6 (setAll tg ws (wipe σ own)) s3 -> Step (upd G D0 (.lst vs)) F2 F6 -> wipeE s3 own = some e5 -> Rel X.K L G F6 H6 (wipe σ own) e5 /\ Step G F1 F6 /\ F6 D0 = none /\ H6 D0 = some (.lst vs) /\ (∀ i, ¬ hasF H6 (wipe σ own) e5 i D0) /\ ∀ i ∈ own, e5[i]? = some .un := by
      intro F6 H6 s3 r6 st6 hw6
      have r7 := r6.wipe hw6
      rw [hw] at r7
      obtain ⟨r8, h8, n8⟩ := r7.unguard gD ⟨r2.bg, r2.nw.tg⟩
      refine ⟨r8, st2.trans (st6.weak gs), ?_, h8, n8, fun i hi => ((wipeE_set hw6).2.1 i hi).1⟩
      rw [st6.g D0 (by rw [upd_same]; exact fun z => nomatch z)]
      exact f2
     cases k with
     | false =>
      rw [if_neg Bool.false_ne_true] at ht ⊢
      cases hw6 : wipeE s2 own with
      | none => rw [hw6] at ht; obtain ⟨_, _, z, _⟩ := ht; cases z
      | some s4 =>
       rw [hw6] at ht
       obtain ⟨_, _, z, rfl, rfl⟩ := ht
       cases z
       obtain ⟨q1, q2, q3, q4, q5, q6⟩ := fin r5 (st3.trans st5) hw6
       refine ⟨by omega, F5, s4, vs, acc, q1, q2, q3, q4, dps_mono (st3.trans st5).s dv, q5, q6, by omega, ?_⟩
       obtain ⟨ds, e3, h3, p3⟩ := ok2.bind
       obtain ⟨_, _, z, p3⟩ := p3
       cases z
       exact ⟨ds, e3, h3, p3⟩
     | true =>
      rw [if_pos rfl] at ht ⊢
      obtain ⟨d6, s3, hv, ht⟩ := ht.bind
      refine tr_ok r5 hv fun b F6 H6 r6 st6 p6 => ?_
      have p6 : Dp X.K F6 b d6 := p6
      cases hw6 : wipeE s3 own with
      | none => rw [hw6] at ht; obtain ⟨_, _, z, _⟩ := ht; cases z
      | some s4 =>
       rw [hw6] at ht
       obtain ⟨_, _, z, rfl, rfl⟩ := ht
       cases z
       obtain ⟨q1, q2, q3, q4, q5, q6⟩ := fin r6 ((st3.trans st5).trans st6) hw6
       refine ⟨vs, q4, by have := dps_len dv; omega, by omega, F6, s4, vs ++ [b], acc ++ [d6], q1.change (o := .lst (vs ++ [b])) gD q3 q5 q4, q2, q3, upd_same, dps_app (dps_mono ((st3.trans st5).trans st6).s dv) (.cons p6 .nil), has_upd q1 q5, q6, by simp; omega, ?_⟩
       obtain ⟨ds, e3, h3, p3⟩ := ok2.bind
       obtain ⟨_, _, z, p3⟩ := p3
       cases z
       refine ⟨ds, e3, h3, ?_⟩
       intro F' H' vs' h1 h2 h3 h4 h5 h6 h7
       refine p3 F' H' vs' h1 h2 h3 h4 ?_ h6 h7
       simpa [consO] using h5
def vNx (ds : List D) : Nat -> Env -> Option (Option D) := fun k _ => if k <= ds.length then some ds[k]? else none
theorem src_vals {pr : Bool} {L : Fr} {G F H : Hp} {σ : L2.St} {e : Env} {ds : List D} {J : It} (h : SrcR X pr G F H σ e (.vals ds) J) : SrcN X pr L G F J (vNx ds) := by
 intro G' F' H' σ' e' k st r gs o ho
 obtain ⟨h1, h2, h3⟩ := h L G' F' H' σ' e' st r gs
 unfold vNx at ho
 split at ho
 . rename_i hle
   cases ho
   cases hk : ds[k]? with
   | none =>
    have e1 : k = ds.length := by have := List.getElem?_eq_none_iff.mp hk; omega
    subst e1
    exact h2
   | some d => exact ⟨h1 k (getElem?_lt hk), fun x H3 y => h3 k x H3 y d hk⟩
 . cases ho
theorem src_slotN {pr : Bool} {L : Fr} {G F H : Hp} {σ : L2.St} {e : Env} {i : Nat} {en : Bool} {a : Addr} {J : It} (h : SrcR X pr G F H σ e (.slot i en) J) (hs : sg σ i = some (.ref a)) (hL : L.l i = some a) : SrcN X pr L G F J (itemAt i en) := by
 intro G' F' H' σ' e' k st r gs o ho
 obtain ⟨b, h1, h2⟩ := h
 rw [hs] at h1
 cases h1
 exact h2 L G' F' H' σ' e' k hL r o ho
theorem lcGo_eq {turn : D -> Env -> Res (Option D)} {ds : List D} : ∀ {n k : Nat} {s : Env}, ds.length < n + k -> k <= ds.length -> lcGoN turn (vNx ds) n k s = lcGo turn (ds.drop k) s
 | 0, k, s, h, h2 => by omega
 | n + 1, k, s, h, h2 => by
  unfold lcGoN vNx
  rw [if_pos h2]
  by_cases hk : k < ds.length
  . have e1 : ds[k]? = some ds[k] := List.getElem?_eq_getElem hk
    rw [e1, List.drop_eq_getElem_cons hk]
    dsimp only
    unfold lcGo
    congr
    funext o e1
    have ih := lcGo_eq (turn := turn) (ds := ds) (n := n) (k := k + 1) (s := e1) (by omega) (by omega)
    unfold vNx at ih
    rw [ih]
  . have e1 : ds[k]? = none := List.getElem?_eq_none_iff.mpr (by omega)
    rw [e1, List.drop_eq_nil_of_le (by omega)]
    rfl
def Fr.at (L : Fr) (i : Nat) (a : Addr) : Fr := ⟨fun j => if j = i then some a else L.l j, L.b, L.xa, L.t⟩
theorem at_ne {L : Fr} {i j : Nat} {a : Addr} (h : j ≠ i) : (L.at i a).l j = L.l j := if_neg h
theorem Rel.lock {L : Fr} {G F H : Hp} {σ : L2.St} {e e1 : Env} {i : Nat} (r : Rel X.K L G F H σ e) (h : lockE i e = some e1) : ∃ a, sg σ i = some (.ref a) /\ Rel X.K (L.at i a) G F H σ e1 := by
 unfold lockE at h
 split at h
 . rename_i t k c he
   cases h
   obtain ⟨a, e1, ow, lk⟩ := r.sl i _ he
   have hi := getElem?_lt he
   have mus : ∀ {j : Nat} {x : Addr}, hasF H σ (e.set i (.mu t true c)) j x -> hasF H σ e j x := fun h => hasF_flag he h
   refine ⟨a, e1, r.fh, r.gh, by rw [List.length_set]; exact r.len, fun j s hj => ?_, fun j m b hjm m1 m2 => r.ap j m b hjm (mus m1) (mus m2), r.bg, r.td, ⟨r.nw.tb, r.nw.fl, r.nw.gt, r.nw.tg⟩⟩
   by_cases hij : i = j
   . subst hij
     rw [List.getElem?_set_self hi] at hj
     cases hj
     exact ⟨a, e1, ow, fun _ => by unfold Fr.at; simp⟩
   . rw [List.getElem?_set_ne hij] at hj
     have q := r.sl j s hj
     cases s with
     | un => trivial
     | th f => exact q
     | fns fs => exact q
     | fnc f => exact q
     | bt u => exact q
     | fz d => exact q
     | bo d => exact q
     | xc x => (obtain ⟨a', C, dd, fs, x1, x2, x3, x4⟩ := q; exact ⟨a', C, dd, fs, x1, x2, x3, x4⟩)
     | mu t' k' c' =>
      obtain ⟨b, e2, q1, q2⟩ := q
      refine ⟨b, e2, q1, fun z => ?_⟩
      rw [at_ne (Ne.symm hij)]
      exact q2 z
 . cases h
theorem Rel.unlock {L : Fr} {G G0 F F0 H H0 : Hp} {σ σ0 : L2.St} {e0 e e4 : Env} {i : Nat} {a : Addr} (r0 : Rel X.K L G0 F0 H0 σ0 e0) (ha : sg σ0 i = some (.ref a)) (h : unlockE i e0 e = some e4) (r : Rel X.K (L.at i a) G F H σ e) : Rel X.K L G F H σ e4 /\ ∀ j x, hasF H σ e4 j x -> hasF H σ e j x := by
 unfold unlockE at h
 split at h
 . rename_i t k c t' c' h0 h1
   split at h
   . rename_i htt
     subst htt
     cases h
     obtain ⟨a0, e1, _, lk⟩ := r0.sl i _ h0
     rw [ha] at e1; cases e1
     have hi := getElem?_lt h1
     have mus : ∀ {j : Nat} {x : Addr}, hasF H σ (e.set i (.mu t k c')) j x -> hasF H σ e j x := fun h => hasF_flag h1 h
     refine ⟨⟨r.fh, r.gh, by rw [List.length_set]; exact r.len, fun j s hj => ?_, fun j m b hjm m1 m2 => r.ap j m b hjm (mus m1) (mus m2), r.bg, r.td, ⟨r.nw.tb, r.nw.fl, r.nw.gt, r.nw.tg⟩⟩, fun j x => mus⟩
     by_cases hij : i = j
     . subst hij
       rw [List.getElem?_set_self hi] at hj
       cases hj
       obtain ⟨b, e2, ow, lk2⟩ := r.sl i _ h1
       have eb := lk2 (.inr rfl)
       unfold Fr.at at eb
       simp only [if_true] at eb
       cases eb
       exact ⟨a, e2, ow, lk⟩
     . rw [List.getElem?_set_ne hij] at hj
       have q := r.sl j s hj
       cases s with
       | un => trivial
       | th f => exact q
       | fns fs => exact q
       | fnc f => exact q
       | bt u => exact q
       | fz d => exact q
       | bo d => exact q
       | xc x => (obtain ⟨a', C, dd, fs, x1, x2, x3, x4⟩ := q; exact ⟨a', C, dd, fs, x1, x2, x3, x4⟩)
       | mu t' k' c' =>
        obtain ⟨b, e2, q1, q2⟩ := q
        refine ⟨b, e2, q1, fun z => ?_⟩
        have q3 := q2 z
        rw [at_ne (Ne.symm hij)] at q3
        exact q3
   . cases h
 . cases h
structure Blk (X : Cx) (W : WX) (scope : Scope) (tg : Expr) (is : List Nat) (pair : Bool) (ifs : List Expr) (c : Option (Env -> Res Bool)) (elt : Expr) (x : Vc) : Prop where
 g : ∀ (s : Shared) (H : Hp) (C : Addr) (cl : List (Str × Addr)) (fp : List Addr), PG (X.blk s H scope (compEnvC scope cl C X.env) fp) tg (gOf X.K is pair)
 t : ∀ (s : Shared) (H : Hp) (C : Addr) (cl : List (Str × Addr)) (fp : List Addr), PTs (X.blk s H scope (compEnvC scope cl C X.env) fp) ifs (tOfC X c)
 e : ∀ (s : Shared) (H : Hp) (C : Addr) (cl : List (Str × Addr)) (fp : List Addr), PV (X.blk s H scope (compEnvC scope cl C X.env) fp) W0 elt x
 pr : pair = isTupE tg
theorem lc_read {w : Env -> Res Src} {own is : List Nat} {pair : Bool} {c : Option (Env -> Res Bool)} {x : Vc} {σ : L2.St} {H : Hp} {Q : VK} (his : ∀ i ∈ is, i ∈ own) (q : Tr X W (lcC own is pair w c x) (ROk X.K) σ H Q) :
  tLc (Tr X W w (SrcR X pair)) (gOf X.K is pair) (tOfC X c) (Tr X W0 (vE x) (DOk X.K)) own σ H Q := by
 obtain ⟨L, G, F, e, r, a⟩ := q
 refine ⟨L, G, F, e, r, (After.bind (P1 := SrcR X pair) a).mono fun J H1 z => ?_⟩
 obtain ⟨F1, e1, src, r1, st1, p1, a1⟩ := z
 intro D0 hD
 have turn_ne : ∀ d s y e, lcTurn own is pair c x d s ≠ .exc y e := fun d s y e => lcTurn_ne
 cases src with
 | vals ds =>
  dsimp only [lcRun] at a1
  cases hw : wipeE e1 own with
  | none => rw [hw] at a1; exact a1.elim
  | some e2 =>
   rw [hw] at a1
   dsimp only at a1
   split at a1
   . rename_i hb
     refine lc_go (L := L) (n := ds.length + 1) (nx := vNx ds) his (hb) hD (r1.wipe hw) (fun i hi => ((wipeE_set hw).2.1 i hi).1) (src_vals p1) ?_
     rw [lcGo_eq (by omega) (by omega), List.drop_zero]
     cases hg : lcGo (lcTurn own is pair c x) ds e2 with
     | bad => rw [hg] at a1; exact a1.elim
     | exc y e3 =>
      have := lcGo_eq (turn := lcTurn own is pair c x) (ds := ds) (n := ds.length + 1) (k := 0) (s := e2) (by omega) (by omega)
      rw [List.drop_zero, hg] at this
      exact absurd this (lcGoN_ne turn_ne)
     | ok ds' e3 =>
      rw [hg] at a1
      refine ⟨ds', e3, rfl, fun F' H' vs r3 st3 f3 hD3 dv nm hu => ?_⟩
      have le : e3.length = e1.length := by rw [<- r3.len, wipe_length, r1.len]
      refine a1 (.ref D0) F' H' (r1.back hw r3 st3.s hu) st3 ⟨D0, rfl, Own.of f3 (r1.gh.free hD) hD3 (c := .lst ds') dv, fun i y hy m => ?_⟩
      cases List.mem_singleton.mp hy
      exact nm i (back_has hw le m).2
   . exact a1.elim
 | slot i en =>
  dsimp only [lcRun] at a1
  cases hl : lockE i e1 with
  | none => rw [hl] at a1; exact a1.elim
  | some e1' =>
   rw [hl] at a1
   dsimp only at a1
   obtain ⟨b, hs, r1'⟩ := r1.lock hl
   cases hw : wipeE e1' own with
   | none => rw [hw] at a1; exact a1.elim
   | some e2 =>
    rw [hw] at a1
    dsimp only at a1
    refine lc_go (L := (⟨L.1.at i b, L.2⟩ : FrX X)) (n := 1000000) (nx := itemAt i en) his (by decide) hD (r1'.wipe hw) (fun i hi => ((wipeE_set hw).2.1 i hi).1) (src_slotN p1 hs (by unfold Fr.at; simp)) ?_
    cases hg : lcGoN (lcTurn own is pair c x) (itemAt i en) 1000000 0 e2 with
    | bad => rw [hg] at a1; exact a1.elim
    | exc y e3 => exact absurd hg (lcGoN_ne turn_ne)
    | ok ds' e3 =>
     rw [hg] at a1
     refine ⟨ds', e3, rfl, fun F' H' vs r3 st3 f3 hD3 dv nm hu => ?_⟩
     rw [bind_ok] at a1
     cases hul : unlockE i e1 (backE e1' e3 own) with
     | none => rw [hul] at a1; exact a1.elim
     | some e4 =>
      rw [hul] at a1
      have le : e3.length = e1'.length := by rw [<- r3.len, wipe_length, r1'.len]
      obtain ⟨r4, mu4⟩ := r1.unlock hs hul (r1'.back hw r3 st3.s hu)
      refine a1 (.ref D0) F' H' r4 st3 ⟨D0, rfl, Own.of f3 (r1.gh.free hD) hD3 (c := .lst ds') dv, fun i y hy m => ?_⟩
      cases List.mem_singleton.mp hy
      exact nm i (back_has hw le (mu4 i _ m)).2
variable {elt tgE iter : Expr} {ifs : List Expr} {scope : Scope} {own : List (Str × Nat)} {pos : Pos} {w : Env -> Res Src} {is : List Nat} {pair : Bool} {c : Option (Env -> Res Bool)} {x : Vc}
theorem pv_lc (hc : X.calm = true) (hN : X.N.Nodup) (hi : PIs X W tgE iter w) (ok : BlkOk X.N X.env.scope scope own) (his : ∀ i ∈ is, i ∈ own.map (·.2)) (hb : Blk X W scope tgE is pair ifs c elt x) (hs : ∀ x, foldedSetIterable iter X.env x = pure x) :
  PV X W (.ListComp elt [⟨tgE, iter, ifs, 0⟩] scope pos) (lcC (own.map (·.2)) is pair w c x) := by
 have hi : PI X tgE iter (Tr X W w (SrcR X (isTupE tgE))) := hi
 rw [<- hb.pr] at hi
 exact pe_imp (pe_lc hc hN hi ok hb.g hb.t (fun s H C cl fp => pe_imp (pv_e (hb.e s H C cl fp)) fun _ _ _ q => tr_blk hc q) hs) fun σ H Q q => lc_read his q
end
end Ev
set_option maxHeartbeats 4000000
namespace Ev
open PySem PySem.Spec L2 PyProof.Rows
abbrev Bd := (Shared -> Prop) -> Shared -> Prop
abbrev TBd := L2.St -> Hp -> (Hp -> Prop) -> Prop
structure PBd (Y : Cx) (vs : List Nat) (b : Bd) (t : TBd) : Prop where
 run : ∀ (pins : List (Addr × Obj)) (s : Shared) (σ : L2.St) (H : Hp) (Q : Hp -> Prop) (Z : Shared -> Prop), Inv Y pins σ H s -> t σ H Q ->
  (∀ s' σ' H', Inv Y pins σ' H' s' -> σ.length = σ'.length -> (∀ (j : Nat) v, (wipe σ vs)[j]? = some (some v) -> σ'[j]? = some (some v)) -> Q H' -> Z s') -> b Z s
abbrev noE : Value -> Shared -> Prop := fun _ _ => False
def LoopR (M : Model) (A : Around) (E : Expr) (d : Nat) (t : Expr) (ifs : List Expr) (acc : Value) (env : PySem.Env) (b : Bd) : Prop :=
 ∀ {R : Result -> Shared -> Prop} {it : Value} {s : Shared} (J : Nat -> Shared -> Prop), (∀ n s, J n s -> wpAny M A (pyNext it) (fun r s1 => match r with
   | none => R (.ok .next) s1
   | some v => wpAny M A (letOwnedTupleGo t it v) (fun _ s2 => wpAny M A (assign t env v) (fun _ s3 =>
     wpAny M A (forIn ifs true fun c r => if r = true then do let ok <- isTrue c env (eval c env); pure (ForInStep.yield ok) else pure (ForInStep.yield r)) (fun ok s4 =>
      if ok = true then b (fun s5 => ∃ m, m < n /\ J m s5) s4 else ∃ m, m < n /\ J m s4) noE s3) noE s2) noE s1) noE s) -> ∀ n, J n s -> codeAny M A (.compLoop E d it acc env) R s
section
variable {P : Program} {w : World} {A : Around} {s : Shared} {elt t0 i0 t1 i1 t2 i2 : Expr} {f0 f1 f2 : List Expr} {scope : Scope} {pos : Pos} {acc : Value} {env : PySem.Env}
def bNext (P : Program) (w : World) (A : Around) (E : Expr) (d : Nat) (i : Expr) (acc : Value) (env : PySem.Env) : Bd := fun Z s => wpAny (model P w) A (eval i env) (fun x s1 => wpAny (model P w) A (pyIter x) (fun it s2 =>
 codeAny (model P w) A (.compStart E d it acc env) (fun r s' => match r with
  | .ok _ => Z s'
  | .error _ => False) s2) noE s1) noE s
def bApp (P : Program) (w : World) (A : Around) (elt : Expr) (acc : Value) (env : PySem.Env) : Bd := fun Z s => wpAny (model P w) A (eval elt env) (fun x s1 => wpAny (model P w) A (call (.builtin "list.append") [acc, x]) (fun _ s2 => Z s2) noE s1) noE s
def bAdd (P : Program) (w : World) (A : Around) (elt : Expr) (acc : Value) (env : PySem.Env) : Bd := fun Z s => wpAny (model P w) A (eval elt env) (fun x s1 => wpAny (model P w) A (call (.builtin "set.add") [acc, x]) (fun _ s2 => Z s2) noE s1) noE s
end
section
variable {Y : Cx} {vs vs1 vs2 : List Nat} {E elt t1 i1 : Expr} {f1 : List Expr} {d : Nat} {acc : Value} {b1 : Bd} {wi : TI} {g : TG} {tt : TT} {te : TE} {tb : TBd} {D : Addr}
def tApp (te : TE) (D : Addr) : TBd := fun σ H Q => te σ H fun y H1 => ∃ xs, H1 D = some (.lst xs) /\ xs.length < sizeLine /\ Q (upd H1 D (.lst (xs ++ [y])))
def tLev (wi : TI) (g : TG) (tt : TT) (tb : TBd) (vs : List Nat) : TBd := fun σ H Q => wi σ H fun J H1 => ∃ W : Nat -> Nat -> Hp -> Prop, (∃ m, W 0 m H1) /\ ∀ j k H, W j k H ->
 (J.stop j H /\ Q H) \/ (J.go j H /\ ∃ Nx : Hp -> Prop, (∀ H', Nx H' -> ∃ k', k' < k /\ W (j + 1) k' H') /\ ∀ x H', J.yld j H x H' -> g x (wipe σ vs) H' fun σ2 H2 => wipe σ2 vs = wipe σ vs /\ tt σ2 H2 fun b H3 => if b = true then tb σ2 H3 Nx else Nx H3)
end
section
variable {X : Cx}
def tCg (wi : TI) (g : TG) (tt : TT) (tb : Addr -> TBd) (o0 : Addr -> HO) (vs : List Nat) : TE := fun σ H Q => wi σ H fun J H1 => ∀ D, H1 D = none -> ∃ W : Nat -> Nat -> Hp -> Prop, (∃ m, W 0 m (upd H1 D (o0 D))) /\ ∀ i m H, W i m H ->
 (J.stop i H /\ Q (.ref D) H) \/ (J.go i H /\ ∃ Nx : Hp -> Prop, (∀ H', Nx H' -> ∃ m', m' < m /\ W (i + 1) m' H') /\ ∀ x H', J.yld i H x H' -> g x (wipe σ vs) H' fun σ2 H2 => wipe σ2 vs = wipe σ vs /\ tt σ2 H2 fun b H3 => if b = true then tb D σ2 H3 Nx else Nx H3)
def NewOk (X : Cx) (new : Sem Value) (o0 : Addr -> HO) : Prop := ∀ {pins : List (Addr × Obj)} {σ : L2.St} {s : Shared} {H : Hp} {Q : Value -> Shared -> Prop}, Inv X pins σ H s ->
 (∀ s', Inv X pins σ (upd H s.heap.objs.size (o0 s.heap.objs.size)) s' -> (∀ b o, s.heap.get? b = some o -> s'.heap.get? b = some o) -> s.heap.objs.size <= s'.heap.objs.size -> Q (.ref s.heap.objs.size) s') -> wpAny (model X.prog X.w) X.A new Q X.xe s
end
end Ev
set_option maxHeartbeats 1000000
namespace Ev
open PySem PySem.Spec PyProof.Rows L2
abbrev Cx.blkE (X : Cx) (s : Shared) (H : Hp) (scope : Scope) (cenv : PySem.Env) (fp : List Addr) (W : WX) : Cx := { X.blk s H scope cenv fp with xe := fun u s' => XE (X.blk s H scope cenv fp) W u s' }
section
variable {X : Cx} {W : WX} {pins : List (Addr × Obj)} {σ : L2.St} {H : Hp} {s : Shared}
theorem ok_xe {xe : Value -> Shared -> Prop} (o : X.Ok) : ({ X with xe := xe } : Cx).Ok := ⟨o.mod, o.kind, o.glob, o.blt, o.above, o.inj, o.has, o.cab, o.hd, o.frames, o.stk, o.exf, o.bs, o.bsz, o.noex, o.exfs, o.funs, o.frf⟩
theorem inv_xe {xe : Value -> Shared -> Prop} (I : Inv X pins σ H s) : Inv ({ X with xe := xe } : Cx) pins σ H s := ⟨ok_xe I.ok, I.os, I.bare, I.base, I.loc, I.cell, I.free, I.freeC, I.pin, I.hok, I.len⟩
theorem blkE_tk {s : Shared} {H : Hp} {scope : Scope} {cenv : PySem.Env} {fp : List Addr} {W' : WX} : Takes (Ev.Cx.blkE X s H scope cenv fp W') W' := fun u s' ⟨a, B, sI, pins, σ, H', cls, d, e, I, r⟩ =>
 ⟨a, B, sI, pins, σ, H', cls, d, e, inv_xe (xe := fun _ _ => False) I, r⟩
end
end Ev
set_option maxHeartbeats 4000000
namespace Ev
open PySem PySem.Spec L2 PyProof.Rows
abbrev BdX := (Shared -> Prop) -> (Value -> Shared -> Prop) -> Shared -> Prop
structure PBdX (Y : Cx) (vs : List Nat) (b : BdX) (t : TBd) : Prop where
 run : ∀ (pins : List (Addr × Obj)) (s : Shared) (σ : L2.St) (H : Hp) (Q : Hp -> Prop) (Z : Shared -> Prop), Inv Y pins σ H s -> t σ H Q ->
  (∀ s' σ' H', Inv Y pins σ' H' s' -> σ.length = σ'.length -> (∀ (j : Nat) v, (wipe σ vs)[j]? = some (some v) -> σ'[j]? = some (some v)) -> Q H' -> Z s') -> b Z Y.xe s
 mono : ∀ (Z : Shared -> Prop) (E1 E2 : Value -> Shared -> Prop) (s : Shared), (∀ u s', E1 u s' -> E2 u s') -> b Z E1 s -> b Z E2 s
def LoopX (M : Model) (A : Around) (E : Expr) (d : Nat) (t : Expr) (ifs : List Expr) (acc : Value) (env : PySem.Env) (b : BdX) : Prop :=
 ∀ {R : Result -> Shared -> Prop} {it : Value} {s : Shared} (J : Nat -> Shared -> Prop), (∀ n s, J n s -> wpAny M A (pyNext it) (fun r s1 => match r with
   | none => R (.ok .next) s1
   | some v => wpAny M A (letOwnedTupleGo t it v) (fun _ s2 => wpAny M A (assign t env v) (fun _ s3 =>
     wpAny M A (forIn ifs true fun c r => if r = true then do let ok <- isTrue c env (eval c env); pure (ForInStep.yield ok) else pure (ForInStep.yield r)) (fun ok s4 =>
      if ok = true then b (fun s5 => ∃ m, m < n /\ J m s5) (notedBy M A env fun e s' => R (.error e) s') s4 else ∃ m, m < n /\ J m s4) noE s3) noE s2) noE s1) noE s) -> ∀ n, J n s -> codeAny M A (.compLoop E d it acc env) R s
section
variable {P : Program} {w : World} {A : Around} {s : Shared} {elt t0 i0 t1 i1 : Expr} {f0 f1 : List Expr} {scope : Scope} {pos : Pos} {acc : Value} {env : PySem.Env}
def bAppX (P : Program) (w : World) (A : Around) (elt : Expr) (acc : Value) (env : PySem.Env) : BdX := fun Z E s => wpAny (model P w) A (eval elt env) (fun x s1 => wpAny (model P w) A (call (.builtin "list.append") [acc, x]) (fun _ s2 => Z s2) E s1) E s
def bNextX (P : Program) (w : World) (A : Around) (E : Expr) (d : Nat) (i : Expr) (acc : Value) (env : PySem.Env) : BdX := fun Z Ex s => wpAny (model P w) A (eval i env) (fun x s1 => wpAny (model P w) A (pyIter x) (fun it s2 =>
 codeAny (model P w) A (.compStart E d it acc env) (fun r s' => match r with
  | .ok _ => Z s'
  | .error _ => False) s2) noE s1) Ex s
end
end Ev
namespace Ev
open PySem PySem.Spec L2 PyProof.Rows
section
variable {X : Cx} {W Wo : WX}
def FinX (X : Cx) (Wo : WX) (L : Fr) (G F1 : Hp) (σ : L2.St) (own : List Nat) (D0 : Addr) (Q : VK) (acc : List D) : Res (List D) -> Prop
 | .bad => False
 | .ok ds e3 => ∀ F' H' vs, Rel X.K L G F' H' (wipe σ own) e3 -> Step G F1 F' -> F' D0 = none -> H' D0 = some (.lst vs) -> DpAll X.K F' vs (acc ++ ds) -> (∀ i, ¬ hasF H' (wipe σ own) e3 i D0) -> (∀ i ∈ own, e3[i]? = some .un) -> Q (.ref D0) H'
 | .exc y e3 => ∀ c dd F' H', Rel X.K L G F' H' (wipe σ own) e3 -> Step G F1 F' -> (∀ i ∈ own, e3[i]? = some .un) -> XOk X.K X.mg F' H' y c dd -> Wo c dd σ H'
variable {elt tgE iter : Expr} {scope : Scope} {own : List (Str × Nat)} {pos : Pos} {w : Env -> Res Src} {is : List Nat} {pair : Bool} {x : Vc}
end
end Ev
set_option maxHeartbeats 1000000
namespace Ev
open PySem PySem.Spec PyProof.Rows L2
def AfterS (X : Cx) (W : WX) (L : Fr) (G F : Hp) (E : Ends) : Res Fl -> Prop
 | .bad => False
 | .ok .nx e => ∀ σ' F' H', Rel X.K L G F' H' σ' e -> Step G F F' -> E.nx σ' H'
 | .ok .br e => ∀ σ' F' H', Rel X.K L G F' H' σ' e -> Step G F F' -> E.bk σ' H'
 | .ok .ct e => ∀ σ' F' H', Rel X.K L G F' H' σ' e -> Step G F F' -> E.ct σ' H'
 | .ok (.rt r) e => ∀ v σ' F' H', Rel X.K L G F' H' σ' e -> Step G F F' -> ROk X.K G F' H' σ' e r v -> E.rt v H'
 | .exc x e => ∀ c dd σ' F' H', Rel X.K L G F' H' σ' e -> Step G F F' -> XOk X.K X.mg F' H' x c dd -> W c dd σ' H'
def TrS (X : Cx) (W : WX) (c : Sc) : TS := fun E σ H => ∃ (L : FrX X) (G F : Hp) (e : Env), Rel X.K L G F H σ e /\ AfterS X W L G F E (c e)
section
variable {X : Cx} {W : WX} {L : Fr} {G F F1 H : Hp} {σ : L2.St} {E : Ends} {r : Res Fl} {γ δ : Type} {P1 : Rl γ δ} {e : Env}
theorem AfterS.step (h : AfterS X W L G F E r) (st : Step G F F1) : AfterS X W L G F1 E r := by
 cases r with
 | bad => exact h
 | exc x e => exact fun c dd σ' F' H' r1 s1 p => h c dd σ' F' H' r1 (st.trans s1) p
 | ok f e =>
  cases f with
  | nx => exact fun σ' F' H' r1 s1 => h σ' F' H' r1 (st.trans s1)
  | br => exact fun σ' F' H' r1 s1 => h σ' F' H' r1 (st.trans s1)
  | ct => exact fun σ' F' H' r1 s1 => h σ' F' H' r1 (st.trans s1)
  | rt q => exact fun v σ' F' H' r1 s1 p => h v σ' F' H' r1 (st.trans s1) p
def LeftS (X : Cx) (W : WX) {γ δ : Type} (L : Fr) (G F : Hp) (σ : L2.St) (P1 : Rl γ δ) (f : γ -> Env -> Res Fl) (E : Ends) : δ -> Hp -> Prop := fun b1 H1 =>
 ∃ F1 e1 a, Rel X.K L G F1 H1 σ e1 /\ Step G F F1 /\ P1 G F1 H1 σ e1 a b1 /\ AfterS X W L G F1 E (f a e1)
theorem AfterS.bind {c : Res γ} {f : γ -> Env -> Res Fl} (h : AfterS X W L G F E (c.bind f)) : After X W L G F σ P1 (LeftS X W L G F σ P1 f E) c := by
 cases c with
 | bad => exact h
 | ok a e => exact fun b F' H' r1 st p => ⟨F', e, a, r1, st, p, AfterS.step h st⟩
 | exc x e => exact fun c dd F' H' r1 st p => h c dd σ F' H' r1 st p
theorem AfterS.ofO {o : Option γ} {f : γ -> Env -> Res Fl} (h : AfterS X W L G F E ((Ev.ofO o e).bind f)) : ∃ a, o = some a /\ AfterS X W L G F E (f a e) := by
 cases o with
 | none => exact h.elim
 | some a => exact ⟨a, rfl, h⟩
theorem AfterS.fl {o : Option Env} (h : AfterS X W L G F E (Ev.fl o)) : ∃ e1, o = some e1 /\ ∀ σ' F' H', Rel X.K L G F' H' σ' e1 -> Step G F F' -> E.nx σ' H' := by
 cases o with
 | none => exact h.elim
 | some e1 => exact ⟨e1, rfl, h⟩
abbrev PV1 (X : Cx) (W : WX) (s : Stmt) (c : Sc) : Prop := PS X s (TrS X W c)
abbrev PVS (X : Cx) (W : WX) (s : List Stmt) (c : Sc) : Prop := PSs X s (TrS X W c)
end
section
variable {X : Cx} {W : WX} {st : Stmt} {rest : List Stmt} {ex ea eb : Expr} {c ca cb : Vc} {pos pos' : Pos} {s1 s2 : Sc}
theorem pz_nil : PVS X W [] (fun e => .ok .nx e) := pss_imp pss_nil fun D σ H q => by
 obtain ⟨L, G, F, e, r, a⟩ := q
 exact a σ F H r (Step.refl G F)
theorem seq_read {t : TS} (h : t = TrS X W s2) {D : Ends} {σ : L2.St} {H : Hp} (q : TrS X W (seqS s1 s2) D σ H) : tSeq (TrS X W s1) t D σ H := by
 subst h
 obtain ⟨L, G, F, e, r, a⟩ := q
 refine ⟨L, G, F, e, r, ?_⟩
 unfold seqS at a
 cases h1 : s1 e with
 | bad => rw [h1] at a; exact a
 | exc x e1 => rw [h1] at a; exact a
 | ok f e1 =>
  rw [h1] at a
  cases f with
  | nx => exact fun σ' F' H' r1 st => ⟨L, G, F', e1, r1, AfterS.step a st⟩
  | br => exact a
  | ct => exact a
  | rt q => exact a
theorem pz_cons (h : PV1 X W st s1) (ht : PVS X W rest s2) : PVS X W (st :: rest) (seqS s1 s2) := pss_imp (pss_cons h ht) fun D σ H q => seq_read rfl q
theorem Rel.drop {L : Fr} {G F H : Hp} {σ : L2.St} {e : Env} {i : Nat} (r : Rel X.K L G F H σ e) (hi : i < e.length) : Rel X.K L G F H σ (e.set i .un) /\ ∀ j x, hasF H σ (e.set i .un) j x -> i ≠ j /\ hasF H σ e j x := by
 have mm : ∀ {j : Nat} {x : Addr}, hasF H σ (e.set i .un) j x -> i ≠ j /\ hasF H σ e j x := fun h => hasF_set (fun _ _ _ z => by cases z) hi (fun _ _ => rfl) h
 refine ⟨⟨r.fh, r.gh, by rw [List.length_set]; exact r.len, fun j s hj => ?_, fun j k a hjk m1 m2 => r.ap j k a hjk (mm m1).2 (mm m2).2, r.bg, r.td, r.nw⟩, fun j x => mm⟩
 by_cases hij : i = j
 . subst hij
   rw [List.getElem?_set_self hi] at hj
   cases hj
   trivial
 . rw [List.getElem?_set_ne hij] at hj
   exact r.sl j s hj
theorem pz_ret (h : PV X W ex c) : PV1 X W (.Return (some ex) pos) (retS c) := ps_imp (ps_ret h) fun D σ H q => by
 obtain ⟨L, G, F, e, r, a⟩ := q
 refine ⟨L, G, F, e, r, (AfterS.bind (P1 := ROk X.K) a).mono fun v H1 z => ?_⟩
 obtain ⟨F1, e1, rr, r1, st1, p1, a1⟩ := z
 cases rr with
 | val d => exact a1 v σ F1 H1 r1 (Step.refl G F1) p1
 | fresh d => exact a1 v σ F1 H1 r1 (Step.refl G F1) p1
 | slot i =>
  dsimp only at a1
  split at a1
  . rename_i cc he
    obtain ⟨a, e2, ow, _⟩ := r1.sl i _ he
    have e3 : sg σ i = some v := p1
    rw [e2] at e3
    cases e3
    obtain ⟨r2, n2⟩ := r1.drop (getElem?_lt he)
    refine a1 (.ref a) σ F1 H1 r2 (Step.refl G F1) ⟨a, rfl, ow, fun j x hx m => ?_⟩
    obtain ⟨n, m⟩ := n2 j x m
    exact r1.ap i j x n ⟨_, _, _, _, he, e2, hx⟩ m
  . exact a1.elim
theorem pz_ite {ta : Env -> Res Bool} {t f : List Stmt} (h : PB X W ex ta) (h1 : PVS X W t s1) (h2 : PVS X W f s2) : PV1 X W (.If ex t f pos) (iteS ta s1 s2) := ps_imp (ps_if h h1 h2) fun D σ H q => by
 obtain ⟨L, G, F, e, r, a⟩ := q
 refine ⟨L, G, F, e, r, (AfterS.bind (P1 := BOk) a).mono fun x H1 z => ?_⟩
 obtain ⟨F1, e1, k, r1, st1, p1, a1⟩ := z
 cases p1
 cases x with
 | true =>
  dsimp only at a1
  rw [if_pos rfl] at a1 ⊢
  exact ⟨L, G, F1, e1, r1, a1⟩
 | false =>
  dsimp only at a1
  rw [if_neg Bool.false_ne_true] at a1 ⊢
  exact ⟨L, G, F1, e1, r1, a1⟩
theorem Rel.setMu {L : Fr} {G F H : Hp} {σ : L2.St} {e : Env} {i : Nat} {a : Addr} {c : C} (r : Rel X.K L G F H σ e) (hi : i < e.length) (ow : Own X.K G F H a c) (n : ∀ j x, x ∈ ft H a c -> ¬ hasF H σ e j x) : Rel X.K L G F H (σ.set i (some (.ref a))) (e.set i (.mu false false c)) := by
 have hs : i < σ.length := by rw [r.len]; exact hi
 have oth : ∀ {j : Nat} {x : Addr}, i ≠ j -> hasF H (σ.set i (some (.ref a))) (e.set i (.mu false false c)) j x -> hasF H σ e j x := fun {j x} hij ⟨t, k, c', b, h1, h2, h3⟩ => by
  rw [List.getElem?_set_ne hij] at h1
  rw [set_getD hs, if_neg hij] at h2
  exact ⟨t, k, c', b, h1, h2, h3⟩
 have self : ∀ {x : Addr}, hasF H (σ.set i (some (.ref a))) (e.set i (.mu false false c)) i x -> x ∈ ft H a c := fun {x} ⟨t, k, c', b, h1, h2, h3⟩ => by
  rw [List.getElem?_set_self hi] at h1
  rw [set_getD hs, if_pos rfl] at h2
  cases h1
  cases h2
  exact h3
 refine ⟨r.fh, r.gh, by rw [List.length_set, List.length_set]; exact r.len, fun j s hj => ?_, fun j k b hjk m1 m2 => ?_, r.bg, r.td, r.nw⟩
 . rw [set_getD hs]
   by_cases hij : i = j
   . subst hij
     rw [List.getElem?_set_self hi] at hj
     cases hj
     rw [if_pos rfl]
     exact ⟨a, rfl, ow, fun z => by rcases z with z | z <;> cases z⟩
   . rw [List.getElem?_set_ne hij] at hj
     rw [if_neg hij]
     exact r.sl j s hj
 . by_cases hij : i = j
   . subst hij
     exact n k b (self m1) (oth hjk m2)
   . by_cases hik : i = k
     . subst hik
       exact n j b (self m2) (oth hij m1)
     . exact r.ap j k b hjk (oth hij m1) (oth hik m2)
theorem setV_some {i : Nat} {r : R} {e e1 : Env} (h : setV i r e = some e1) : i < e.length /\ ((∃ d, r = .val d /\ e1 = e.set i (.fz d)) \/ ∃ c, r = .fresh c /\ e1 = e.set i (.mu false false c)) := by
 unfold setV at h
 split at h
 . cases h
 . cases h
 . rename_i q
   refine ⟨getElem?_lt q, ?_⟩
   split at h
   . cases h; exact .inl ⟨_, rfl, rfl⟩
   . cases h; exact .inr ⟨_, rfl, rfl⟩
   . cases h
 . cases h
theorem setV_state {L : Fr} {G F H : Hp} {σ : L2.St} {e e1 : Env} {i : Nat} {r : R} {v : V} (rl : Rel X.K L G F H σ e) (p : ROk X.K G F H σ e r v) (h : setV i r e = some e1) : Rel X.K L G F H (σ.set i (some v)) e1 := by
 obtain ⟨hi, ⟨d, rfl, rfl⟩ | ⟨c, rfl, rfl⟩⟩ := setV_some h
 . exact rl.setFz hi p
 . obtain ⟨a, rfl, ow, n⟩ := p
   exact rl.setMu hi ow n
theorem vF_read {L : Fr} {G F H : Hp} {σ : L2.St} {e : Env} {i : Nat} {E : Ends} {v : V} {r : R} (rl : Rel X.K L G F H σ e) (p : ROk X.K G F H σ e r v)
  (a : AfterS X W L G F E ((escS r e).bind fun r e1 => fl (setV i r e1))) : gName i v σ H E.nx := by
 cases r with
 | val d =>
  obtain ⟨e1, h, k⟩ := a.fl
  exact k _ F H (setV_state rl p h) (Step.refl G F)
 | fresh c =>
  obtain ⟨e1, h, k⟩ := a.fl
  exact k _ F H (setV_state rl p h) (Step.refl G F)
 | slot j =>
  cases hx : esc e (.slot j) with
  | bad => dsimp only [escS] at a; rw [hx] at a; exact a.elim
  | exc x e2 =>
   dsimp only [esc] at hx
   split at hx <;> cases hx
  | ok d e2 =>
   dsimp only [escS] at a
   rw [hx] at a
   obtain ⟨F2, r2, st2, p2⟩ := esc_at rl p hx
   obtain ⟨e1, h, k⟩ := a.fl
   exact k _ F2 H (setV_state (r := .val d) r2 p2 h) st2
theorem asg_read {i : Nat} {E : Ends} {σ : L2.St} {H : Hp} (q : TrS X W (asgS i c) E σ H) : Tr X W c (ROk X.K) σ H fun x H1 => gName i x σ H1 E.nx := by
 obtain ⟨L, G, F, e, r, a⟩ := q
 refine ⟨L, G, F, e, r, ?_⟩
 unfold asgS vF at a
 cases hc : c e with
 | bad => rw [hc] at a; exact a
 | exc x e1 =>
  rw [hc] at a
  exact fun c dd F' H' r1 st p => a c dd σ F' H' r1 st p
 | ok rr e1 =>
  rw [hc, bind_ok] at a
  intro v F' H' r1 st p
  exact vF_read r1 p (a.step st)
theorem pz_asg {i : Nat} {x : Str} {px : Pos} (hN : X.N.Nodup) (hi : X.N[i]? = some x) (hx : Loc X.env.scope x) (h : PV X W ex c) (hs : swapsWith ex (some (.Name x px)) pos.line X.env = pure false) (hf : X.fn x = true \/ X.env.scope.names.lookup x = some .local) :
  PV1 X W (.Assign [.Name x px] ex pos) (asgS i c) := ps_imp (ps_set hN hi hx h hs hf) fun D σ H q => asg_read q
theorem pz_asgLc {i : Nat} {y : Str} {py lpos spos : Pos} {elt tgE iter : Expr} {ifs : List Expr} {scope : Scope} {own : List (Str × Nat)} {w : Env -> Res Src} {is : List Nat} {pair : Bool} {cc : Option (Env -> Res Bool)} {x : Vc} (hc : X.calm = true) (hN : X.N.Nodup) (hy : X.N[i]? = some y) (hyl : X.env.scope.names.lookup y = some .local)
  (hsw : swapsWith (.ListComp elt [⟨tgE, iter, ifs, 0⟩] scope lpos) (some (.Name y py)) spos.line X.env = pure true) (hi : PIs X W tgE iter w) (ok : BlkOk X.N X.env.scope scope own) (his : ∀ i ∈ is, i ∈ own.map (·.2)) (hb : Blk X W scope tgE is pair ifs cc elt x) (hs : ∀ x, foldedSetIterable iter X.env x = pure x) :
  PV1 X W (.Assign [.Name y py] (.ListComp elt [⟨tgE, iter, ifs, 0⟩] scope lpos) spos) (asgS i (lcC (own.map (·.2)) is pair w cc x)) :=
 ps_imp (ps_setLc hc hN hy hyl hsw (by have hi : PI X tgE iter (Tr X W w (SrcR X (isTupE tgE))) := hi; rw [<- hb.pr] at hi; exact hi) ok hb.g hb.t (fun s H C cl fp => pe_imp (pv_e (hb.e s H C cl fp)) fun _ _ _ q => tr_blk hc q) hs) fun D σ H q => lc_read his (asg_read q)
theorem pz_unp {tg : Expr} {is : List Nat} (hg : PG X tg (gOf X.K is true)) (h : PV X W ex c) (hs : swapsWithSole [tg] ex pos.line X.env = pure false) (hw : swappedStores [tg] ex X.env = pure none) (h1 : (assignEach [tg] X.env).map (·.2) = [assign tg X.env]) :
  PV1 X W (.Assign [tg] ex pos) (unpS is c) := ps_imp (ps_asg (pv_e h) hg hs hw h1) fun D σ H q => by
 obtain ⟨L, G, F, e, r, a⟩ := q
 refine ⟨L, G, F, e, r, (AfterS.bind (P1 := DOk X.K) a).mono fun v H1 z => ?_⟩
 obtain ⟨F1, e1, d, r1, st1, p1, a1⟩ := z
 obtain ⟨e2, h2, k⟩ := a1.fl
 exact tg_state r1 (.inl p1) h2 fun vs r2 => k _ F1 H1 r2 (Step.refl G F1)
theorem Rel.chg {L : Fr} {G F H : Hp} {σ : L2.St} {e : Env} {i : Nat} {t : Bool} {c c' : C} {a : Addr} {o : HO} (r : Rel X.K L G F H σ e) (he : e[i]? = some (.mu t false c)) (ha : sg σ i = some (.ref a)) (ho : Cs X.K F o c') : Rel X.K L G F (upd H a o) σ (e.set i (.mu t false c')) := by
 obtain ⟨b, e1, ow, q5⟩ := r.sl i _ he
 rw [ha] at e1; cases e1
 obtain ⟨_, _, ob, q3, q4⟩ := ow.all a (ft_root _ _ _)
 refine r.turn he ha (fun x hx _ _ => upd_ne ?_) (Own.of ow.f ow.g upd_same ho) (fun x hx => .inl ?_) (tbs_chg' r.nw.tb q3 q4.1 q4.2.1) (full_put r.nw.fl (cs_n2 ho))
 . rintro rfl
   exact hx (ft_root _ _ _)
 . have ex : x = a := by
    cases c' with
    | lst ds => exact List.mem_singleton.mp hx
    | dct ds => exact List.mem_singleton.mp hx
    | obj cls fs => cases o <;> exact (show False from ho).elim
    | tr t => cases o <;> exact (show False from ho).elim
   rw [ex]
   exact ft_root _ _ _
theorem muO_some {o : Option Sl} {p : Bool × C} (h : muO o = some p) : o = some (.mu p.1 false p.2) := by
 unfold muO at h
 split at h
 . cases h; rfl
 . cases h
theorem muL_some {o : Option Sl} {p : Bool × List D} (h : muL o = some p) : o = some (.mu p.1 false (.lst p.2)) := by
 unfold muL at h
 split at h
 . cases h; rfl
 . cases h
theorem var_slot {L : FrX X} {G F H : Hp} {σ : L2.St} {e : Env} {i : Nat} {p : Bool × C} {Q : V -> Hp -> Prop} (r : Rel X.K L G F H σ e) (h : muO e[i]? = some p) (k : ∀ a F' H', Rel X.K L G F' H' σ e -> Step G F F' -> sg σ i = some (.ref a) -> Q (.ref a) H') : Tr X W (varC i) (ROk X.K) σ H Q := by
 have he := muO_some h
 obtain ⟨a, e1, ow, _⟩ := r.sl i _ he
 refine ⟨L, G, F, e, r, ?_⟩
 have : varC i e = .ok (.slot i) e := by unfold varC; rw [he]
 rw [this]
 intro v F' H' r' st p'
 have p' : sg σ i = some v := p'
 rw [e1] at p'
 cases p'
 exact k a F' H' r' st e1
theorem stoD_lst {c c' : C} {k d : D} (h : stoD c k d = some c') : ∃ xs n j, c = .lst xs /\ k = .int n /\ L2.ixN xs.length n = some j /\ c' = .lst (xs.set j d) := by
 unfold stoD at h
 split at h
 . rename_i xs n
   cases hj : L2.ixN xs.length n with
   | none => rw [hj] at h; cases h
   | some j => rw [hj] at h; cases h; exact ⟨xs, n, j, rfl, rfl, hj, rfl⟩
 . cases h
theorem pz_sto {i : Nat} {xo : Expr} {ci cv : Vc} {ei ev : Expr} {tpos : Pos} (ho : PV X W xo (varC i)) (hi : PV X W ei ci) (hv : PV X W ev cv) (ha : ∀ v, assign (.Subscript xo ei tpos) X.env v = (do
   let ov <- holding [v] (eval xo X.env)
   let iv <- holding [v, ov] (eval ei X.env)
   standAt tpos
   holding [v, ov, iv] (setItem ov iv v)
   release [v, ov, iv] [])) (hs : swapsWithSole [.Subscript xo ei tpos] ev pos.line X.env = pure false) (hw : swappedStores [.Subscript xo ei tpos] ev X.env = pure none) (h1 : (assignEach [.Subscript xo ei tpos] X.env).map (·.2) = [assign (.Subscript xo ei tpos) X.env]) :
  PV1 X W (.Assign [.Subscript xo ei tpos] ev pos) (stoS i ci cv) := ps_imp (ps_asg (pv_e hv) (pg_sub ho (pv_e hi) set_list ha) hs hw h1) fun D σ H q => by
 obtain ⟨L, G, F, e, r, a⟩ := q
 refine ⟨L, G, F, e, r, (AfterS.bind (P1 := DOk X.K) a).mono fun v H1 z => ?_⟩
 obtain ⟨F1, e1, d, r1, st1, p1, a1⟩ := z
 obtain ⟨p0, hp0, a2⟩ := a1.ofO
 refine var_slot r1 hp0 fun ad F2 H2 r2 st2 hs2 => ?_
 refine ⟨L, G, F2, e1, r2, (AfterS.bind (P1 := DOk X.K) (a2.step st2)).mono fun y H3 z => ?_⟩
 obtain ⟨F3, e3, n, r3, st3, p3, a3⟩ := z
 obtain ⟨p, hp, a4⟩ := a3.ofO
 obtain ⟨c', hc', a5⟩ := a4.ofO
 obtain ⟨xs, m, j, hxs, rfl, hj, rfl⟩ := stoD_lst hc'
 have he := muO_some hp
 obtain ⟨b, e4, ⟨q1, q2, o, q3, q4⟩, _⟩ := r3.sl i _ he
 rw [hs2] at e4; cases e4
 rw [hxs] at q4
 cases o <;> first | exact (show False from q4).elim | skip
 rename_i vs
 have q4 : DpAll X.K F3 vs xs := q4
 have p3 : Dp X.K F3 y (.int m) := p3
 cases p3
 refine ⟨ad, vs, m, j, rfl, rfl, q3, by rw [dps_len q4]; exact hj, a5 σ F3 _ (r3.chg (c' := .lst (xs.set j d)) he hs2 ?_) (Step.refl G F3)⟩
 exact dps_set (dp_mono (st2.trans st3).s p1) j q4
theorem pz_app {i : Nat} {xo : Expr} {cv : Vc} {ev : Expr} {apos cpos : Pos} (ho : PV X W xo (varC i)) (hv : PV X W ev cv) (hsw : swapsWith (.Call (.Attribute xo "append" apos) [ev] [] cpos) none pos.line X.env = pure false)
  (hbase : attributeBase xo "append" X.env (eval xo X.env) = eval xo X.env)
  (hline : (apos.endLine == cpos.line) = true) (hst : starEach [ev] X.env = [(false, eval ev X.env)]) :
  PV1 X W (.Expr (.Call (.Attribute xo "append" apos) [ev] [] cpos) pos) (appS i cv) := by
 refine ps_imp (ps_expr (pe_bm F.plainAttrs_list ?_ ?_ mt_append ho (pa_cons (pv_e hv) pa_nil hst) hbase ?_ hline hst ?_) hsw) fun D σ H q => ?_
 . exact F.slot_list_append
 . exact F.type_list_append
 . rw [hst]; rfl
 . rfl
 obtain ⟨L, G, F, e, r, a⟩ := q
 obtain ⟨p0, hp0, a1⟩ := a.ofO
 have he0 := muL_some hp0
 refine var_slot r (p := (p0.1, .lst p0.2)) (by rw [he0]; rfl) fun ad F2 H2 r2 st2 hs2 => ?_
 obtain ⟨b, e4, ⟨q1, q2, o, q3, q4⟩, _⟩ := r2.sl i _ he0
 rw [hs2] at e4; cases e4
 refine ⟨.inl ⟨rfl, ?_⟩, ?_⟩
 . cases o <;> first | exact (show False from q4).elim | skip
   exact ⟨_, SqL.of q3⟩
 refine ⟨L, G, F2, e, r2, (AfterS.bind (P1 := DOk X.K) (a1.step st2)).mono fun y H3 z => ?_⟩
 obtain ⟨F3, e3, d, r3, st3, p3, a3⟩ := z
 obtain ⟨p, hp, a4⟩ := a3.ofO
 have he := muL_some hp
 obtain ⟨t, xs⟩ := p
 dsimp only at a4
 split at a4
 . rename_i hlt
   obtain ⟨b, e4, ⟨q1, q2, o, q3, q4⟩, _⟩ := r3.sl i _ he
   rw [hs2] at e4; cases e4
   cases o <;> first | exact (show False from q4).elim | skip
   rename_i vs
   have q4 : DpAll X.K F3 vs xs := q4
   refine ⟨ad, vs, y, rfl, rfl, q3, by rw [dps_len q4]; exact hlt, a4 σ F3 _ (r3.chg (c' := .lst (xs ++ [d])) he hs2 ?_) (Step.refl G F3)⟩
   exact dps_app q4 (.cons p3 .nil)
 . exact a4.elim
theorem frGo_eq {turn : D -> Sc} {ds : List D} : ∀ {n k : Nat} {s : Env}, ds.length < n + k -> k <= ds.length -> frGoN turn (vNx ds) n k s = frGo turn (ds.drop k) s
 | 0, k, s, h, h2 => by omega
 | n + 1, k, s, h, h2 => by
  unfold frGoN vNx
  rw [if_pos h2]
  by_cases hk : k < ds.length
  . have e1 : ds[k]? = some ds[k] := List.getElem?_eq_getElem hk
    rw [e1, List.drop_eq_getElem_cons hk]
    dsimp only
    unfold frGo
    congr
    funext f e1
    have ih := frGo_eq (turn := turn) (ds := ds) (n := n) (k := k + 1) (s := e1) (by omega) (by omega)
    unfold vNx at ih
    cases f <;> first | rfl | exact ih
  . have e1 : ds[k]? = none := List.getElem?_eq_none_iff.mpr (by omega)
    rw [e1, List.drop_eq_nil_of_le (by omega)]
    rfl
theorem off_read {L : Fr} {G F : Hp} {D : Ends} {r : Res Fl} (h : AfterS X W L G F D (offS r)) : AfterS X W L G F { D with bk := D.nx } r := by
 cases r with
 | bad => exact h
 | exc x e => exact h
 | ok f e => cases f <;> exact h
theorem unlk_read {L : Fr} {G G0 F F0 H0 : Hp} {σ0 : L2.St} {e0 : Env} {i : Nat} {a : Addr} {D : Ends} {r : Res Fl} (r0 : Rel X.K L G0 F0 H0 σ0 e0) (ha : sg σ0 i = some (.ref a)) (h : AfterS X W L G F D (unlkS i e0 r)) : AfterS X W (L.at i a) G F { D with bk := D.nx } r := by
 cases r with
 | bad => exact h
 | exc x e =>
  dsimp only [unlkS] at h
  cases hu : unlockE i e0 e with
  | none => rw [hu] at h; exact h.elim
  | some e1 =>
   rw [hu] at h
   exact fun c dd σ' F' H' r1 st p => h c dd σ' F' H' (r0.unlock ha hu r1).1 st p
 | ok f e =>
  dsimp only [unlkS] at h
  cases hu : unlockE i e0 e with
  | none => rw [hu] at h; exact h.elim
  | some e1 =>
   rw [hu] at h
   cases f with
   | nx => exact fun σ' F' H' r1 st => h σ' F' H' (r0.unlock ha hu r1).1 st
   | br => exact fun σ' F' H' r1 st => h σ' F' H' (r0.unlock ha hu r1).1 st
   | ct => exact fun σ' F' H' r1 st => h σ' F' H' (r0.unlock ha hu r1).1 st
   | rt q =>
    intro v σ' F' H' r1 st p
    obtain ⟨r2, mu2⟩ := r0.unlock ha hu r1
    refine h v σ' F' H' r2 st ?_
    cases q with
    | val d => exact p
    | slot j => exact p
    | fresh c =>
     obtain ⟨b, rfl, ow, n⟩ := p
     exact ⟨b, rfl, ow, fun j x hx m => n j x hx (mu2 j x m)⟩
def PtOk (X : Cx) (pair : Bool) (pt : Ev.D -> Env -> Option Env) (gt : TG) : Prop := ∀ {L : Fr} {G F H : Hp} {σ : L2.St} {e e1 : Env} {v : V} {d : Ev.D} {Q : L2.St -> Hp -> Prop}, Rel X.K L G F H σ e -> YOk X.K F H pair v d -> pt d e = some e1 -> (∀ σ2, Rel X.K L G F H σ2 e1 -> Q σ2 H) -> gt v σ H Q
theorem fr_go {L : FrX X} {G F1 H1 : Hp} {σ1 : L2.St} {e1 : Env} {J : It} {nx : Nat -> Env -> Option (Option D)} {n : Nat} {pt : Ev.D -> Env -> Option Env} {gt : TG} {pair : Bool} {b : Sc} {D : Ends} (hpt : PtOk X pair pt gt)
  (rl : Rel X.K L G F1 H1 σ1 e1) (src : SrcN X pair L G F1 J nx) (ok : AfterS X W L G F1 { D with bk := D.nx } (frGoN (frTurnP pt b) nx n 0 e1)) :
  ∃ W' : Nat -> Nat -> L2.St -> Hp -> Prop, (∃ m, W' 0 m σ1 H1) /\ ∀ i m σ H, W' i m σ H ->
   (J.stop i H /\ D.nx σ H) \/ (J.go i H /\ ∃ N : L2.St -> Hp -> Prop, (∀ σ' H', N σ' H' -> ∃ m', m' < m /\ W' (i + 1) m' σ' H') /\ ∀ x H', J.yld i H x H' -> gt x σ H' fun σ2 H2 => TrS X W b { D with nx := N, ct := N, bk := D.nx } σ2 H2) := by
 refine ⟨fun i m σ H => ∃ F2 e, Rel X.K L G F2 H σ e /\ Step G F1 F2 /\ AfterS X W L G F2 { D with bk := D.nx } (frGoN (frTurnP pt b) nx m i e), ⟨n, F1, e1, rl, Step.refl G F1, ok⟩, ?_⟩
 rintro i m σ H ⟨F2, e, r2, st2, ok⟩
 cases m with
 | zero => exact ok.elim
 | succ m =>
  unfold frGoN at ok
  cases hx : nx i e with
  | none => rw [hx] at ok; exact ok.elim
  | some o =>
   rw [hx] at ok
   have s1 := src G F2 H σ e i st2.s r2 (Same.refl G) o hx
   cases o with
   | none => exact .inl ⟨s1, ok σ F2 H r2 (Step.refl G F2)⟩
   | some d =>
    obtain ⟨g1, y1⟩ := s1
    refine .inr ⟨g1, _, fun σ' H' w => ⟨m, Nat.lt_succ_self m, w⟩, fun y H' yl => ?_⟩
    obtain ⟨F3, r3, st3, dp3⟩ := y1 y H' yl
    unfold frTurnP at ok
    cases hp : pt d e with
    | none => dsimp only at ok; rw [hp] at ok; exact ok.elim
    | some e5 =>
     dsimp only at ok
     rw [hp] at ok
     refine hpt r3 dp3 hp fun ws r4 => ⟨L, G, F3, e5, r4, ?_⟩
     have ok := ok.step st3
     dsimp only at ok
     cases hb : b e5 with
     | bad => rw [hb] at ok; exact ok
     | exc x e6 => rw [hb] at ok; exact ok
     | ok f e6 =>
      rw [hb, bind_ok] at ok
      cases f with
      | nx => exact fun σ' F' H' r5 st5 => ⟨F', e6, r5, st2.trans (st3.trans st5), ok.step st5⟩
      | ct => exact fun σ' F' H' r5 st5 => ⟨F', e6, r5, st2.trans (st3.trans st5), ok.step st5⟩
      | br => exact ok
      | rt q => exact ok
theorem pz_frP {tgE iter : Expr} {pt : Ev.D -> Env -> Option Env} {gt : TG} {pair : Bool} {w : Env -> Res Src} {body : List Stmt} {b : Sc} (hpt : PtOk X pair pt gt) (hp : PassesOwn (model X.prog X.w) X.A X.env X.xe) (hc : X.calm = true) (hi : PIs X W tgE iter w) (hpr : pair = isTupE tgE) (hg : PG X tgE gt) (hb : PVS X W body b) (hs : ∀ x, foldedSetIterable iter X.env x = pure x) :
  PV1 X W (.For tgE iter body [] pos) (fun e => (w e).bind fun p e1 => frRun (frTurnP pt b) p e1) := ps_imp (ps_for hp hc (by have hi : PI X tgE iter (Tr X W w (SrcR X (isTupE tgE))) := hi; rw [<- hpr] at hi; exact hi) hg hb hs) fun D σ H q => by
 obtain ⟨L, G, F, e, r, a⟩ := q
 refine ⟨L, G, F, e, r, (AfterS.bind (P1 := SrcR X pair) a).mono fun J H1 z => ?_⟩
 obtain ⟨F1, e1, src, r1, st1, p1, a1⟩ := z
 cases src with
 | vals ds =>
  dsimp only [frRun] at a1
  refine fr_go hpt r1 (src_vals p1) (n := ds.length + 1) ?_
  rw [frGo_eq (by omega) (by omega), List.drop_zero]
  exact off_read a1
 | slot i en =>
  dsimp only [frRun] at a1
  cases hl : lockE i e1 with
  | none => rw [hl] at a1; exact a1.elim
  | some e1' =>
   rw [hl] at a1
   dsimp only at a1
   obtain ⟨ad, hs, r1'⟩ := r1.lock hl
   have a2 := unlk_read r1 hs a1
   have fin := fr_go hpt (L := (⟨L.1.at _ _, L.2⟩ : FrX X)) r1' (src_slotN p1 hs (by unfold Fr.at; simp)) a2
   exact fin
theorem pz_fr {tgE iter : Expr} {is : List Nat} {pair : Bool} {w : Env -> Res Src} {body : List Stmt} {b : Sc} (hp : PassesOwn (model X.prog X.w) X.A X.env X.xe) (hc : X.calm = true) (hi : PIs X W tgE iter w) (hpr : pair = isTupE tgE) (hg : PG X tgE (gOf X.K is pair)) (hb : PVS X W body b) (hs : ∀ x, foldedSetIterable iter X.env x = pure x) :
  PV1 X W (.For tgE iter body [] pos) (frS is pair w b) := pz_frP (fun r y q k => tg_state r y q fun _ r2 => k _ r2) hp hc hi hpr hg hb hs
abbrev g2Of (K : PySem.W.Frag) (i : Nat) (is : List Nat) : TG := gEi K 2 (gCons (gName i) (gCons (gOf K is true) gNil))
end
end Ev
set_option maxHeartbeats 4000000
namespace Ev
open PySem PySem.Spec L2 PyProof.Rows
end Ev
set_option maxHeartbeats 1000000
namespace Ev
open PySem PySem.Spec PyProof.Rows L2 HT
section
variable {X : Cx} {W : WX} {ea : Expr} {ca : Vc}
theorem ar_lst2 {K : PySem.W.Frag} {F H : Hp} {v : V} {ds : List D} (fh : Same F H) (h : Ar K F H v (.list ds)) : ∃ a xs, v = .ref a /\ SqL K H a xs /\ DpAll K F xs ds := by
 rcases h with h | ⟨a, xs, ds', rfl, e, h1, h2⟩
 . cases h with
   | lst h1 h2 => exact ⟨_, _, rfl, fh.seq h1, h2⟩
 . cases e
   exact ⟨a, xs, rfl, h1, h2⟩
def tRevA (K : PySem.W.Frag) (te : TE) : TE := fun σ H Q => te σ H fun x H1 => ∃ a xs, x = .ref a /\ ((SqL K H1 a xs /\ ∀ p, H1 p = none -> Q (.ref p) (upd H1 p (.lst xs.reverse))) \/ (SqT K H1 a xs /\ ∀ p ob, H1 p = none -> ob.dict = none -> Q (.ref p) (upd H1 p (.frz ob (.tup xs.reverse)))))
end
end Ev
namespace Ev
open PySem PySem.Spec PyProof.Rows L2
theorem kv_len {K : PySem.W.Frag} {F : Hp} {kvs : List (Key × V)} {ds : List (Ky × D)} (h : KvOk K F kvs ds) : kvs.length = ds.length := by
 induction h with
 | nil => rfl
 | cons _ _ ih => simp [ih]
section
variable {X : Cx} {W : WX} {xo : Expr} {pos : Pos}
def trK (X : Cx) (W : WX) (p : String × Vc) : TE × TE := (tC (.str (T p.1)), Tr X W (vE p.2) (DOk X.K))
inductive KPs (X : Cx) (W : WX) : List String -> List (Option Expr) -> List Expr -> List Vc -> Prop where
 | nil : KPs X W [] [] [] []
 | cons {k : String} {ks : List String} {j : Nat} {p : Pos} {kes : List (Option Expr)} {e : Expr} {es : List Expr} {c : Vc} {cs : List Vc} : PV X W e c -> KPs X W ks kes es cs -> KPs X W (k :: ks) (some (.Constant (.str (T k)) j p) :: kes) (e :: es) (c :: cs)
inductive KVs (X : Cx) (W : WX) : List String -> List Keyword -> List Vc -> Prop where
 | nil : KVs X W [] [] []
 | cons {k : String} {ks : List String} {kp : Pos} {e : Expr} {kws : List Keyword} {c : Vc} {cs : List Vc} : PV X W e c -> KVs X W ks kws cs -> KVs X W (k :: ks) (⟨some (T k), e, kp⟩ :: kws) (c :: cs)
theorem KVs.names : ∀ {ks : List String} {kws : List Keyword} {cs : List Vc}, KVs X W ks kws cs -> (backToKw pos (keywordEach kws X.env)).all (·.1.isSome) = true /\ (backToKw pos (keywordEach kws X.env)).filterMap (·.1) = ks.map T /\ (backToKw pos (keywordEach kws X.env)).any (·.1.isNone) = false /\ ks.length = cs.length
 | _, _, _, .nil => ⟨rfl, rfl, rfl, rfl⟩
 | _, _, _, @KVs.cons _ _ k ks kp e kws c cs h t => by
  obtain ⟨i1, i2, i3, i4⟩ := KVs.names t
  have e0 : backToKw pos (keywordEach (⟨some (T k), e, kp⟩ :: kws) X.env) = (some (T k), do let v <- eval e X.env; standAt pos; pure v) :: backToKw pos (keywordEach kws X.env) := rfl
  rw [e0]
  refine ⟨by rw [List.all_cons, i1]; rfl, by rw [List.filterMap_cons, i2]; rfl, by rw [List.any_cons, i3]; rfl, by simp [i4]⟩
end
end Ev
set_option maxRecDepth 10000
namespace Ev
open PySem L2
def itF (m : Nat) : Nat -> Nat -> Nat -> Nat
 | 0, i, _ => i
 | n + 1, i, b => itF m n (SetTable.leap m i b).1 (SetTable.leap m i b).2
theorem leap_le (m i b : Nat) : (SetTable.leap m i b).1 <= m := Nat.le_of_lt_succ (Nat.mod_lt _ (Nat.succ_pos m))
theorem runEnd_le {m i : Nat} (h : i <= m) : i <= SetTable.runEnd m i /\ SetTable.runEnd m i <= m := by
 unfold SetTable.runEnd
 split <;> omega
theorem free_ok {m : Nat} {ow : Array (Option Nat)} {j : Nat} (hj : ow.getD j (some 0) = none) : ∀ (f i b : Nat), i <= m -> (∃ n, n < f /\ itF m n i b = j) -> ∃ r, SetTable.layClean.free m ow f i b = some r /\ r <= m /\ ow.getD r (some 0) = none
 | 0, i, b, _, ⟨n, hn, _⟩ => absurd hn (Nat.not_lt_zero _)
 | f + 1, i, b, hi, ⟨n, hn, e⟩ => by
  obtain ⟨r1, r2⟩ := runEnd_le hi
  unfold SetTable.layClean.free
  cases hf : (List.range (SetTable.runEnd m i + 1 - i)).find? fun k => (ow.getD (i + k) (some 0)).isNone with
  | some k =>
   have h1 := List.mem_range.mp (List.mem_of_find?_eq_some hf)
   have h2 := List.find?_some hf
   exact ⟨i + k, rfl, by omega, Option.isNone_iff_eq_none.mp h2⟩
  | none =>
   dsimp only
   cases n with
   | zero =>
    have h1 := List.find?_eq_none.mp hf 0 (List.mem_range.mpr (by omega))
    have e : i = j := e
    rw [Nat.add_zero, e, hj] at h1
    exact absurd rfl h1
   | succ n => exact free_ok hj f _ _ (leap_le m i b) ⟨n, by omega, e⟩
theorem itF_add (m : Nat) : ∀ (a n i b : Nat), itF m (a + n) i b = itF m n (itF m a i b) (b / 32 ^ a)
 | 0, n, i, b => by rw [Nat.zero_add, Nat.pow_zero, Nat.div_one]; rfl
 | a + 1, n, i, b => by
  rw [Nat.add_right_comm]
  show itF m (a + n) (SetTable.leap m i b).1 (SetTable.leap m i b).2 = itF m n (itF m a (SetTable.leap m i b).1 (SetTable.leap m i b).2) (b / 32 ^ (a + 1))
  rw [itF_add m a n]
  congr 1
  show b / 32 / 32 ^ a = b / 32 ^ (a + 1)
  rw [Nat.div_div_eq_div_mul, Nat.pow_succ, Nat.mul_comm]
theorem itF_le {m : Nat} : ∀ (n : Nat) {i b : Nat}, i <= m -> itF m n i b <= m
 | 0, _, _, h => h
 | n + 1, i, b, _ => itF_le n (leap_le m i b)
def MOk (m : Nat) : Prop := m = 7 \/ m = 15 \/ m = 31 \/ m = 63 \/ m = 127
def orb (m : Nat) : Nat -> Nat -> List Nat
 | 0, _ => []
 | n + 1, x => x :: orb m n ((x * 5 + 1) % (m + 1))
theorem orb_mem (m : Nat) : ∀ (n x j : Nat), j ∈ orb m n x -> ∃ k, k < n /\ itF m k x 0 = j
 | 0, _, _, h => by cases h
 | n + 1, x, j, h => by
  rcases List.mem_cons.mp h with rfl | h
  . exact ⟨0, by omega, rfl⟩
  . obtain ⟨k, h1, h2⟩ := orb_mem m n _ j h
    exact ⟨k + 1, by omega, h2⟩
def orbOk (m : Nat) : Bool := (List.range (m + 1)).all (fun j => (orb m (m + 1) 0).contains j) && decide (itF m (m + 1) 0 0 = 0)
theorem orbs : orbOk 7 = true /\ orbOk 15 = true /\ orbOk 31 = true /\ orbOk 63 = true /\ orbOk 127 = true := by decide +kernel
theorem orb_at {m : Nat} (hm : MOk m) : orbOk m = true := by
 obtain ⟨h1, h2, h3, h4, h5⟩ := orbs
 rcases hm with rfl | rfl | rfl | rfl | rfl <;> assumption
theorem zero_div32 (a : Nat) : 0 / 32 ^ a = 0 := Nat.zero_div _
theorem cyc {m : Nat} (hm : MOk m) {x j : Nat} (hx : x <= m) (hj : j <= m) : ∃ n, n <= m /\ itF m n x 0 = j := by
 have h := orb_at hm
 unfold orbOk at h
 simp only [Bool.and_eq_true, List.all_eq_true, decide_eq_true_eq] at h
 obtain ⟨h1, h2⟩ := h
 have mem : ∀ y, y <= m -> ∃ k, k < m + 1 /\ itF m k 0 0 = y := fun y hy => orb_mem m _ _ _ (by
  have := h1 y (List.mem_range.mpr (by omega))
  simpa using this)
 obtain ⟨a, a1, a2⟩ := mem x hx
 obtain ⟨c, c1, c2⟩ := mem j hj
 by_cases h : a <= c
 . refine ⟨c - a, by omega, ?_⟩
   have := itF_add m a (c - a) 0 0
   rw [zero_div32, a2, show a + (c - a) = c by omega, c2] at this
   exact this.symm
 . refine ⟨m + 1 + c - a, by omega, ?_⟩
   have e1 := itF_add m a (m + 1 + c - a) 0 0
   rw [zero_div32, a2, show a + (m + 1 + c - a) = m + 1 + c by omega] at e1
   have e2 := itF_add m (m + 1) c 0 0
   rw [zero_div32, h2, c2] at e2
   exact e1.symm.trans e2
theorem visits {m : Nat} (hm : MOk m) {b : Nat} (hb : b < 2 ^ 64) {j : Nat} (hj : j <= m) : ∃ n, n < SetTable.turns m /\ itF m n (b % (m + 1)) b = j := by
 have hi : b % (m + 1) <= m := Nat.le_of_lt_succ (Nat.mod_lt _ (Nat.succ_pos m))
 obtain ⟨n, h1, h2⟩ := cyc hm (itF_le 13 (b := b) hi) hj
 refine ⟨13 + n, by unfold SetTable.turns; omega, ?_⟩
 rw [itF_add, show b / 32 ^ 13 = 0 from Nat.div_eq_of_lt (Nat.lt_trans hb (by decide)), h2]
theorem bits_lt (h : Int) : SetTable.bits h < 2 ^ 64 := by
 unfold SetTable.bits
 have h1 := Int.emod_nonneg h (show ((2 : Int) ^ 64) ≠ 0 by decide)
 have h2 := Int.emod_lt_of_pos h (show (0 : Int) < 2 ^ 64 by decide)
 omega
structure OwI (m k : Nat) (ow : Array (Option Nat)) : Prop where
 sz : ow.size = m + 1
 pm : (ow.toList.filterMap id).Perm (List.range k)
theorem fm_len : ∀ l : List (Option Nat), none ∉ l -> (l.filterMap id).length = l.length
 | [], _ => rfl
 | none :: l, h => absurd List.mem_cons_self h
 | some x :: l, h => by
  have := fm_len l fun z => h (List.mem_cons_of_mem _ z)
  simpa using this
theorem fm_set (k : Nat) : ∀ (l : List (Option Nat)) (r : Nat), l[r]? = some none -> ((l.set r (some k)).filterMap id).Perm (k :: l.filterMap id)
 | [], r, h => by simp at h
 | x :: l, 0, h => by
  simp at h
  subst h
  simp
 | x :: l, r + 1, h => by
  have ih := fm_set k l r (by simpa using h)
  cases x with
  | none => simpa using ih
  | some y =>
   simp only [List.set_cons_succ, List.filterMap_cons, id]
   exact (ih.cons y).trans (List.Perm.swap k y _)
theorem OwI.step {m k : Nat} (hm : MOk m) {ow : Array (Option Nat)} (W : OwI m k ow) (hk : k <= m) (h : Int) :
  ∃ j, SetTable.layClean.free m ow (SetTable.turns m) (SetTable.bits h % (m + 1)) (SetTable.bits h) = some j /\ OwI m (k + 1) (ow.setIfInBounds j (some k)) := by
 have hn : none ∈ ow.toList := by
  apply Classical.byContradiction
  intro z
  have h1 := fm_len _ z
  rw [W.pm.length_eq, List.length_range, Array.length_toList, W.sz] at h1
  omega
 obtain ⟨j, hj, e⟩ := List.mem_iff_getElem.mp hn
 rw [Array.length_toList] at hj
 have e' : ow.getD j (some 0) = none := by
  rw [Array.getD_eq_getD_getElem?, Array.getElem?_eq_getElem hj]
  simpa using e
 obtain ⟨r, h1, h2, h3⟩ := free_ok e' (SetTable.turns m) (SetTable.bits h % (m + 1)) (SetTable.bits h) (Nat.le_of_lt_succ (Nat.mod_lt _ (Nat.succ_pos m))) (visits hm (bits_lt h) (by have := W.sz; omega))
 have hr : r < ow.size := by rw [W.sz]; omega
 refine ⟨r, h1, by rw [Array.size_setIfInBounds, W.sz], ?_⟩
 have h4 : ow.toList[r]? = some none := by
  rw [Array.getD_eq_getD_getElem?, Array.getElem?_eq_getElem hr] at h3
  rw [Array.getElem?_toList, Array.getElem?_eq_getElem hr]
  exact congrArg some h3
 rw [Array.toList_setIfInBounds]
 refine (fm_set k _ r h4).trans ((W.pm.cons k).trans ?_)
 rw [List.range_succ]
 exact (List.perm_append_singleton k _).symm
theorem fold_lay {m : Nat} (hm : MOk m) : ∀ (rest : List Int) (k : Nat) (ow : Array (Option Nat)), OwI m k ow -> k + rest.length <= m -> ∃ ow', rest.foldl (stepF m) (some (ow, k)) = some (ow', k + rest.length) /\ OwI m (k + rest.length) ow'
 | [], k, ow, W, _ => ⟨ow, rfl, W⟩
 | h :: rest, k, ow, W, hl => by
  rw [List.length_cons] at hl
  obtain ⟨j, e, W'⟩ := W.step hm (by omega) h
  obtain ⟨ow', f, W2⟩ := fold_lay hm rest (k + 1) _ W' (by omega)
  refine ⟨ow', ?_, by rw [List.length_cons, show k + (rest.length + 1) = k + 1 + rest.length by omega]; exact W2⟩
  rw [List.foldl_cons, stepF_some e, f, List.length_cons, show k + 1 + rest.length = k + (rest.length + 1) by omega]
theorem lay_ok {m : Nat} (hm : MOk m) {hs : Array Int} (hn : hs.size <= m) : ∃ ow, SetTable.layClean m hs = some ow /\ OwI m hs.size ow := by
 have W0 : OwI m 0 (Array.replicate (m + 1) none) := ⟨by simp, by simp⟩
 obtain ⟨ow, f, W⟩ := fold_lay hm hs.toList 0 _ W0 (by rw [Array.length_toList]; omega)
 rw [Nat.zero_add, Array.length_toList] at f W
 refine ⟨ow, ?_, W⟩
 rw [layClean_eq, f]
 rfl
theorem laid_ok {m : Nat} (hm : MOk m) {hs : Array Int} (hn : hs.size <= m) (fi mv : Nat) (led plain : Bool) :
  ∃ t' order, SetTable.laid m fi mv led plain hs = some (t', order) /\ order.toList.Perm (List.range hs.size) /\ Ris t'.place.toList /\ t'.place.size = hs.size /\ t'.dummies = #[] /\ t'.mask = m /\ t'.led = led := by
 obtain ⟨ow, e, W⟩ := lay_ok hm hn
 have ris := (ris_live (fun j => ow.getD j none) (List.range (m + 1)) (by
  unfold Ris
  first | exact List.pairwise_lt_range | exact List.pairwise_lt_range _)).1
 have el : ((List.range (m + 1)).filterMap fun j => (ow.getD j none).map (j, ·)).map (·.2) = ow.toList.filterMap id := by
  have e1 : ow.toList = (List.range (m + 1)).map fun j => ow.getD j none := by
   apply List.ext_getElem?
   intro i
   rw [List.getElem?_map, Array.getElem?_toList]
   by_cases hi : i < m + 1
   . rw [List.getElem?_range hi, Array.getElem?_eq_getElem (by rw [W.sz]; exact hi)]
     show _ = some (ow.getD i none)
     rw [Array.getD_eq_getD_getElem?, Array.getElem?_eq_getElem (by rw [W.sz]; exact hi)]
     rfl
   . rw [Array.getElem?_eq_none (by rw [W.sz]; omega), List.getElem?_eq_none (by simp; omega)]
     rfl
  rw [e1, List.filterMap_map, List.map_filterMap]
  congr 1
  funext j
  show ((ow.getD j none).map (j, ·)).map (·.2) = ow.getD j none
  cases ow.getD j none <;> rfl
 refine ⟨{ mask := m, place := (((List.range (m + 1)).filterMap fun j => (ow.getD j none).map (j, ·)).map (·.1)).toArray, dummies := #[], finger := fi, led := led, moves := mv, plain := plain },
  (((List.range (m + 1)).filterMap fun j => (ow.getD j none).map (j, ·)).map (·.2)).toArray, ?_, ?_, ris, ?_, rfl, rfl, rfl⟩
 . unfold SetTable.laid
   rw [e]
   rfl
 . show ((((List.range (m + 1)).filterMap fun j => (ow.getD j none).map (j, ·)).map (·.2)).toArray).toList.Perm _
   rw [el]
   exact W.pm
 . have := congrArg List.length el
   rw [W.pm.length_eq, List.length_range, List.length_map] at this
   rw [List.size_toArray, List.length_map]
   exact this
end Ev
namespace Ev
open PySem L2 PyProof.Rows
section
variable {P : Program} {w : World} {A : Around} {E : Value -> Shared -> Prop} {s : Shared} {a : Addr} {S : Int -> Bool} {n : Nat}
theorem erase_list {α : Type} (xs : Array α) (i : Nat) : (SetTable.eraseAt xs i).toList = xs.toList.eraseIdx i := by
 unfold SetTable.eraseAt
 rw [List.eraseIdx_eq_take_drop_succ]
 simp [List.take_of_length_le, Array.length_toList]
theorem setR_discard {k : Int} {tk : Tok} {Q : Bool -> Shared -> Prop} (R : SetR w s.heap a S n)
  (hQ : ∀ h' m, Heap.SameBut a s.heap h' -> m <= n -> SetR w h' a (fun j => S j && !decide (j = k)) m -> Q (S k) { s with heap := h' }) :
  wpAny (model P w) A (setDiscardHashed a (.int k tk) ((intKind P w).hash k)) Q E s := by
 obtain ⟨o, es, ep, t, ho, hex, hd, g, nd, hm, hb, hf, hn, hr, hl⟩ := R
 have hkey : (intKind P w).is k (.int k tk) = true := intKind_is P w k tk
 have hsc : (Value.int k tk).scannable = true := rfl
 have hel : ElemsOf (intKind P w) es.toList := good_elems g
 unfold setDiscardHashed setFind setFindIn
 refine wpAny_bind (wpAny_bind (wpAny_setState_of ho hd hf ?_))
 dsimp only
 rw [byScan_of hsc hb hel]
 simp only [↓reduceIte]
 refine wpAny_bind (wpAny_rule ?_)
 refine wpAny_bind (wpAny_setScan_of hkey ho hd hf hel ?_)
 cases hfi : List.findIdx? (fun e => (intKind P w).is k e.2) es.toList with
 | none =>
  dsimp only
  refine wpAny_pure (wpAny_pure ?_)
  have hnk : k ∉ es.toList.map keyOf := fun z => by
   obtain ⟨e, he, q⟩ := (good_mem (P := P) (w := w) g k).1 z
   have c := List.findIdx?_eq_none_iff.mp hfi e he
   rw [q] at c
   cases c
  have hSk : S k = false := by
   cases q : S k with
   | false => rfl
   | true => exact absurd ((hm k).1 q) hnk
  have q := hQ s.heap n (Heap.SameBut.refl a s.heap) (Nat.le_refl _) ⟨o, es, ep, t, ho, hex, hd, g, nd, fun i => by
   rw [Bool.and_eq_true, <- hm i]
   refine ⟨fun z => z.1, fun z => ⟨z, ?_⟩⟩
   have : i ≠ k := fun c => by rw [c, hSk] at z; cases z
   simpa using this, hb, hf, hn, hr, hl⟩
  rw [hSk] at q
  exact q
 | some j =>
  dsimp only
  obtain ⟨hj, pj, _⟩ := List.findIdx?_eq_some_iff_getElem.mp hfi
  have kj : keyOf es.toList[j] = k := (good_is (g _ (List.getElem_mem hj)) k).1 pj
  have hSk : S k = true := (hm k).2 (List.mem_map.mpr ⟨_, List.getElem_mem hj, kj⟩)
  refine wpAny_pure ?_
  dsimp only
  refine wpAny_bind (wpAny_setState_of ho hd hf ?_)
  dsimp only
  rw [Nat.zero_add]
  have hsz : (SetTable.eraseAt es j).size = es.size - 1 := by
   rw [<- Array.length_toList, erase_list, List.length_eraseIdx_of_lt hj, Array.length_toList]
  rw [Array.length_toList] at hj
  have pm : (es.toList[j] :: (SetTable.eraseAt es j).toList).Perm es.toList := by
   rw [erase_list]
   exact erase_perm es.toList j _ (List.getElem?_eq_getElem _)
  have hf' := hf
  unfold SetTable.fits at hf'
  rw [Bool.and_eq_true, beq_iff_eq, decide_eq_true_eq] at hf'
  have hpj : j < t.place.size := by rw [hf'.1]; exact hj
  have et : t.drop j = { t with place := SetTable.eraseAt t.place j, dummies := SetTable.insertAt t.dummies (SetTable.below t.dummies t.place[j]) t.place[j] } := by
   unfold SetTable.drop
   rw [Array.getElem?_eq_getElem hpj]
  have hpl : (SetTable.eraseAt t.place j).size = t.place.size - 1 := by
   rw [<- Array.length_toList, erase_list, List.length_eraseIdx_of_lt (by rw [Array.length_toList]; exact hpj), Array.length_toList]
  have hdl : (SetTable.insertAt t.dummies (SetTable.below t.dummies t.place[j]) t.place[j]).size = t.dummies.size + 1 := by
   rw [<- Array.length_toList, (SetTable.insertAt_perm _ _ _).length_eq, Array.length_toList, Array.size_push]
  refine wpAny_bind (wpAny_storeSet_of ho hd ?_ (by rw [hsz]; have := fits_of_scanBound hb; omega))
  refine wpAny_bind (wpAny_point ?_)
  refine wpAny_pure ?_
  have q := hQ _ (n - 1) (Heap.SameBut.update s.heap a (Obj.putSet (SetTable.eraseAt es j) (t.drop j))) (Nat.sub_le _ _) ?_
  . rw [hSk] at q
    exact q
  . have pk := pm.map keyOf
    rw [List.map_cons, kj] at pk
    have nd' := pk.nodup_iff.mpr nd
    obtain ⟨n1, n2⟩ := List.nodup_cons.mp nd'
    refine ⟨_, _, _, _, store_at ho hd, hex, rfl, fun e he => g e (pm.mem_iff.mp (List.mem_cons_of_mem _ he)), n2, fun i => ?_, by rw [hsz]; omega, ?_, by rw [hsz, hn], ?_, ?_⟩
    . rw [Bool.and_eq_true, hm i, <- pk.mem_iff, List.mem_cons]
      constructor
      . rintro ⟨h1, h2⟩
        have h2 : i ≠ k := by simpa using h2
        exact h1.resolve_left h2
      . intro h1
        refine ⟨.inr h1, ?_⟩
        have : i ≠ k := fun c => n1 (c ▸ h1)
        simpa using this
    . rw [et]
      unfold SetTable.fits SetTable.fill
      unfold SetTable.fill at hf'
      rw [Bool.and_eq_true, beq_iff_eq, decide_eq_true_eq]
      show (SetTable.eraseAt t.place j).size = _ /\ (SetTable.eraseAt t.place j).size + (SetTable.insertAt t.dummies _ _).size <= t.mask
      rw [hpl, hdl, hsz]
      omega
    . rw [et]
      show Ris (SetTable.eraseAt t.place j).toList
      rw [erase_list]
      exact List.Pairwise.sublist (List.eraseIdx_sublist _ _) hr
    . rw [et]
      exact hl
end
end Ev
namespace Ev
open PySem L2 PyProof.Rows
theorem order_perm {α : Type} (xs : Array α) (order : Array Nat) (hp : order.toList.Perm (List.range xs.size)) : (order.filterMap (xs[·]?)).toList.Perm xs.toList := by
 have h1 : (order.filterMap (xs[·]?)).toList = order.toList.filterMap (xs[·]?) := by simp
 rw [h1]
 refine (hp.filterMap _).trans ?_
 have key : ∀ n, n <= xs.size -> (List.range n).filterMap (xs[·]?) = xs.toList.take n := by
  intro n
  induction n with
  | zero => intro _; rfl
  | succ n ih =>
   intro hn
   have hlt : n < xs.toList.length := by rw [Array.length_toList]; exact hn
   rw [List.range_succ, List.filterMap_append, ih (by omega), List.take_succ, List.getElem?_eq_getElem hlt]
   have : xs[n]? = some xs.toList[n] := by rw [<- Array.getElem?_toList, List.getElem?_eq_getElem hlt]
   rw [List.filterMap_cons_some this] <;> rfl
 rw [key _ (Nat.le_refl _), <- Array.length_toList, List.take_length]
def reord (vs : Array (Int × Value)) (got : Option (SetTable × Array Nat)) : Sem (Array (Int × Value) × SetTable) := do
 let some (tab, order) := got | unsupported "internal:set-table-without-room"
 let ws := order.filterMap (vs[·]?)
 if ws.size != vs.size then unsupported "internal:set-table-lost-an-element"
 pure (ws, tab)
theorem merge_eq (a o : Addr) (each : Sem Unit) : setMerge a o each = (do
  if a == o then return
  let (vs, was, tb) <- setState o
  if vs.isEmpty then return
  setRoomFor a vs.size
  let (_, _, ta) <- setState a
  match ta.road tb with
  | .slotForSlot => storeSet a vs { tb with finger := ta.finger, led := ta.led && tb.led, moves := ta.moves, plain := ta.plain && tb.plain }
  | .clean =>
   let (ws, tc) <- reord vs (SetTable.laid ta.mask ta.finger ta.moves (led := ta.led && tb.led) (plain := ta.plain && tb.plain) (vs.map (·.1)))
   storeSet a ws tc
  | .oneByOne =>
   for (h, x) in <- setWalkUnseen o [a] (some a) do
    let _ <- holding [x] (setAddHashed a x h)
    each
    if (<- setState o).2.1 != was then unsupported "set.changed-during-merge") := by rfl
theorem relay_eq (a : Addr) (wanted : Nat) : setRelay a wanted = (do
  let (vs, _, tb) <- setState a
  if SetTable.sizeAbove wanted > sizeLine then unsupported "set:memory"
  let (ws, tc) <- reord vs (tb.relaid (vs.map (·.1)) wanted)
  storeSet a ws tc) := by rfl
instance (m : Nat) : Decidable (MOk m) := by unfold MOk; infer_instance
theorem wanted_ok : ∀ n, n < 64 -> 5 <= n -> MOk (SetTable.sizeAbove (n * 2) - 1) /\ n <= SetTable.sizeAbove (n * 2) - 1 /\ SetTable.sizeAbove (n * 2) <= 128 := by decide +kernel
section
variable {P : Program} {w : World} {A : Around} {E : Value -> Shared -> Prop} {s : Shared} {a o : Addr} {S : Int -> Bool} {n : Nat}
theorem reord_at {vs : Array (Int × Value)} {tab : SetTable} {order : Array Nat} {got : Option (SetTable × Array Nat)} (hg : got = some (tab, order)) (hp : order.toList.Perm (List.range vs.size)) {Q : Array (Int × Value) × SetTable -> Shared -> Prop} (h : Q (order.filterMap (vs[·]?), tab) s) : wpAny (model P w) A (reord vs got) Q E s := by
 subst hg
 have e : (order.filterMap (vs[·]?)).size = vs.size := by rw [<- Array.length_toList, (order_perm vs order hp).length_eq, Array.length_toList]
 unfold reord
 dsimp only
 refine wp_if_neg (by rw [e]; simp) ?_
 try refine wpAny_bind (wpAny_pure ?_)
 exact wpAny_pure h
def Room0 (w : World) (h : Heap) (a : Addr) (n : Nat) : Prop := ∃ ob ep t, h.get? a = some ob /\ ob.ExactSet /\ ob.data = .set #[] ep t /\ t.place = #[] /\ t.dummies = #[] /\ MOk t.mask /\ n <= t.mask /\ (w.params.followText "set-order" = true \/ t.led = true)
theorem fits0 {t : SetTable} (h1 : t.place = #[]) (h2 : t.dummies = #[]) : t.fits (#[] : Array (Int × Value)).size = true := by
 unfold SetTable.fits SetTable.fill
 rw [h1, h2]
 simp
theorem room_at {ob : Obj} (h : s.heap.get? a = some ob) (hex : ob.ExactSet) (hd : ob.data = .set #[] 0 (.fresh 0 0 (!w.params.followText "set-order"))) (h64 : n < 64) {Q : Unit -> Shared -> Prop}
  (hQ : ∀ h', Heap.SameBut a s.heap h' -> Room0 w h' a n -> Q () { s with heap := h' }) : wpAny (model P w) A (setRoomFor a n) Q E s := by
 have hled : w.params.followText "set-order" = true \/ (!w.params.followText "set-order") = true := by
  cases w.params.followText "set-order"
  . exact .inr rfl
  . exact .inl rfl
 unfold setRoomFor
 refine wpAny_bind (wpAny_setState_of h hd (fits0 rfl rfl) ?_)
 dsimp only
 have er : (SetTable.fresh 0 0 (!w.params.followText "set-order")).roomFor n = if (0 + n) * 5 >= 7 * 3 then some ((0 + n) * 2) else none := rfl
 rw [er, Nat.zero_add]
 by_cases hn : n * 5 >= 7 * 3
 . rw [if_pos hn]
   dsimp only
   obtain ⟨m1, m2, m3⟩ := wanted_ok n h64 (by omega)
   rw [relay_eq]
   refine wpAny_bind (wpAny_setState_of h hd (fits0 rfl rfl) ?_)
   dsimp only
   refine wp_if_neg (by rw [sizeLine_eq]; omega) ?_
   try refine wpAny_bind (wpAny_pure ?_)
   obtain ⟨t', order, e, hp, ris, sz, dm, em, el⟩ := laid_ok m1 (hs := (#[] : Array Int)) (Nat.zero_le _) 0 ((SetTable.fresh 0 0 (!w.params.followText "set-order")).movedTo (SetTable.sizeAbove (n * 2) - 1)) (!w.params.followText "set-order") true
   have hp0 : order.toList.Perm (List.range (#[] : Array (Int × Value)).size) := hp
   have e2 : (SetTable.fresh 0 0 (!w.params.followText "set-order")).relaid ((#[] : Array (Int × Value)).map (·.1)) (n * 2) = some (t', order) := by
    rw [show (#[] : Array (Int × Value)).map (·.1) = #[] by simp]
    exact e
   refine wpAny_bind (reord_at e2 hp0 ?_)
   dsimp only
   have e0 : order.filterMap ((#[] : Array (Int × Value))[·]?) = #[] := by
    have := order_perm (#[] : Array (Int × Value)) order hp0
    have := this.length_eq
    rw [Array.length_toList] at this
    exact Array.eq_empty_of_size_eq_zero this
   rw [e0]
   refine wpAny_storeSet_of h hd ?_ (Nat.zero_le _)
   exact hQ _ (Heap.SameBut.update s.heap a _) ⟨_, _, t', store_at h hd, hex, rfl, Array.eq_empty_of_size_eq_zero sz, dm, by rw [em]; exact m1, by rw [em]; exact m2, by rw [el]; exact hled⟩
 . rw [if_neg hn]
   dsimp only
   exact wpAny_pure (hQ s.heap (Heap.SameBut.refl a s.heap) ⟨ob, 0, _, h, hex, hd, rfl, rfl, .inl rfl, by show n <= 7; omega, hled⟩)
theorem setR_merge {ob : Obj} (R : SetR w s.heap o S n) (hao : a ≠ o) (h : s.heap.get? a = some ob) (hex : ob.ExactSet) (hd : ob.data = .set #[] 0 (.fresh 0 0 (!w.params.followText "set-order"))) (h64 : n < 64) {each : Sem Unit} {Q : Unit -> Shared -> Prop}
  (hQ : ∀ h', Heap.SameBut a s.heap h' -> SetR w h' a S n -> Q () { s with heap := h' }) : wpAny (model P w) A (setMerge a o each) Q E s := by
 obtain ⟨oo, vs, was, tb, ho, hox, hod, g, nd, hm, hb, hf, hn, hr, hl⟩ := R
 have hled : w.params.followText "set-order" = true \/ (!w.params.followText "set-order") = true := by
  cases w.params.followText "set-order"
  . exact .inr rfl
  . exact .inl rfl
 rw [merge_eq]
 refine wp_if_neg (by simpa using hao) ?_
 try refine wpAny_bind (wpAny_pure ?_)
 refine wpAny_bind (wpAny_setState_of ho hod hf ?_)
 dsimp only
 by_cases he : vs.isEmpty = true
 . refine wp_if_pos he ?_
   refine wpAny_pure (hQ s.heap (Heap.SameBut.refl a s.heap) ?_)
   have e0 : vs = #[] := by simpa using he
   subst e0
   have en : n = 0 := by simpa using hn.symm
   subst en
   exact ⟨ob, #[], 0, _, h, hex, hd, fun e z => by simp at z, List.nodup_nil, hm, by decide, fits0 rfl rfl, rfl, List.Pairwise.nil, hled⟩
 . refine wp_if_neg he ?_
   try refine wpAny_bind (wpAny_pure ?_)
   rw [hn]
   refine wpAny_bind (room_at h hex hd h64 fun h1 sb1 r1 => ?_)
   obtain ⟨ob1, ep1, ta, g1, x1, d1, p1, u1, m1, n1, l1⟩ := r1
   refine wpAny_bind (wpAny_setState_of g1 d1 (fits0 p1 u1) ?_)
   dsimp only
   have fl : ta.fill = 0 := by unfold SetTable.fill; rw [p1, u1]; rfl
   have hl2 : w.params.followText "set-order" = true \/ (ta.led && tb.led) = true := by
    rcases l1 with z | z
    . exact .inl z
    . rcases hl with z2 | z2
      . exact .inl z2
      . exact .inr (by rw [z, z2]; rfl)
   have er : ta.road tb = .slotForSlot \/ ta.road tb = .clean := by
    unfold SetTable.road
    rw [fl]
    by_cases c : (ta.mask == tb.mask && tb.dummies.isEmpty) = true
    . exact .inl (by simp [c])
    . exact .inr (by simp [c])
   rcases er with er | er
   . rw [er]
     dsimp only
     refine wpAny_storeSet_of g1 d1 ?_ (fits_of_scanBound hb)
     refine hQ _ (sb1.trans (Heap.SameBut.update h1 a _)) ?_
     exact ⟨_, vs, _, _, store_at g1 d1, x1, rfl, g, nd, hm, hb, hf, hn, hr, hl2⟩
   . rw [er]
     dsimp only
     obtain ⟨t', order, e, hp, ris, sz, dm, em, el⟩ := laid_ok m1 (hs := vs.map (·.1)) (by rw [Array.size_map, hn]; exact n1) ta.finger ta.moves (ta.led && tb.led) (ta.plain && tb.plain)
     rw [Array.size_map] at hp sz
     have pm := order_perm vs order hp
     have hsz : (order.filterMap (vs[·]?)).size = n := by rw [<- Array.length_toList, pm.length_eq, Array.length_toList, hn]
     refine wpAny_bind (reord_at e hp ?_)
     dsimp only
     refine wpAny_storeSet_of g1 d1 ?_ (by rw [hsz, <- hn]; exact fits_of_scanBound hb)
     refine hQ _ (sb1.trans (Heap.SameBut.update h1 a _)) ?_
     refine ⟨_, _, _, _, store_at g1 d1, x1, rfl, fun e he => g e (pm.mem_iff.mp he), (pm.map keyOf).nodup_iff.mpr nd, fun k => (hm k).trans (pm.map keyOf).mem_iff.symm, by rw [hsz, <- hn]; exact hb, ?_, hsz, ris, by rw [el]; exact hl2⟩
     unfold SetTable.fits SetTable.fill
     rw [Bool.and_eq_true, beq_iff_eq, decide_eq_true_eq, dm, hsz, sz, hn, em]
     exact ⟨rfl, n1⟩
end
end Ev
namespace Ev
open PySem L2 PyProof.Rows
theorem walk_eq (a : Addr) : setWalk a = (do
  let (vs, was, tb) <- setState a
  if <- setsByText then return pickOrder ((<- ask).params.setOrder a was) vs
  if !tb.plain && vs.size > 1 then return (<- drawOrder vs.size vs.toList).toArray
  (do if !tb.led && vs.size > 1 then unsupported "set:maker-not-led" : Sem Unit)
  return vs) := by rfl
section
variable {P : Program} {w : World} {A : Around} {E : Value -> Shared -> Prop} {s : Shared} {a o : Addr} {S : Int -> Bool} {n : Nat}
theorem walk_at {ob : Obj} {vs : Array (Int × Value)} {was : Nat} {tb : SetTable} (ho : s.heap.get? o = some ob) (hod : ob.data = .set vs was tb) (hf : tb.fits vs.size = true) (hl : w.params.followText "set-order" = true \/ tb.led = true) {Q : Array (Int × Value) -> Shared -> Prop}
  (hQ : ∀ ws d, ws.toList.Perm vs.toList -> Q ws { s with drawn := d }) : wpAny (model P w) A (setWalk o) Q E s := by
 rw [walk_eq]
 refine wpAny_bind (wpAny_setState_of ho hod hf ?_)
 dsimp only
 refine wpAny_bind (wpAny_byText ?_)
 by_cases hb : w.params.followText "set-order" = true
 . refine wp_if_pos hb ?_
   refine wpAny_bind (wpAny_askSetting ?_)
   exact wpAny_pure (hQ _ s.drawn (pick_perm _ _))
 . refine wp_if_neg hb ?_
   try refine wpAny_bind (wpAny_pure ?_)
   by_cases hd : (!tb.plain && decide (vs.size > 1)) = true
   . refine wp_if_pos hd ?_
     refine wpAny_bind (drawOrder_at vs.size vs.toList s _ (by rw [Array.length_toList]; exact Nat.le_refl _) fun ys d pm => ?_)
     exact wpAny_pure (hQ _ d (by simpa using pm))
   . refine wp_if_neg hd ?_
     try refine wpAny_bind (wpAny_pure ?_)
     have hled : tb.led = true := hl.resolve_left hb
     refine wpAny_bind (wp_if_neg (by rw [hled]; simp) (wpAny_pure ?_))
     exact wpAny_pure (hQ _ s.drawn (List.Perm.refl _))
theorem quiet_at {es : Array (Int × Value)} (g : ∀ e ∈ es.toList, GoodE e) {Q : Bool -> Shared -> Prop} {ob : Obj} {was : Nat} {tb : SetTable} (ho : s.heap.get? o = some ob) (hod : ob.data = .set es was tb) (hf : tb.fits es.size = true)
  {vs : Array (Int × Value)} {oa : Obj} {wa : Nat} {ta : SetTable} (ga : ∀ e ∈ vs.toList, GoodE e) (ha : s.heap.get? a = some oa) (hd : oa.data = .set vs wa ta) (hfa : ta.fits vs.size = true) (hQ : Q true s) : wpAny (model P w) A (setsQuiet [o, a]) Q E s := by
 have inner : ∀ (β : Type) (b : β) (f : Int × Value -> β -> Sem (ForInStep β)), (∀ e, GoodE e -> f e b = pure (.yield b)) -> ∀ l : List (Int × Value), (∀ e ∈ l, GoodE e) -> forIn l b f = (pure b : Sem β) := by
  intro β b f hf l
  induction l with
  | nil => intro _; rfl
  | cons e l ih =>
   intro h
   rw [List.forIn_cons, hf e (h e List.mem_cons_self), pure_bind]
   exact ih fun x hx => h x (List.mem_cons_of_mem _ hx)
 unfold setsQuiet setEntries
 simp only [List.forIn_cons, List.forIn_nil, bind_assoc, pure_bind]
 refine wpAny_bind (wpAny_setState_of ho hod hf ?_)
 rw [<- Array.forIn_toList, inner _ _ _ (fun e he => by obtain ⟨k, tk, h1, _⟩ := he; obtain ⟨x, y⟩ := e; cases h1; rfl) _ g]
 simp only [pure_bind]
 refine wpAny_bind (wpAny_bind (wpAny_setState_of ha hd hfa ?_))
 rw [<- Array.forIn_toList, inner _ _ _ (fun e he => by obtain ⟨k, tk, h1, _⟩ := he; obtain ⟨x, y⟩ := e; cases h1; rfl) _ ga]
 simp only [pure_bind]
 exact wpAny_pure (wpAny_pure hQ)
theorem unseen_at {Sa : Int -> Bool} {m : Nat} {ob : Obj} {vs : Array (Int × Value)} {was : Nat} {tb : SetTable} (ho : s.heap.get? o = some ob) (hod : ob.data = .set vs was tb) (g : ∀ e ∈ vs.toList, GoodE e) (hf : tb.fits vs.size = true) (hl : w.params.followText "set-order" = true \/ tb.led = true)
  (R : SetR w s.heap a Sa m) {Q : Array (Int × Value) -> Shared -> Prop}
  (hQ : ∀ ws h' d, ws.toList.Perm vs.toList -> Heap.SameBut a s.heap h' -> SetR w h' a Sa m -> Q ws { s with heap := h', drawn := d }) : wpAny (model P w) A (setWalkUnseen o [a] (some a)) Q E s := by
 have fin : ∀ ws d, ws.toList.Perm vs.toList -> Q ws { s with drawn := d } := fun ws d pm => hQ ws s.heap d pm (Heap.SameBut.refl a s.heap) R
 unfold setWalkUnseen
 refine wpAny_bind (wpAny_setState_of ho hod hf ?_)
 dsimp only
 refine wpAny_bind (wpAny_byText ?_)
 by_cases hc : (w.params.followText "set-order" || (tb.led && tb.plain) || decide (vs.size <= 1)) = true
 . refine wp_if_pos hc ?_
   exact walk_at ho hod hf hl fin
 . refine wp_if_neg hc ?_
   try refine wpAny_bind (wpAny_pure ?_)
   have hbt : ¬ w.params.followText "set-order" = true := fun z => hc (by rw [z]; rfl)
   have hled : tb.led = true := hl.resolve_left hbt
   obtain ⟨oa, va, wa, ta, ha, hax, had, ga, nda, hma, hba, hfa, hna, hra, hla⟩ := R
   have hla' : ta.led = true := hla.resolve_left hbt
   refine wpAny_bind (quiet_at g ho hod hf ga ha had hfa ?_)
   refine wp_if_neg (by decide) ?_
   try refine wpAny_bind (wpAny_pure ?_)
   refine wpAny_bind (wpAny_rule ?_)
   refine wpAny_bind (wpAny_setState_of ha had hfa ?_)
   dsimp only
   by_cases hx : ((ta.led && !tb.led) || (ta.plain && !tb.plain)) = true
   . refine wp_if_pos hx ?_
     refine wpAny_bind (wpAny_storeSet_of ha had ?_ (fits_of_scanBound hba))
     refine wpAny_pure (hQ vs _ s.drawn (List.Perm.refl _) (Heap.SameBut.update s.heap a _) ?_)
     exact ⟨_, va, _, _, store_at ha had, hax, rfl, ga, nda, hma, hba, hfa, hna, hra, .inr (by show (ta.led && tb.led) = true; rw [hled, hla']; rfl)⟩
   . refine wp_if_neg hx ?_
     try refine wpAny_bind (wpAny_pure ?_)
     exact wpAny_pure (hQ vs s.heap s.drawn (List.Perm.refl _) (Heap.SameBut.refl a s.heap) ⟨oa, va, wa, ta, ha, hax, had, ga, nda, hma, hba, hfa, hna, hra, hla⟩)
end
end Ev
namespace Ev
open PySem L2 PyProof.Rows PySem.Builtin.Frozenset
section
variable {P : Program} {w : World} {A : Around} {E : Value -> Shared -> Prop} {s : Shared} {a o : Addr} {S : Int -> Bool} {n : Nat}
def flipX (a : Addr) (e : Int × Value) : Sem Unit := holding [e.2] (do
 if !(<- setDiscardHashed a e.2 e.1) then
  let _ <- setAddHashed a e.2 e.1)
theorem flip_at {e : Int × Value} {m : Nat} (ge : GoodE e) (R : SetR w s.heap a S m) (room : m + 1 < scanBound) {Q : Unit -> Shared -> Prop}
  (hQ : ∀ h' m', Heap.SameBut a s.heap h' -> m' <= m + 1 -> SetR w h' a (fun j => S j ^^ decide (j = keyOf e)) m' -> Q () { s with heap := h' }) : wpAny (model P w) A (flipX a e) Q E s := by
 obtain ⟨k, tk, h1, h2⟩ := ge
 obtain ⟨hv, v⟩ := e
 have h1 : v = .int k tk := h1
 have h2 : hv = hashInt k := h2
 subst h1 h2
 unfold flipX
 refine wpAny_holding (wpAny_bind (setR_discard (k := k) (tk := tk) R fun h' m1 sb hm R1 => ?_))
 have hk : keyOf (hashInt k, Value.int k tk) = k := rfl
 rw [hk] at hQ
 cases hS : S k with
 | true =>
  refine wp_if_neg (by decide) ?_
  refine wpAny_pure (hQ h' m1 sb (by omega) (R1.congr fun j => ?_))
  by_cases c : j = k
  . subst c; simp [hS]
  . simp [c]
 | false =>
  refine wp_if_pos (by decide) ?_
  refine wpAny_bind (setR_add_hashed (s := { s with heap := h' }) (k := k) (tk := tk) R1 (by omega) fun h2 sb2 R2 => ?_)
  refine wpAny_pure (hQ h2 _ (sb.trans sb2) ?_ (R2.congr fun j => ?_))
  . split <;> omega
  . by_cases c : j = k
    . subst c; simp [hS]
    . simp [c]
theorem flips_at {ob : Obj} {vs : Array (Int × Value)} {was : Nat} {tb : SetTable} {id : String} (hao : a ≠ o) (hod : ob.data = .set vs was tb) (hf : tb.fits vs.size = true) :
  ∀ (l : List (Int × Value)) (s : Shared) (S : Int -> Bool) (m : Nat), (∀ e ∈ l, GoodE e) -> (l.map keyOf).Nodup -> s.heap.get? o = some ob -> SetR w s.heap a S m -> m + l.length < scanBound -> ∀ {Q : PUnit -> Shared -> Prop},
  (∀ h' m', Heap.SameBut a s.heap h' -> m' <= m + l.length -> SetR w h' a (fun j => S j ^^ decide (j ∈ l.map keyOf)) m' -> Q PUnit.unit { s with heap := h' }) ->
  wpAny (model P w) A (forIn l PUnit.unit fun e _ => do flipX a e; unchanged id o was; pure (ForInStep.yield PUnit.unit)) Q E s
 | [], s, S, m, _, _, ho, R, _, Q, hQ => wpAny_pure (hQ s.heap m (Heap.SameBut.refl a s.heap) (by simp) (R.congr fun j => by simp))
 | e :: l, s, S, m, g, nd, ho, R, hb, Q, hQ => by
  rw [List.length_cons] at hb hQ
  rw [List.map_cons] at nd
  obtain ⟨n1, n2⟩ := List.nodup_cons.mp nd
  rw [List.forIn_cons]
  refine wpAny_bind (wpAny_bind (flip_at (g e List.mem_cons_self) R (by omega) fun h' m' sb hm R1 => ?_))
  have ho1 : h'.get? o = some ob := by rw [sb.2 o (Ne.symm hao)]; exact ho
  unfold unchanged setEpoch
  refine wpAny_bind (wpAny_bind (wpAny_bind (wpAny_setState_of (s := { s with heap := h' }) ho1 hod hf (wpAny_pure ?_))))
  refine wp_if_neg (by simp) (wpAny_pure ?_)
  refine wpAny_pure ?_
  refine flips_at hao hod hf l { s with heap := h' } _ m' (fun x hx => g x (List.mem_cons_of_mem _ hx)) n2 ho1 R1 (by omega) fun h2 m2 sb2 hm2 R2 => ?_
  refine hQ h2 m2 (sb.trans sb2) (by omega) (R2.congr fun j => ?_)
  by_cases c : j = keyOf e
  . subst c; simp [n1]
  . simp [c]
end
end Ev
namespace Ev
open PySem L2 PyProof.Rows PySem.Builtin.Frozenset
section
variable {P : Program} {w : World} {A : Around} {E : Value -> Shared -> Prop} {s : Shared} {a o : Addr} {S T : Int -> Bool} {n m : Nat}
theorem any_at (h : s.TypeIs (.ref o) "set") {Q : Bool -> Shared -> Prop} (hQ : Q true s) : wpAny (model P w) A (isAnySet (.ref o)) Q E s := by
 unfold isAnySet orM
 refine wpAny_bind (wpAny_isInstance h sub_set_self ?_)
 exact wpAny_pure hQ
theorem base_at (h : s.TypeIs (.ref o) "set") {Q : Value -> Shared -> Prop} (hQ : Q (.type "set") s) : wpAny (model P w) A (baseOf o) Q E s := by
 unfold baseOf
 refine wpAny_bind (wpAny_isInstance h sub_set_self ?_)
 exact wpAny_pure hQ
theorem SetR.typeIs (R : SetR w s.heap o S n) : s.TypeIs (.ref o) "set" := by
 obtain ⟨ob, es, ep, t, ho, hex, _⟩ := R
 exact ⟨ob, ho, hex.1⟩
theorem xorUp_at {id : String} (hao : a ≠ o) (R : SetR w s.heap a S m) (Ro : SetR w s.heap o T n) (hb : m + n < scanBound) {Q : Unit -> Shared -> Prop}
  (hQ : ∀ h' d m', Heap.SameBut a s.heap h' -> m' <= m + n -> SetR w h' a (fun j => S j ^^ T j) m' -> Q () { s with heap := h', drawn := d }) : wpAny (model P w) A (symmetricDifferenceUpdate id a (.ref o)) Q E s := by
 have ht := SetR.typeIs Ro
 obtain ⟨ob, vs, was, tb, ho, hox, hod, g, nd, hm, hbv, hf, hn, hr, hl⟩ := Ro
 unfold symmetricDifferenceUpdate
 have hne : (Value.ref o == Value.ref a) = false := by
  simp
  exact Ne.symm hao
 refine wp_if_neg (by rw [hne]; decide) ?_
 try refine wpAny_bind (wpAny_pure ?_)
 refine wpAny_bind (wpAny_typeOf ht ?_)
 refine wp_if_neg (by decide) ?_
 try refine wpAny_bind (wpAny_pure ?_)
 refine wpAny_bind (any_at ht ?_)
 refine wp_if_pos rfl ?_
 refine wpAny_bind (wpAny_pure ?_)
 refine wpAny_bind (wpAny_pure ?_)
 unfold setEpoch
 refine wpAny_bind (wpAny_bind (wpAny_setState_of ho hod hf (wpAny_pure ?_)))
 refine wpAny_holding ?_
 refine wpAny_bind (unseen_at ho hod g hf hl R fun ws h1 d pm sb R1 => ?_)
 have ho1 : h1.get? o = some ob := by rw [sb.2 o (Ne.symm hao)]; exact ho
 have pk := pm.map keyOf
 have hlen : ws.toList.length = n := by rw [pm.length_eq, Array.length_toList, hn]
 rw [<- Array.forIn_toList]
 refine wpAny_bind ?_
 refine flips_at (id := id) hao hod hf ws.toList { s with heap := h1, drawn := d } S m (fun e he => g e (pm.mem_iff.mp he)) (pk.nodup_iff.mpr nd) ho1 R1 (by rw [hlen]; exact hb) fun h2 m2 sb2 hm2 R2 => ?_
 refine wpAny_pure ?_
 . rw [hlen] at hm2
   refine hQ h2 d m2 (sb.trans sb2) hm2 (R2.congr fun j => ?_)
   congr 1
   have e1 := hm j
   have e2 : j ∈ ws.toList.map keyOf ↔ j ∈ vs.toList.map keyOf := pk.mem_iff
   cases hT : T j with
   | true => exact (decide_eq_true (e2.mpr (e1.mp hT))).symm
   | false =>
    refine (decide_eq_false fun z => ?_).symm
    rw [e1.mpr (e2.mp z)] at hT
    cases hT
theorem newFrom_at {id : String} (R : SetR w s.heap o T n) (h64 : n < 64) {Q : Value -> Shared -> Prop}
  (hQ : ∀ h', (∀ b x, s.heap.get? b = some x -> h'.get? b = some x) -> SetR w h' s.heap.objs.size T n -> Q (.ref s.heap.objs.size) { s with heap := h' }) : wpAny (model P w) A (newFrom id (.type "set") (.ref o)) Q E s := by
 have hlt := R.lt
 unfold newFrom newSet
 dsimp only
 refine wpAny_bind (wpAny_bind (wpAny_byText ?_))
 simp only [newObj]
 refine wp_if_neg (by decide) ?_
 try refine wpAny_bind (wpAny_pure ?_)
 unfold newObjAsIs
 refine wpAny_bind (wpAny_alloc ?_)
 try refine wpAny_bind (wpAny_pure ?_)
 refine wpAny_pure ?_
 have hnew := Heap.get?_push_size s.heap (o := { cls := .type "set", dict := none, data := .set #[] 0 (.fresh 0 0 (!w.params.followText "set-order")) }) rfl
 have R1 : SetR w (s.heap.push { cls := .type "set", dict := none, data := .set #[] 0 (.fresh 0 0 (!w.params.followText "set-order")) }) o T n := R.at fun x e => Heap.get?_push_of_some _ e
 unfold addrOf
 refine wpAny_bind (wpAny_pure ?_)
 refine wpAny_bind (wpAny_holding ?_)
 unfold updateFrom
 refine wpAny_bind (any_at (SetR.typeIs (s := { s with heap := s.heap.push { cls := .type "set", dict := none, data := .set #[] 0 (.fresh 0 0 (!w.params.followText "set-order")) } }) R1) ?_)
 refine wp_if_pos rfl ?_
 refine wpAny_bind (wpAny_pure ?_)
 unfold merge setEpoch
 have R2 := R1
 obtain ⟨ob, vs, was, tb, ho, hox, hod, g, nd, hm, hbv, hf, hn, hr, hl⟩ := R2
 refine wpAny_bind (wpAny_bind (wpAny_setState_of ho hod hf (wpAny_pure ?_)))
 refine setR_merge R1 (Nat.ne_of_gt hlt) hnew ⟨rfl, rfl, rfl⟩ rfl h64 fun h' sb R3 => ?_
 refine wpAny_pure (hQ h' (fun b x e => ?_) R3)
 rw [sb.2 b (Nat.ne_of_lt (Heap.lt_size e))]
 exact Heap.get?_push_of_some _ e
theorem xor_eq (x y : Value) : Builtin.«frozenset.__xor__» ⟨[x, y], []⟩ = (do
  let (l, r) <- slot1 "__xor__" ⟨[x, y], []⟩
  if !(<- isAnySet l <&&> isAnySet r) then rule s!"frozenset.{"__xor__"}.declined"; return <- ret .notImplemented
  let p <- addrOf l
  let v <- (do
   let got <- newFrom s!"frozenset.{"__xor__"}" (<- baseOf p) r
   let q <- addrOf got
   holding [got] (symmetricDifferenceUpdate s!"frozenset.{"__xor__"}" q (.ref p))
   return got : Sem Value)
  ret v) := by rfl
theorem slot_set_xor : Slot "set" "__xor__" "set.__xor__" :=
 .of (owner := "set") (n := "__xor__") (by rw [typeLookup_type, builtinLookup_eq_fast]; kernel_rfl) (by decide +kernel) (by decide +kernel) (by decide +kernel)
  (by first | exact .inl (by decide +kernel) | exact .inr (by decide +kernel)) (by rw [isSubtype_type]; kernel_rfl)
theorem entry_set_xor : entryFor table "set.__xor__" = some Builtin.«frozenset.__xor__» :=
 entryFor_alias (id' := "frozenset.__xor__") (by kernel_rfl) rfl (by decide +kernel) (by kernel_rfl)
theorem args_set_xor (x y : Value) : argsOk "set.__xor__" ⟨[x, y], []⟩ := by unfold argsOk; kernel_rfl
theorem rslot_set_xor : typeLookup (.type "set") "__rxor__" = pure (some (.builtin "set.__rxor__")) := by rw [typeLookup_type, builtinLookup_eq_fast]; kernel_rfl
theorem fills_set_xor : fillsNumberSlot (.type "set") "xor" = pure true := fillsNumberSlot_of slot_set_xor.lookup (by decide +kernel) rslot_set_xor
theorem xor_at {x y : Addr} (Rx : SetR w s.heap x S m) (Ry : SetR w s.heap y T n) (hm : m < 64) (hn : n < 64) {Q : Value -> Shared -> Prop}
  (hQ : ∀ h' d p c, (∀ b o, s.heap.get? b = some o -> h'.get? b = some o) -> s.heap.objs.size <= p -> c <= n + m -> SetR w h' p (fun j => T j ^^ S j) c -> Q (.ref p) { s with heap := h', drawn := d }) : wpAny (model P w) A (binaryOp .BitXor (.ref x) (.ref y)) Q E s := by
 have tx := SetR.typeIs Rx
 have ty := SetR.typeIs Ry
 refine wpAny_binaryOp_same tx ty fills_set_xor slot_set_xor (wpAny_call_entry slot_set_xor tx entry_set_xor ?_ (args_set_xor _ _))
 rw [xor_eq]
 have es : slot1 "__xor__" ⟨[.ref x, .ref y], []⟩ = pure (.ref x, .ref y) := rfl
 rw [es, pure_bind]
 dsimp only
 unfold andM
 refine wpAny_bind (wpAny_bind (any_at tx ?_))
 refine any_at ty ?_
 refine wp_if_neg (by decide) ?_
 try refine wpAny_bind (wpAny_pure ?_)
 unfold addrOf
 refine wpAny_bind (wpAny_bind (base_at tx ?_))
 refine wpAny_bind (newFrom_at Ry hn fun h1 k1 R1 => ?_)
 refine wpAny_bind (wpAny_pure ?_)
 have hx : (x : Nat) < s.heap.objs.size := Rx.lt
 have Rx1 : SetR w h1 x S m := Rx.at fun o e => k1 x o e
 refine wpAny_bind (wpAny_holding (xorUp_at (s := { s with heap := h1 }) (Nat.ne_of_gt hx) R1 Rx1 (by unfold scanBound; omega) fun h2 d c sb hc R2 => ?_))
 refine wpAny_pure ?_
 have hne : Value.ref s.heap.objs.size ≠ .notImplemented := by
  intro z
  cases z
 refine wpAny_pure ⟨_, rfl, hne, hQ h2 d s.heap.objs.size c (fun b o e => ?_) (Nat.le_refl _) (by omega) R2⟩
 rw [sb.2 b (Nat.ne_of_lt (Heap.lt_size e))]
 exact k1 b o e
end
end Ev
namespace Ev
open PySem PySem.Spec L2 PyProof.Rows
section
variable {X : Cx}
def rSetTI (K : PySem.W.Frag) (w : World) : List V -> Hp -> VK -> Prop := fun xs H Q => ∃ (t : Addr) (ns : List Int), xs = [V.ref t] /\ SqT K H t (ns.map V.int) /\ ns.length < 64 /\
 ∀ p c, H p = none -> c <= ns.length -> Q (.ref p) (upd H p (SetO w p (fun j => decide (j ∈ ns)) c))
theorem cr_setTI (hc : X.calm = true) : CallR X (.type "set") (rSetTI X.K X.w) := by
 intro pins s σ H xs us Q I r h
 obtain ⟨t, ns, rfl, hq, hl, q⟩ := h
 rw [Vals.ref1 r]
 obtain ⟨its, rv, pt, hz⟩ := I.tuple hq
 have hn : H s.heap.objs.size = none := I.hok.fresh (Nat.le_refl _)
 refine call_set_tupI (P := X.prog) (w := X.w) ns (I.ok.hd hc) (show s.heap.IsTuple t its.toArray from pt) (ints_of_vals rv) (by unfold scanBound; omega) fun h' tk c R1 hcn k => ?_
 exact ⟨.ref s.heap.objs.size, upd H s.heap.objs.size (SetO X.w s.heap.objs.size (fun j => decide (j ∈ ns)) c), I.laid (t' := tk) k (Nat.le_refl _) (setO_new R1), rfl, q _ c hn hcn⟩
def rXor (w : World) : R2 := fun x y H Q => ∃ (a b : Addr) (S T : Int -> Bool) (m n : Nat), x = .ref a /\ y = .ref b /\ H a = some (SetO w a S m) /\ H b = some (SetO w b T n) /\ m < 64 /\ n < 64 /\
 ∀ p c, H p = none -> c <= m + n -> Q (.ref p) (upd H p (SetO w p (fun j => T j ^^ S j) c))
theorem op_xorS : OpR X (binaryOp .BitXor) (rXor X.w) := by
 intro pins s σ H x y v u Q I rx ry h
 obtain ⟨a, b, S, T, m, n, rfl, rfl, ha, hb, hm, hn, q⟩ := h
 cases rx
 cases ry
 refine xor_at (P := X.prog) (setO_get I ha) (setO_get I hb) hm hn fun h' d p c k hp hc R => ?_
 have hnp : H p = none := I.hok.fresh hp
 have J : Inv X pins σ (upd H p (SetO X.w p (fun j => T j ^^ S j) c)) { s with heap := h', gens := s.gens, drawn := d, toks := s.toks } :=
  I.call (ch := []) (Un.laid k hp hnp) (I.hok.laid k hp (setO_new R)) I.bare (fun _ z => nomatch z)
 exact ⟨.ref p, _, J, rfl, q p c hnp (by omega)⟩
end
end Ev
set_option maxHeartbeats 4000000
set_option maxRecDepth 100000
namespace Ev
open PySem PySem.Spec L2 PyProof.Rows
def voidS (w : World) : Obj := { cls := .type "set", dict := none, data := .set #[] 0 (.fresh 0 0 (!w.params.followText "set-order")) }
end Ev
set_option maxHeartbeats 1000000
set_option maxRecDepth 10000
namespace Ev
open PySem PySem.Spec L2 PyProof.Rows
theorem mem_ins {k j : Int} : ∀ l : List Int, j ∈ insI k l ↔ j = k \/ j ∈ l
 | [] => by simp [insI]
 | x :: l => by
  unfold insI
  split
  . simp
  . split
    . rename_i h; subst h; simp
    . simp only [List.mem_cons, mem_ins l]
      constructor
      . rintro (h | h | h) <;> simp [h]
      . rintro (h | h | h) <;> simp [h]
theorem ris_ins {k : Int} : ∀ {l : List Int}, l.Pairwise (· < ·) -> (insI k l).Pairwise (· < ·)
 | [], _ => by simp [insI]
 | x :: l, h => by
  obtain ⟨h1, h2⟩ := List.pairwise_cons.mp h
  unfold insI
  split
  . rename_i c
    refine List.pairwise_cons.mpr ⟨fun y hy => ?_, h⟩
    rcases List.mem_cons.mp hy with rfl | hy
    . exact c
    . exact Int.lt_trans c (h1 y hy)
  . split
    . exact h
    . refine List.pairwise_cons.mpr ⟨fun y hy => ?_, ris_ins h2⟩
      rcases (mem_ins l).mp hy with rfl | hy
      . omega
      . exact h1 y hy
theorem sym_ris (ns ms : List Int) : (symI ns ms).Pairwise (· < ·) := by
 unfold symI
 generalize (ns.filter fun k => !ms.contains k) ++ (ms.filter fun k => !ns.contains k) = l
 induction l with
 | nil => exact List.Pairwise.nil
 | cons x l ih => exact ris_ins ih
theorem mem_fold (j : Int) : ∀ l : List Int, j ∈ l.foldr insI [] ↔ j ∈ l
 | [] => by simp
 | x :: l => by rw [List.foldr_cons, mem_ins, mem_fold j l, List.mem_cons]
theorem mem_sym {ns ms : List Int} {j : Int} : j ∈ symI ns ms ↔ (decide (j ∈ ms) ^^ decide (j ∈ ns)) = true := by
 unfold symI
 rw [mem_fold, List.mem_append, List.mem_filter, List.mem_filter]
 by_cases h1 : j ∈ ns <;> by_cases h2 : j ∈ ms <;> simp [h1, h2]
theorem ris_one : ∀ {l m : List Int}, l.Pairwise (· < ·) -> m.Pairwise (· < ·) -> (∀ k, k ∈ l ↔ k ∈ m) -> l = m
 | [], [], _, _, _ => rfl
 | [], y :: m, _, _, h => absurd ((h y).mpr List.mem_cons_self) List.not_mem_nil
 | x :: l, [], _, _, h => absurd ((h x).mp List.mem_cons_self) List.not_mem_nil
 | x :: l, y :: m, h1, h2, h => by
  obtain ⟨a1, a2⟩ := List.pairwise_cons.mp h1
  obtain ⟨b1, b2⟩ := List.pairwise_cons.mp h2
  have e : x = y := by
   rcases List.mem_cons.mp ((h x).mp List.mem_cons_self) with q | q
   . exact q
   . rcases List.mem_cons.mp ((h y).mpr List.mem_cons_self) with q2 | q2
     . exact q2.symm
     . have := b1 x q
       have := a1 y q2
       omega
  subst e
  congr 1
  refine ris_one a2 b2 fun k => ?_
  have hk := h k
  rw [List.mem_cons, List.mem_cons] at hk
  constructor
  . intro z
    rcases hk.mp (.inr z) with q | q
    . subst q; exact absurd (a1 _ z) (Int.lt_irrefl _)
    . exact q
  . intro z
    rcases hk.mpr (.inr z) with q | q
    . subst q; exact absurd (b1 _ z) (Int.lt_irrefl _)
    . exact q
section
variable {X : Cx} {a b : Expr} {ta tb : TE}
def rTup (K : PySem.W.Frag) : List V -> Hp -> VK -> Prop := fun xs H Q => ∃ p ys, xs = [.ref p] /\ ((SqL K H p ys /\ ∀ l ob, H l = none -> ob.dict = none -> Q (.ref l) (upd H l (.frz ob (.tup ys)))) \/ (SqT K H p ys /\ Q (.ref p) H))
theorem pe_sx {p1 p2 p3 p4 q1 q2 q3 q4 q5 : Pos} (hc : X.calm = true) (g1 : Gl X "tuple") (m1 : X.mg "tuple" = none) (g2 : Gl X "sorted") (m2 : X.mg "sorted" = none) (g3 : Gl X "set") (m3 : X.mg "set" = none) (ha : PE X a ta) (hb : PE X b tb)
  (na : starEach [a] X.env = (false, eval a X.env) :: starEach [] X.env := by rfl) (nb : starEach [b] X.env = (false, eval b X.env) :: starEach [] X.env := by rfl) :
  PE X (.Call (.Name "tuple" p1) [.Call (.Name "sorted" p2) [.BinOp (.Call (.Name "set" p3) [a] [] q3) .BitXor (.Call (.Name "set" p4) [b] [] q4) q5] [] q2] [] q1)
   (tCB (rTup X.K) (tCons (tCB (rSortedSet X.w) (tCons (tOp (rXor X.w) (tCB (rSetTI X.K X.w) (tCons ta tNil)) (tCB (rSetTI X.K X.w) (tCons tb tNil))) tNil)) tNil)) :=
 pe_callTy call_tupZ g1 m1 PyProof.Rows.boot_tuple (pa_cons (pe_callB (cr_sortedSet hc) g2 m2 PyProof.Rows.boot_sorted (pa_cons (pe_op op_xorS (pe_callTy (cr_setTI hc) g3 m3 PyProof.Rows.boot_set (pa_cons ha pa_nil (hs := na)) (he := na)) (pe_callTy (cr_setTI hc) g3 m3 PyProof.Rows.boot_set (pa_cons hb pa_nil (hs := nb)) (he := nb))) pa_nil)) pa_nil)
end
end Ev
namespace Ev
open PySem PySem.Spec L2 PyProof.Rows
theorem intsL_map : ∀ {ds : List D} {ns : List Int}, intsL ds = some ns -> ds = ns.map .int
 | [], ns, h => by cases h; rfl
 | d :: ds, ns, h => by
  cases d <;> simp only [intsL, reduceCtorEq, Option.map_eq_some_iff] at h
  obtain ⟨ms, h1, rfl⟩ := h
  rw [intsL_map h1]
  rfl
theorem intsT_tup {d : D} {ns : List Int} (h : intsT d = some ns) : d = .tuple (ns.map .int) /\ ns.length < 64 := by
 cases d <;> simp only [intsT, reduceCtorEq] at h
 rename_i ds
 obtain ⟨ms, h1, h2⟩ := Option.bind_eq_some_iff.mp h
 by_cases c : ms.length < 64
 . rw [if_pos c] at h2
   cases h2
   rw [intsL_map h1]
   exact ⟨rfl, c⟩
 . rw [if_neg c] at h2
   cases h2
theorem ints_dps {K : PySem.W.Frag} {F : Hp} : ∀ ns : List Int, DpAll K F (ns.map V.int) (ns.map .int)
 | [] => .nil
 | _ :: ns => .cons (.int _) (ints_dps ns)
theorem dps_int {K : PySem.W.Frag} {F : Hp} : ∀ {xs : List V} {ns : List Int}, DpAll K F xs (ns.map .int) -> xs = ns.map V.int
 | [], [], _ => rfl
 | _ :: _, n :: ns, h => by
  cases h with
  | cons h1 h2 =>
   cases h1
   rw [dps_int h2]
   rfl
section
variable {X : Cx} {W : WX} {ea eb : Expr} {ca cb : Vc}
theorem pv_sx {p1 p2 p3 p4 q1 q2 q3 q4 q5 : Pos} (hc : X.calm = true) (g1 : Gl X "tuple") (m1 : X.mg "tuple" = none) (g2 : Gl X "sorted") (m2 : X.mg "sorted" = none) (g3 : Gl X "set") (m3 : X.mg "set" = none) (ha : PV X W ea ca) (hb : PV X W eb cb)
  (na : starEach [ea] X.env = (false, eval ea X.env) :: starEach [] X.env := by rfl) (nb : starEach [eb] X.env = (false, eval eb X.env) :: starEach [] X.env := by rfl) :
  PV X W (.Call (.Name "tuple" p1) [.Call (.Name "sorted" p2) [.BinOp (.Call (.Name "set" p3) [ea] [] q3) .BitXor (.Call (.Name "set" p4) [eb] [] q4) q5] [] q2] [] q1) (sxC ca cb) :=
 pe_imp (pe_sx hc g1 m1 g2 m2 g3 m3 (pv_d ha) (pv_d hb) na nb) fun σ H Q q => by
  obtain ⟨L, G, F, e, r, a⟩ := q
  simp only [tCB, tCons, tNil, tOp]
  refine ⟨L, G, F, e, r, (After.bind (P1 := AOk X.K) a).mono fun x H1 z => ?_⟩
  obtain ⟨F1, e1, d, r1, st1, k1, a1⟩ := z
  obtain ⟨ns, hns, a2⟩ := a1.ofO
  have k1 : Ar X.K F1 H1 x d := k1
  obtain ⟨rfl, hl⟩ := intsT_tup hns
  obtain ⟨ad, xs, rfl, h1, _, h2⟩ := ar_tup r1.fh k1
  cases dps_int h2
  refine ⟨ad, ns, rfl, h1, hl, fun p c hp hcn => ?_⟩
  obtain ⟨r2, st2⟩ := r1.lay (o := SetO X.w p (fun j => decide (j ∈ ns)) c) hp (by unfold SetO; trivial)
  refine ⟨L, G, _, e1, r2, (After.bind (P1 := AOk X.K) (After.step a2 st2)).mono fun y H2 z2 => ?_⟩
  obtain ⟨F3, e3, d', r3, st3, k3, a3⟩ := z2
  obtain ⟨ms, hms, a4⟩ := a3.ofO
  have k3 : Ar X.K F3 H2 y d' := k3
  obtain ⟨rfl, hl2⟩ := intsT_tup hms
  obtain ⟨ad2, ys, rfl, h3, _, h4⟩ := ar_tup r3.fh k3
  cases dps_int h4
  obtain ⟨dd, hdd, a5⟩ := a4.ofO
  have hsum : ns.length + ms.length < 64 := by
   apply Classical.byContradiction
   intro z
   rw [if_neg z] at hdd
   cases hdd
  rw [if_pos hsum] at hdd
  cases hdd
  have hp2 : H2 p = some (SetO X.w p (fun j => decide (j ∈ ns)) c) := r3.fh _ _ (st3.s _ _ upd_same)
  refine ⟨ad2, ms, rfl, h3, hl2, fun p' c' hp' hcn' => ?_⟩
  have n1 : p ≠ p' := ne_of_none hp2 hp'
  refine ⟨p, p', _, _, c, c', rfl, rfl, (upd_ne n1).trans hp2, upd_same, by omega, by omega, fun p3 c3 hp3 hc3 => ?_⟩
  refine ⟨p3, _, c3, rfl, upd_same, by omega, fun out p4 o1 o2 o3 hp4 => ?_⟩
  refine ⟨p4, _, rfl, .inl ⟨SqL.of upd_same, fun l ob hl hob => ?_⟩⟩
  have eo : out = symI ns ms := ris_one o1 (sym_ris ns ms) fun k => (o2 k).trans mem_sym.symm
  subst eo
  have r4 := r3.put (o := SetO X.w p' (fun j => decide (j ∈ ms)) c') hp'
  have r5 := r4.put (o := SetO X.w p3 (fun j => decide (j ∈ ms) ^^ decide (j ∈ ns)) c3) hp3
  have r6 := r5.put (o := .lst ((symI ns ms).map V.int)) hp4
  obtain ⟨r7, st7⟩ := r6.lay (o := .frz ob (.tup ((symI ns ms).map V.int))) hl hob
  exact a5 (.ref l) _ _ r7 st7 (.tup (.inl (.inr ⟨ob, upd_same⟩)) (ints_dps _))
def rSetLI (K : PySem.W.Frag) (w : World) : List V -> Hp -> VK -> Prop := fun xs H Q => ∃ (t : Addr) (ns : List Int), xs = [V.ref t] /\ SqL K H t (ns.map V.int) /\ ns.length <= 4000 /\
 ∀ p, H p = none -> Q (.ref p) (upd H p (SetO w p (fun j => decide (j ∈ ns)) (ns.foldr insI []).length))
theorem fold_ris : ∀ l : List Int, (l.foldr insI []).Pairwise (· < ·)
 | [] => List.Pairwise.nil
 | _ :: l => ris_ins (fold_ris l)
theorem ris_nodup {l : List Int} (h : l.Pairwise (· < ·)) : l.Nodup := h.imp fun h => by omega
def rSetXI (K : PySem.W.Frag) (w : World) : List V -> Hp -> VK -> Prop := fun xs H Q => rSetLI K w xs H Q \/ rSetTI K w xs H Q
def rSetTW (K : PySem.W.Frag) (P : Program) (w : World) : List V -> Hp -> VK -> Prop := fun xs H Q => ∃ (l : Addr) (ks : List (Addr × List Int)), xs = [V.ref l] /\ SqT K H l (ks.map fun p => V.ref p.1) /\ (∀ p ∈ ks, SqT K H p.1 (p.2.map V.int)) /\ FewR ks /\
 ∀ a L, H a = none -> (∀ p ∈ L, p ∈ ks) -> (∀ p ∈ ks, p.2 ∈ L.map (·.2)) -> Q (.ref a) (upd H a (SetTO P w a L))
def rSetLW (K : PySem.W.Frag) (P : Program) (w : World) : List V -> Hp -> VK -> Prop := fun xs H Q => ∃ (l : Addr) (ks : List (Addr × List Int)), xs = [V.ref l] /\ SqL K H l (ks.map fun p => V.ref p.1) /\ (∀ p ∈ ks, SqT K H p.1 (p.2.map V.int)) /\ FewR ks /\
 ∀ a L, H a = none -> (∀ p ∈ L, p ∈ ks) -> (∀ p ∈ ks, p.2 ∈ L.map (·.2)) -> Q (.ref a) (upd H a (SetTO P w a L))
def rSortW (K : PySem.W.Frag) (P : Program) (w : World) : List V -> Hp -> VK -> Prop := fun vs H Q => ∃ (a : Addr) (L : List (Addr × List Int)), vs = [V.ref a] /\ H a = some (SetTO P w a L) /\ (∀ p ∈ L, SqT K H p.1 (p.2.map V.int)) /\ (∀ p ∈ L, p.2 ≠ []) /\
 ∀ (L' : List (Addr × List Int)) (p : Addr), (∀ q, q ∈ L' ↔ q ∈ L) -> (L'.map (·.2)).Nodup -> (L'.map (·.2)).Pairwise (· <= ·) -> H p = none -> Q (.ref p) (upd H p (.lst (L'.map fun q => V.ref q.1)))
def SetSO (P : Program) (w : World) (a : Addr) (l : List Str) : HO := .ext fun h => TxSet P w h a l
def rSetTS (K : PySem.W.Frag) (P : Program) (w : World) : List V -> Hp -> VK -> Prop := fun xs H Q => ∃ (l : Addr) (ys : List Str), xs = [V.ref l] /\ SqT K H l (ys.map V.str) /\ ys.length < 64 /\ ∀ p, H p = none -> Q (.ref p) (upd H p (SetSO P w p (ddT ys)))
def rSetLS (K : PySem.W.Frag) (P : Program) (w : World) : List V -> Hp -> VK -> Prop := fun xs H Q => ∃ (l : Addr) (ys : List Str), xs = [V.ref l] /\ SqL K H l (ys.map V.str) /\ ys.length < 64 /\ ∀ p, H p = none -> Q (.ref p) (upd H p (SetSO P w p (ddT ys)))
def rSortS (P : Program) (w : World) : List V -> Hp -> VK -> Prop := fun vs H Q => ∃ (a : Addr) (l : List Str), vs = [V.ref a] /\ H a = some (SetSO P w a l) /\ l.length < 64 /\
 ∀ (xs : List Str) (p : Addr), xs.length = l.length -> (∀ k, k ∈ xs ↔ k ∈ l) -> xs.Pairwise (fun x y => x.cps.toList <= y.cps.toList) -> H p = none -> Q (.ref p) (upd H p (.lst (xs.map V.str)))
def rSetXA (K : PySem.W.Frag) (P : Program) (w : World) : List V -> Hp -> VK -> Prop := fun xs H Q => rSetXI K w xs H Q \/ rSetLW K P w xs H Q \/ rSetTW K P w xs H Q \/ rSetTS K P w xs H Q \/ rSetLS K P w xs H Q
def rSortA (K : PySem.W.Frag) (P : Program) (w : World) : List V -> Hp -> VK -> Prop := fun xs H Q => rSortedSet w xs H Q \/ rSortW K P w xs H Q \/ rSortS P w xs H Q
end
end Ev
set_option maxRecDepth 100000
set_option maxHeartbeats 2000000
namespace Ev
open PySem PySem.Spec PyProof.Rows L2
end Ev
namespace Ev
open PySem PySem.Spec PyProof.Rows L2
def wAs2 (K : PySem.W.Frag) (cs : List Value) (i : Nat) (ts : Addr -> Value -> Option Addr -> TS) (Wout : WX) (D : Ends) : WX := fun cls d σ H =>
 ∃ b, PySem.W.exmAny K cls cs = some b /\ if b then ∀ a, H a = none -> ts a cls d ⟨fun σ' H' => D.nx (σ'.set i none) H', D.rt, fun σ' H' => D.bk (σ'.set i none) H', fun σ' H' => D.ct (σ'.set i none) H'⟩ (σ.set i (some (.ref a))) H else Wout cls d σ H
end Ev
namespace Ev
open PySem PySem.Spec PyProof.Rows L2
def rIsX (K : PySem.W.Frag) (C a dd : Addr) : List V -> Hp -> VK -> Prop := fun xs H Q => (∃ fs, H dd = some (.xd fs)) /\
 ((∃ (c : V) (cv : Value) (b : Bool), xs = [.ref a, c] /\ (∀ u, RelV c u -> u = cv) /\ PySem.W.kitOne K (.ref C) cv = some b /\ Q (.bl b) H) \/
  (∃ (t : Addr) (cs : List V) (cvs : List Value) (b : Bool), xs = [.ref a, .ref t] /\ SqT K H t cs /\ (∀ us, Vals cs us -> us = cvs) /\ PySem.W.kitAny K (.ref C) cvs = some b /\ Q (.bl b) H))
end Ev
namespace Ev
open PySem PySem.Spec PyProof.Rows L2
section
variable {X : Cx} {W : WX} {BN : List String} {GL : List (String × D)} {KB : List KbE} {G : Gm}
def Cn (X : Cx) (x : String) (v : V) (u : Value) : Prop := (X.mg (T x) = some u \/ (X.mg (T x) = none /\ bootBuiltins (T x) = some u /\ T x ≠ "__name__")) /\ RelV v u /\ ∀ u', RelV v u' -> u' = u
end
end Ev
namespace Ev
open PySem PySem.Spec PyProof.Rows L2
section
variable {X : Cx} {W : WX} {G : Gm}
inductive CNs (X : Cx) : List String -> List Expr -> Prop where
 | nil : CNs X [] []
 | cons {x : String} {xs : List String} {es : List Expr} {p : Pos} : Gl X (T x) -> (T x == ("__debug__" : Str)) = false -> CNs X xs es -> CNs X (x :: xs) (.Name (T x) p :: es)
def OnlyV (v : V) (u : Value) : Prop := RelV v u /\ ∀ u', RelV v u' -> u' = u
theorem any_cons {c : Str} {x : String} {xs : List String} {b : Bool} (h : anyX G c (x :: xs) = some b) : ∃ b1 b2, G.sub c x = some b1 /\ anyX G c xs = some b2 /\ b = (b1 || b2) := by
 unfold anyX at h
 split at h
 . rename_i b1 b2 h1 h2
   cases h
   exact ⟨b1, b2, h1, h2, rfl⟩
 . cases h
variable {i : Nat} {n : Str} {cs : List String} {es : List Expr} {p p1 p2 p3 pos : Pos} {k : Nat}
variable {ea eb : Expr} {ca cb : Vc} {l : Bool}
end
end Ev
namespace Ev
open PySem PySem.Spec PyProof.Rows L2
section
variable {X : Cx} {W : WX} {G : Gm} {i : Nat} {cs : List String} {b su : Sc}
def tB (X : Cx) (b : Sc) (W : WX) : TS := fun D σ H => ∃ (L : Fr) (Gh F : Hp) (e : Env), L.xa = none /\ Rel X.K L Gh F H σ e /\ AfterS X W L Gh F D (b e)
def tSu (X : Cx) (su : Sc) (a : Addr) (cls : Value) (d : Option Addr) : TS := fun D σ H => ∃ (L : Fr) (C dd : Addr) (x : Str) (Gh F : Hp) (e : Env), L.xa = some (a, C, dd, x) /\ cls = .ref C /\ d = some dd /\ X.mg x = some (.ref C) /\ Rel X.K L Gh F H σ e /\ AfterS X W0 L Gh F D (su e)
abbrev offD (i : Nat) (D : Ends) : Ends := ⟨fun σ' H' => D.nx (σ'.set i none) H', D.rt, fun σ' H' => D.bk (σ'.set i none) H', fun σ' H' => D.ct (σ'.set i none) H'⟩
variable {n : Str} {body sts : List Stmt} {st0 : Stmt} {p1 p2 p3 p4 pos : Pos} {k : Nat}
def tSo (X : Cx) (su : Sc) : TS := fun D σ H => ∃ (L : Fr) (Gh F : Hp) (e : Env), L.xa = none /\ Rel X.K L Gh F H σ e /\ AfterS X W0 L Gh F D (su e)
end
end Ev
set_option maxHeartbeats 1000000
set_option maxRecDepth 10000
namespace Ev
open PySem PySem.Spec PyProof.Rows L2
section
variable {X : Cx} {W : WX} {xo ek ex ea : Expr} {c ca cb : Vc} {pos : Pos}
def SqTp (K : PySem.W.Frag) (H : Hp) (a : Addr) (xs : List V) : Prop := (∃ ob, H a = some (.frz ob (.tup xs)) /\ ob.dict = none) \/
  ∃ (o : Obj) (its : Array Value) (n : Nat), K.lookup a = some o /\ o.cls = .type "tuple" /\ o.dict = none /\ o.data = .seq its n /\ its.size <= sizeLine /\ Vals xs its.toList
theorem SqTp.mono {K : PySem.W.Frag} {F F' : Hp} {a : Addr} {xs : List V} (s : Same F F') (h : SqTp K F a xs) : SqTp K F' a xs := by
 rcases h with ⟨ob, h1, h2⟩ | h
 . exact .inl ⟨ob, s _ _ h1, h2⟩
 . exact .inr h
def rDictT (K : PySem.W.Frag) : List V -> Hp -> VK -> Prop := fun xs H Q => ∃ (a : Addr) (ps : List Addr) (kvs : List (L2.Key × V)), xs = [V.ref a] /\ SqTp K H a (ps.map V.ref) /\ Paired (fun p kv => SqT K H p [kV kv.1, kv.2]) ps kvs /\ ∀ p, H p = none -> Q (.ref p) (upd H p (.dK (mergeK [] kvs)))
def rDmk (K : PySem.W.Frag) : List V -> Hp -> VK -> Prop := fun xs H Q => ∃ (a : Addr) (ps : List Addr) (kvs : List (L2.Key × V)), xs = [V.ref a] /\ (SqL K H a (ps.map V.ref) \/ SqTp K H a (ps.map V.ref)) /\ Paired (fun p kv => SqT K H p [kV kv.1, kv.2]) ps kvs /\ ∀ p, H p = none -> Q (.ref p) (upd H p (.dK (mergeK [] kvs)))
def rTix (K : PySem.W.Frag) : V -> List V -> Hp -> VK -> Prop := fun x xs H Q => ∃ p, ∃ ys : List Str, ∃ z j, x = .ref p /\ xs = [.str z] /\ SqT K H p (ys.map V.str) /\ ys[j]? = some z /\ (∀ m, m < j -> ys[m]? ≠ some z) /\ Q (.int (j : Nat)) H
def rLenS (w : World) : List V -> Hp -> VK -> Prop := fun xs H Q => ∃ (a : Addr) (S : Int -> Bool) (n : Nat), xs = [V.ref a] /\ H a = some (SetO w a S n) /\ (n : Int) < 2 ^ 63 /\ Q (.int n) H
def LenAt (h : Heap) (a : Addr) (n : Nat) : Prop := ∃ (es : Array (Int × Value)) (ep : Nat) (t : SetTable), (∃ o, h.get? a = some o /\ o.ExactSet /\ o.data = .set es ep t) /\ t.fits es.size = true /\ es.size = n
def LenO (a : Addr) (n : Nat) : HO := .ext fun h => LenAt h a n
def rSetS (K : PySem.W.Frag) : List V -> Hp -> VK -> Prop := fun xs H Q => ∃ (l : Addr) (ys : List Str), xs = [V.ref l] /\ SqT K H l (ys.map V.str) /\ ys.length <= 4000 /\ ∀ p, H p = none -> Q (.ref p) (upd H p (LenO p (unl ys ys.length)))
def rLenO : List V -> Hp -> VK -> Prop := fun xs H Q => ∃ (a : Addr) (n : Nat), xs = [V.ref a] /\ H a = some (LenO a n) /\ (n : Int) < 2 ^ 63 /\ Q (.int n) H
def rSetSL (K : PySem.W.Frag) : List V -> Hp -> VK -> Prop := fun xs H Q => ∃ (l : Addr) (ys : List Str), xs = [V.ref l] /\ SqL K H l (ys.map V.str) /\ ys.length <= 4000 /\ ∀ p, H p = none -> Q (.ref p) (upd H p (LenO p (unl ys ys.length)))
def rSetN (K : PySem.W.Frag) : List V -> Hp -> VK -> Prop := fun xs H Q => ∃ (l : Addr) (ks : List (Addr × List Int)), xs = [V.ref l] /\ (SqT K H l (ks.map fun p => V.ref p.1) \/ SqL K H l (ks.map fun p => V.ref p.1)) /\ (∀ p ∈ ks, SqT K H p.1 (p.2.map V.int)) /\ FewR ks /\
 ∀ a, H a = none -> Q (.ref a) (upd H a (LenO a (ddW (ks.map (·.2))).length))
def SOk : Rl Str Str := fun _ _ _ _ _ a b => a = b
end
end Ev
namespace Ev
open PySem PySem.Spec PyProof.Rows L2
abbrev KD (P : Program) (w : World) : HeapKind P w (List Int) := tupleKind (PySem.intKind P w)
theorem dtO_ok {P : Program} {w : World} {H : Hp} {h : Heap} {a : Addr} {es : Array DictEntry} {ep : Nat} (r : DT.Raw h a es ep) (hd : (a == sysModules) = false) : ObjOk P w H h a (dtO a es ep) :=
 ⟨⟨r, hd⟩, let ⟨o, ho, _⟩ := r; ⟨o, ho⟩, fun _ _ x k => ⟨x.1.at' k, x.2⟩⟩
theorem ints_are {P : Program} {w : World} : ∀ {k : List Int} {its : List Value}, Vals (k.map V.int) its -> ItemsAre (PySem.intKind P w) k its
 | [], _, .nil => .nil
 | i :: k, _, .cons r t => .cons (by obtain ⟨n, rfl⟩ := r; simp [PySem.intKind, Value.isInt]) (ints_are t)
section
variable {X : Cx} {pins : List (Addr × Obj)} {σ : L2.St} {H F : Hp} {s : Shared} {a q : Addr} {es : Array DictEntry} {ep : Nat} {k : List Int} {kvs : List (List Int × D)}
theorem key_at (I : Inv X pins σ H s) (h : SqT X.K H q (k.map V.int)) : (KD X.prog X.w).is s.heap k q := by
 obtain ⟨its, v, ⟨o, ho, hc, n, hd⟩, _⟩ := I.tuple h
 exact ⟨o, its.toArray, n, ho, hc, hd, by simpa using ints_are v⟩
abbrev XsOk (K : PySem.W.Frag) (F : Hp) : List (List Int × Addr × Value) -> List (List Int × D) -> Prop := Paired fun x p => x.1 = p.1 /\ SqT K F x.2.1 (x.1.map V.int) /\ ∃ v, RelV v x.2.2 /\ Dp K F v p.2
theorem kt_xs {P : Program} {w : World} {K : PySem.W.Frag} : ∀ {l : List DictEntry} {kvs : List (List Int × D)}, KtOk K F l kvs -> ∃ xs, l = xs.map (entryOfKey (KD P w)) /\ XsOk K F xs kvs
 | _, _, .nil => ⟨[], rfl, .nil⟩
 | _, _, .cons (k := k) (q := q) (u := u) h1 h2 h3 t => by
  obtain ⟨xs, e, p⟩ := kt_xs (P := P) (w := w) t
  exact ⟨(k, q, u) :: xs, by rw [e]; rfl, .cons ⟨rfl, h1, _, h2, h3⟩ p⟩
theorem xs_kt {P : Program} {w : World} {K : PySem.W.Frag} : ∀ {xs : List (List Int × Addr × Value)} {kvs : List (List Int × D)}, XsOk K F xs kvs -> KtOk K F (xs.map (entryOfKey (KD P w))) kvs
 | _, _, .nil => .nil
 | _, _, .cons (a := x) (b := p) ⟨h1, h2, v, h3, h4⟩ t => by
  obtain ⟨k, qu⟩ := x
  obtain ⟨k', d⟩ := p
  cases (show k = k' from h1)
  exact .cons h2 h3 h4 (xs_kt t)
theorem xs_keys {K : PySem.W.Frag} : ∀ {xs : List (List Int × Addr × Value)} {kvs : List (List Int × D)}, XsOk K F xs kvs -> xs.map (·.1) = kvs.map (·.1)
 | _, _, .nil => rfl
 | _, _, .cons h t => by rw [List.map_cons, List.map_cons, xs_keys t, h.1]
theorem dt_kit (I : Inv X pins σ H s) (sub : ∀ b ys, SqT X.K F b ys -> SqT X.K H b ys) (e : H a = some (dtO a es ep)) (kt : KtOk X.K F es.toList kvs) (nd : (kvs.map (·.1)).Nodup) :
  ∃ xs, s.heap.DictOfH (KD X.prog X.w) a xs /\ XsOk X.K F xs kvs /\ (a == sysModules) = false := by
 obtain ⟨xs, ex, p⟩ := kt_xs (P := X.prog) (w := X.w) kt
 obtain ⟨⟨⟨o, ho, hx, hd⟩, hs⟩, _⟩ := (show ObjOk X.prog X.w H s.heap a (dtO a es ep) from I.hok a _ e)
 refine ⟨xs, ⟨o, es, ep, ho, hx, hd, ex, fun x hx => ?_, by rw [xs_keys p]; exact nd⟩, p, hs⟩
 have all : ∀ {l : List (List Int × Addr × Value)} {m : List (List Int × D)}, XsOk X.K F l m -> ∀ x ∈ l, SqT X.K F x.2.1 (x.1.map V.int) := by
  intro l m z
  induction z with
  | nil => intro x hx; cases hx
  | cons h _ ih =>
   intro x hx
   rcases List.mem_cons.mp hx with rfl | hx
   . exact h.2.1
   . exact ih x hx
 exact key_at I (sub _ _ (all p x hx))
theorem xs_at {K : PySem.W.Frag} {k : List Int} : ∀ {xs : List (List Int × Addr × Value)} {kvs : List (List Int × D)}, XsOk K F xs kvs -> match atT kvs k with
  | none => atKey xs k = none
  | some d => ∃ p v, atKey xs k = some p /\ RelV v p.2 /\ Dp K F v d
 | _, _, .nil => rfl
 | x :: xs, p :: kvs, .cons h t => by
  have ih := xs_at (k := k) t
  unfold atT atKey at *
  rw [List.find?_cons, List.find?_cons, h.1]
  by_cases c : p.1 = k
  . rw [decide_eq_true c]
    obtain ⟨_, v, h3, h4⟩ := h.2
    exact ⟨_, v, rfl, h3, h4⟩
  . rw [decide_eq_false c]
    exact ih
theorem xs_some {K : PySem.W.Frag} {k : List Int} {xs : List (List Int × Addr × Value)} (p : XsOk K F xs kvs) : (atKey xs k).isSome = (atT kvs k).isSome := by
 have h := xs_at (k := k) p
 cases c : atT kvs k with
 | none =>
  rw [c] at h
  rw [h]
  rfl
 | some d =>
  rw [c] at h
  obtain ⟨p, v, e, _⟩ := h
  rw [e]
  rfl
theorem xs_put {K : PySem.W.Frag} {k : List Int} {xs : List (List Int × Addr × Value)} {u : Value} {v : V} {d : D} (p : XsOk K F xs kvs) (hq : SqT K F q (k.map V.int)) (ru : RelV v u) (dv : Dp K F v d) : XsOk K F (storedH xs k q u) (putT2 kvs k d) := by
 have e := xs_some (k := k) p
 unfold storedH putT2
 rw [e]
 cases c : (atT kvs k).isSome with
 | true =>
  rw [if_pos rfl, if_pos rfl]
  clear e c
  induction p with
  | nil => exact .nil
  | @cons x y xs ys h t ih =>
   refine .cons ?_ ih
   unfold putAt
   by_cases c : x.1 = k
   . dsimp only
     rw [if_pos c, if_pos (h.1 ▸ c)]
     exact ⟨h.1, h.2.1, v, ru, dv⟩
   . dsimp only
     rw [if_neg c, if_neg (h.1 ▸ c)]
     exact h
 | false =>
  rw [if_neg Bool.false_ne_true, if_neg Bool.false_ne_true]
  clear e c
  induction p with
  | nil => exact .cons ⟨rfl, hq, v, ru, dv⟩ .nil
  | cons h t ih => exact .cons h ih
variable {A : Around} {E : Value -> Shared -> Prop}
theorem dt_get {Q : Value -> Shared -> Prop} {d : D} (hu : A.units + 1 < cLine) (I : Inv X pins σ H s) (sub : ∀ b ys, SqT X.K F b ys -> SqT X.K H b ys) (e : H a = some (dtO a es ep)) (kt : KtOk X.K F es.toList kvs) (nd : (kvs.map (·.1)).Nodup) (hk : SqT X.K H q (k.map V.int)) (g : atT kvs k = some d)
  (h : ∀ v u s', Inv X pins σ H s' -> RelV v u -> Dp X.K F v d -> Q u s') : wpAny (model X.prog X.w) A (getItem (.ref a) (.ref q)) Q E s := by
 obtain ⟨xs, dd, p, hd⟩ := dt_kit I sub e kt nd
 have x := xs_at (k := k) p
 rw [g] at x
 obtain ⟨pr, v, e1, e2, e3⟩ := x
 exact wpAny_getItem_heap (tupleKind_room_in1 hu) (key_at I hk) dd e1 (h v _ _ (I.tok _) e2 e3)
theorem dt_put {Q : Unit -> Shared -> Prop} {d : D} {v : V} {u : Value} (hu : A.units + 1 < cLine) (I : Inv X pins σ H s) (sub : ∀ b ys, SqT X.K F b ys -> SqT X.K H b ys) (e : H a = some (dtO a es ep)) (kt : KtOk X.K F es.toList kvs) (nd : (kvs.map (·.1)).Nodup) (hl : kvs.length <= sizeLine)
  (hk : SqT X.K F q (k.map V.int)) (ru : RelV v u) (dv : Dp X.K F v d)
  (h : ∀ s' es' ep', KtOk X.K F es'.toList (putT2 kvs k d) -> Inv X pins σ (upd H a (dtO a es' ep')) s' -> Q () s') : wpAny (model X.prog X.w) A (setItem (.ref a) (.ref q) u) Q E s := by
 obtain ⟨xs, dd, p, hd⟩ := dt_kit I sub e kt nd
 have len : xs.length <= sizeLine := by
  have := congrArg List.length (xs_keys p)
  rw [List.length_map, List.length_map] at this
  omega
 refine wpAny_setItem_heap (hsz := len) (tupleKind_room_in1 hu) (key_at I (sub _ _ hk)) dd fun h' dd' hs => ?_
 obtain ⟨o, es', ep', ho, hx, hd', hes, _, _⟩ := dd'
 refine h _ es' ep' ?_ (d_write I (by rw [e]; exact True.intro) hs ⟨o, ho⟩ (dtO_ok ⟨o, ho, hx, hd'⟩ hd))
 rw [hes]
 exact xs_kt (xs_put p hk ru dv)
theorem dt_len {Q : Value -> Shared -> Prop} (I : Inv X pins σ H s) (sub : ∀ b ys, SqT X.K F b ys -> SqT X.K H b ys) (e : H a = some (dtO a es ep)) (kt : KtOk X.K F es.toList kvs) (nd : (kvs.map (·.1)).Nodup) (hl : kvs.length <= sizeLine)
  (h : ∀ t s', Inv X pins σ H s' -> Q (.int (kvs.length : Nat) t) s') : wpAny (model X.prog X.w) A (call (.builtin "len") [.ref a]) Q E s := by
 obtain ⟨xs, dd, p, hd⟩ := dt_kit I sub e kt nd
 have len : xs.length = kvs.length := by
  have := congrArg List.length (xs_keys p)
  rwa [List.length_map, List.length_map] at this
 have big : sizeLine = 16777216 := rfl
 refine call_len_dictH hd dd (by omega) ?_
 rw [len]
 exact h _ _ (I.tok _)
end
end Ev
namespace Ev
open PySem PySem.Spec PyProof.Rows L2
def Tdg (K : PySem.W.Frag) (F H : Hp) (a : Addr) (kvs : List (List Int × D)) : Prop := Same F H /\ (kvs.map (·.1)).Nodup /\ ∃ es ep, H a = some (dtO a es ep) /\ KtOk K F es.toList kvs
theorem trS_var {i : Nat} {e : Env} {u : Ot} (h : trS e[i]? = some u) : varC i e = .ok (.slot i) e := by
 unfold trS at h
 unfold varC
 split at h
 . rename_i t l u' he
   rw [he]
 . rename_i u' he
   rw [he]
 . cases h
section
variable {X : Cx} {W : WX} {L : Fr} {G F H : Hp} {σ : L2.St} {e : Env} {i : Nat} {s : Shared} {pins : List (Addr × Obj)}
theorem tree_now {u : Ot} (r : Rel X.K L G F H σ e) (h : trS e[i]? = some u) : ∃ v, sg σ i = some v /\ TBk X.K H F v u := by
 unfold trS at h
 split at h
 . rename_i t l u' he
   cases h
   obtain ⟨a, e1, ⟨_, _, o, q3, q4⟩, _⟩ := r.sl i _ he
   obtain ⟨_, t2, _⟩ := cr_tr q4
   exact ⟨_, e1, t2.tb fun _ _ => rfl⟩
 . rename_i u' he
   cases h
   obtain ⟨v, e1, t⟩ := r.sl i _ he
   exact ⟨v, e1, t.mono (fun a o z => r.gh _ _ (r.nw.tg i _ _ z)) (Same.refl F)⟩
 . cases h
theorem td_tr {o : Option Sl} {kvs : List (List Int × D)} (h : tdS o = some kvs) : trS o = some (.d kvs) := by
 unfold tdS at h
 obtain ⟨u, h1, h2⟩ := Option.bind_eq_some_iff.mp h
 cases u <;> simp only [dtT, reduceCtorEq, Option.some.injEq] at h2
 rw [h1, h2]
theorem td_now {kvs : List (List Int × D)} (r : Rel X.K L G F H σ e) (h : tdS e[i]? = some kvs) : ∃ a, sg σ i = some (.ref a) /\ Tdg X.K F H a kvs := by
 obtain ⟨v, e1, t⟩ := tree_now r (td_tr h)
 cases t with
 | d h1 h2 h3 => exact ⟨_, e1, r.fh, h3, _, _, h1, h2⟩
theorem tdM_some {o : Option Sl} {p : Bool × List (List Int × D)} (h : tdM o = some p) : o = some (.mu p.1 false (.tr (.d p.2))) := by
 unfold tdM at h
 split at h
 . cases h; rfl
 . cases h
theorem tdM_S {o : Option Sl} {p : Bool × List (List Int × D)} (h : tdM o = some p) : tdS o = some p.2 := by
 rw [tdM_some h] <;> rfl
theorem tree_at {L : FrX X} {u : Ot} {Q : V -> Hp -> Prop} (r : Rel X.K L G F H σ e) (he : trS e[i]? = some u) (k : ∀ v F' H', Rel X.K L G F' H' σ e -> Step G F F' -> sg σ i = some v -> Q v H') : Tr X W (varC i) (ROk X.K) σ H Q := by
 refine ⟨L, G, F, e, r, ?_⟩
 rw [trS_var he]
 exact fun v F' H' r' st p' => k v F' H' r' st p'
theorem key_dp {v : V} {d : D} {q : List Int} (h : Dp X.K F v d) (hk : keyT d = some q) : ∃ b, v = .ref b /\ SqT X.K F b (q.map V.int) := by
 cases d <;> simp only [keyT, reduceCtorEq] at hk
 rename_i ds
 have e1 := intsL_map hk
 subst e1
 cases h with
 | tup h1 h2 =>
  cases dps_int h2
  exact ⟨_, rfl, h1⟩
theorem key_ar {v : V} {d : D} {q : List Int} (fh : Same F H) (h : Ar X.K F H v d) (hk : keyT d = some q) : ∃ b, v = .ref b /\ SqT X.K F b (q.map V.int) := by
 cases d <;> simp only [keyT, reduceCtorEq] at hk
 rename_i ds
 have e1 := intsL_map hk
 subst e1
 obtain ⟨a, xs, rfl, h1, h2, h3⟩ := ar_tup fh h
 cases dps_int h3
 exact ⟨_, rfl, h2⟩
variable {a : Addr} {kvs : List (List Int × D)}
theorem Tdg.sub (h : Tdg X.K F H a kvs) : ∀ b ys, SqT X.K F b ys -> SqT X.K H b ys := fun _ _ z => SqT.mono h.1 z
theorem Tdg.is (h : Tdg X.K F H a kvs) (I : Inv X pins σ H s) : s.TypeIs (.ref a) "dict" /\ (∀ b, Value.ref a = .ref b -> ∃ ob, s.heap.get? b = some ob /\ ob.dict = none) /\ (a == sysModules) = false := by
 obtain ⟨_, _, es, ep, h1, _⟩ := h
 obtain ⟨⟨⟨o, ho, hx, hd⟩, hs⟩, _⟩ := (show ObjOk X.prog X.w H s.heap a (dtO a es ep) from I.hok a _ h1)
 refine ⟨⟨o, ho, hx.1⟩, fun b q => ?_, hs⟩
 cases q
 exact ⟨o, ho, hx.2.1⟩
end
def tTIx (K : PySem.W.Frag) (td ty : TE) : TE := fun σ H Q => td σ H fun x H1 => ty σ H1 fun y H2 => ∃ a q b kvs d F, x = .ref a /\ y = .ref b /\ Tdg K F H2 a kvs /\ SqT K H2 b (q.map V.int) /\ atT kvs q = some d /\ ∀ v, Dp K F v d -> Q v H2
def tTIn (K : PySem.W.Frag) (n : Bool) (ty td : TE) : TE := fun σ H Q => ty σ H fun y H1 => td σ H1 fun x H2 => ∃ a q b kvs F, x = .ref a /\ y = .ref b /\ Tdg K F H2 a kvs /\ SqT K H2 b (q.map V.int) /\ Q (.bl ((atT kvs q).isSome != n)) H2
def tTGt (K : PySem.W.Frag) (td ty tx : TE) : TE := fun σ H Q => td σ H fun x H1 => ∃ a, x = .ref a /\ (∃ F kvs, Tdg K F H1 a kvs) /\ ty σ H1 fun y H2 => tx σ H2 fun z H3 => ∃ q b kvs F, y = .ref b /\ Tdg K F H3 a kvs /\ SqT K H3 b (q.map V.int) /\
 (atT kvs q = none -> Q z H3) /\ ∀ d v, atT kvs q = some d -> Dp K F v d -> Q v H3
def sTPut (K : PySem.W.Frag) (td ty tv : TE) : TS := fun D σ H => tv σ H fun v H1 => td σ H1 fun x H2 => ty σ H2 fun y H3 => ∃ a q b kvs d F, x = .ref a /\ y = .ref b /\ Tdg K F H3 a kvs /\ kvs.length < sizeLine /\ SqT K F b (q.map V.int) /\ Dp K F v d /\
 ∀ es ep, KtOk K F es.toList (putT2 kvs q d) -> D.nx σ (upd H3 a (dtO a es ep))
def tTNew : TE := fun _ H Q => ∀ p, H p = none -> Q (.ref p) (upd H p (dtO p #[] 0))
theorem dtO_new {P : Program} {w : World} {H : Hp} (h : Heap) (hb : sysModules < h.objs.size) : ObjOk P w H (h.push { cls := .type "dict", data := .dict #[] }) h.objs.size (dtO h.objs.size #[] 0) :=
 dtO_ok ⟨_, Heap.get?_push_size _ rfl, ⟨rfl, rfl, rfl⟩, rfl⟩ (beq_eq_false_iff_ne.mpr (Ne.symm (Nat.ne_of_lt hb)))
section
variable {X : Cx} {o i e f value : Expr} {pos pos' apos cpos : Pos} {td ty tv tx : TE}
theorem pe_tnew : PE X (.Dict [] [] pos) tTNew := ⟨fun pins s σ H Q I h =>
 wpAny_Dict_empty ⟨.ref s.heap.objs.size, _, I.laid (a := s.heap.objs.size) (o := dtO s.heap.objs.size #[] 0) (t' := s.toks) (fun _ _ q => Heap.get?_push_of_some _ q) (Nat.le_refl _) (dtO_new s.heap I.big), rfl, h _ (I.hok.fresh (Nat.le_refl _))⟩⟩
theorem pe_tix (hu : X.A.units + 1 < cLine) (ho : PE X o td) (hi : PE X i ty) (hs : NoSl i) : PE X (.Subscript o i pos) (tTIx X.K td ty) := by
 refine ⟨fun pins s σ H Q I h => ?_⟩
 refine subD_of PySem.F.slot_dict_getitem.lookup hs (thn (ho.run pins s σ H _ I h) fun u s1 ⟨x, H1, I1, rx, q1⟩ => thn (hi.run pins s1 σ H1 _ I1 q1) fun iv s2 ⟨y, H2, I2, ry, a, q, b, kvs, d, F, ex, ey, g, hk, hd, q2⟩ => ?_)
 subst ex ey
 cases (show u = Value.ref a from rx)
 cases (show iv = Value.ref b from ry)
 obtain ⟨t1, _, _⟩ := g.is I2
 have sub := g.sub
 obtain ⟨fh, nd, es, ep, h1, h2⟩ := g
 exact ⟨t1, dt_get hu I2 sub h1 h2 nd hk hd fun v w s3 I3 rw' dv => ⟨v, H2, I3, rw', q2 v dv⟩⟩
theorem ps_tput (hu : X.A.units + 1 < cLine) (ho : PE X o td) (hi : PE X i ty) (hv : PE X value tv) (hs : swapsWith value (some (.Subscript o i pos')) pos.line X.env = pure false) :
  PS X (.Assign [.Subscript o i pos'] value pos) (sTPut X.K td ty tv) := by
 refine ⟨fun pins s σ H D I h => ?_⟩
 refine wpAny_Assign_Subscript (thn (hv.run pins s σ H _ I h) fun r s1 ⟨v, H1, I1, rv, q1⟩ => thn (ho.run pins s1 σ H1 _ I1 q1) fun u s2 ⟨x, H2, I2, rx, q2⟩ => thn (hi.run pins s2 σ H2 _ I2 q2) fun iv s3 ⟨y, H3, I3, ry, a, q, b, kvs, d, F, ex, ey, g, hl, hk, dv, q3⟩ => ?_) hs
 subst ex ey
 cases (show u = Value.ref a from rx)
 cases (show iv = Value.ref b from ry)
 have sub := g.sub
 obtain ⟨fh, nd, es, ep, h1, h2⟩ := g
 exact dt_put hu I3 sub h1 h2 nd (Nat.le_of_lt hl) hk rv dv fun s4 es' ep' kt I4 => ⟨σ, _, I4, q3 es' ep' kt⟩
end
section
variable {X : Cx} {pins : List (Addr × Obj)} {σ : L2.St} {H F : Hp} {s : Shared} {a b : Addr} {k : List Int} {kvs : List (List Int × D)} {A : Around} {E : Value -> Shared -> Prop}
theorem dt_gt {Q : Value -> Shared -> Prop} {z : V} {r : Value} (hu : A.units + 1 < cLine) (I : Inv X pins σ H s) (g : Tdg X.K F H a kvs) (hk : SqT X.K H b (k.map V.int)) (rz : RelV z r)
  (h0 : atT kvs k = none -> ∀ s', Inv X pins σ H s' -> Q r s') (h1 : ∀ d v u s', atT kvs k = some d -> Dp X.K F v d -> RelV v u -> Inv X pins σ H s' -> Q u s') : wpAny (model X.prog X.w) A (call (.builtin "dict.get") [.ref a, .ref b, r]) Q E s := by
 obtain ⟨ty, _, hs⟩ := g.is I
 have sub := g.sub
 obtain ⟨fh, nd, es, ep, e1, kt⟩ := g
 obtain ⟨xs, dd, p, hd⟩ := dt_kit I sub e1 kt nd
 have x := xs_at (k := k) p
 refine call_meetsIn PySem.F.slot_dict_get ty PySem.F.entry_dict_get (PySem.F.args_dict_get_3 _ _ _) (meetsH_dict_get_default (KD X.prog X.w) a b hd r) ⟨tupleKind_room_in1 hu, k, xs, key_at I hk, dd, ?_⟩
 cases c : atT kvs k with
 | none =>
  rw [c] at x
  have x : atKey xs k = none := x
  rw [x]
  exact h0 c _ (I.tok _)
 | some d =>
  rw [c] at x
  obtain ⟨pr, v, e2, e3, e4⟩ := x
  rw [e2]
  exact h1 d v _ _ c e4 e3 (I.tok _)
end
section
variable {X : Cx} {o e f : Expr} {apos cpos : Pos} {td ty tx : TE}
theorem pe_tgt (hu : X.A.units + 1 < cLine) (ho : PE X o td) (he : PE X e ty) (hf : PE X f tx) (m : M2 X o "get" apos e f cpos) : PE X (.Call (.Attribute o "get" apos) [e, f] [] cpos) (tTGt X.K td ty tx) := by
 refine ⟨fun pins s σ H Q I h => ?_⟩
 refine wpAny_Call_method m.base m.few m.line PySem.F.plainAttrs_dict PySem.F.slot_dict_get PySem.F.type_dict_get (thn (ho.run pins s σ H _ I h) fun u s1 ⟨x, H1, I1, rx, a, ex, ⟨F0, kvs0, g0⟩, q1⟩ => ?_)
 subst ex
 cases (show u = Value.ref a from rx)
 obtain ⟨t1, t2, _⟩ := g0.is I1
 refine ⟨t1, t2, ?_⟩
 rw [m.trees]
 refine Calls.callWith_builtin rfl (Calls.evalArgs_plain (Calls.spliced_cons (thn (he.run pins s1 σ H1 _ I1 q1) fun iv s2 ⟨y, H2, I2, ry, q2⟩ =>
  Calls.spliced_cons (thn (hf.run pins s2 σ H2 _ I2 q2) fun fv s3 ⟨z, H3, I3, rz, q, b, kvs, F, ey, g, hk, q3, q4⟩ => Calls.spliced_nil ?_))))
 subst ey
 cases (show iv = Value.ref b from ry)
 exact dt_gt hu I3 g hk rz (fun c s4 I4 => ⟨z, H3, I4, rz, q3 c⟩) fun d v w s4 c dv rv I4 => ⟨v, H3, I4, rv, q4 d v c dv⟩
def rTLen (K : PySem.W.Frag) : List V -> Hp -> VK -> Prop := fun xs H Q => ∃ a F kvs, xs = [V.ref a] /\ Tdg K F H a kvs /\ kvs.length <= sizeLine /\ Q (.int (kvs.length : Nat)) H
theorem cr_tlen : CallR X (.builtin "len") (rTLen X.K) := by
 intro pins s σ H xs us Q I r h
 obtain ⟨a, F, kvs, rfl, g, hl, q⟩ := h
 rw [Vals.ref1 r]
 have sub := g.sub
 obtain ⟨fh, nd, es, ep, h1, h2⟩ := g
 exact dt_len I sub h1 h2 nd hl fun t s' I' => ⟨.int (kvs.length : Nat), H, I', ⟨_, rfl⟩, q⟩
end
section
open PySem.W PySem.Calls PySem.SeqAt
variable {prog : Program} {w : World} {A : Around} {E : Value -> Shared -> Prop} {s : Shared}
theorem sortedC {β : Type} {vs : List Value} {bs : List β} {enc : β -> PyData} {R : Value -> β -> Prop} {v : Value} {Q : Value -> Shared -> Prop}
  (hc : ∀ (E' : Value -> Shared -> Prop) (R' : List Value -> Shared -> Prop), (∀ h' tk, (∀ b o, s.heap.get? b = some o -> h'.get? b = some o) -> R' vs { s with heap := h', toks := tk }) -> wpAny (model prog w) A.in1 (collect v) R' E' s)
  (e : EachIs R vs bs) (er : EachIs (fun v b => ∃ as, Reads s.heap v (enc b) as) vs bs) (hal : AllAlike (bs.map enc)) (hk : Sortable (bs.map enc) \/ Tup0 (bs.map enc)) (hL : bs.length <= sizeLine) (hu : ∀ b, b ∈ bs -> A.units + 2 + (enc b).depth < cLine)
  (k : ∀ (out : List Value) (h1 h' : Heap) (tk : Nat) (c : Nat), out.length = bs.length -> EachIs R out (bs.mergeSort (dataLe false enc)) -> (∀ b o, s.heap.get? b = some o -> h1.get? b = some o) -> (∀ b o, h1.get? b = some o -> h'.get? b = some o) -> h'.get? h1.objs.size = some (seqObj "list" (List.toArray out) c) -> Q (.ref h1.objs.size) { s with heap := h', toks := tk }) :
  wpAny (model prog w) A (call (.builtin "sorted") [v]) Q E s := by
 have lz : vs.length <= sizeLine := by rw [e.length]; exact hL
 refine call_function_entry_kw kind_sorted plain_sorted entry_sorted (args_sorted1 _) ?_
 unfold Builtin.«sorted»
 refine wpAny_bind (m := checkCount "sorted" 1 1 _) (wpAny_pure (wpAny_bind (hc _ _ fun h1 tk k1 => wpAny_bind (wpAny_newList ?_ lz))))
 have at1 : (h1.push (seqObj "list" vs.toArray 0)).get? h1.objs.size = some (seqObj "list" vs.toArray 0) := Heap.get?_push_size _ rfl
 refine wpAny_bind (wpAny_holding (wpAny_call_entry_kw slot_list_sort ⟨_, at1, rfl⟩ entry_list_sort ?sorts (args_list_sort _)))
 refine (show wpAny (model prog w) A.in1.in1 (Builtin.«list.sort» ⟨[.ref h1.objs.size], []⟩) _ _ { s with heap := h1.push (seqObj "list" vs.toArray 0), toks := tk } from ?_)
 have old : ∀ b o, s.heap.get? b = some o -> (sortingHeap (h1.push (seqObj "list" vs.toArray 0)) h1.objs.size vs).get? b = some o := fun b o z => sortingHeap_old (Nat.ne_of_lt (Heap.lt_size (k1 _ _ z))) (Heap.get?_push_of_some _ (k1 _ _ z))
 have er2 : EachIs (fun v b => ∃ as, Reads (sortingHeap (h1.push (seqObj "list" vs.toArray 0)) h1.objs.size vs) v (enc b) as) vs bs := er.mono fun _ _ ⟨as, r⟩ => ⟨as, PyProof.Rows.Reads.keeps old r⟩
 have er3 := each_map (R := fun v d => ∃ as, Reads (sortingHeap (h1.push (seqObj "list" vs.toArray 0)) h1.objs.size vs) v d as) enc er2
 have fin : SortsAt prog w A.in1.in1 { s with heap := sortingHeap (h1.push (seqObj "list" vs.toArray 0)) h1.objs.size vs, toks := tk } (dataKind (sortingHeap (h1.push (seqObj "list" vs.toArray 0)) h1.objs.size vs) (bs.map enc)) vs := by
  rcases hk with hk | hk
  . exact SortsAt.data (s := { s with heap := sortingHeap (h1.push (seqObj "list" vs.toArray 0)) h1.objs.size vs, toks := tk }) er3 hal hk (bound_map hu)
  . exact sorts0 (s := { s with heap := sortingHeap (h1.push (seqObj "list" vs.toArray 0)) h1.objs.size vs, toks := tk }) er3 hal hk (bound_map hu)
 refine wpAny_mono (list_sort_vals (s := { s with heap := h1.push (seqObj "list" vs.toArray 0), toks := tk }) (P := fun f s' => f = .done (.ret .none) /\ Q (.ref h1.objs.size) s') at1 fin lz ⟨rfl, ?_⟩) (fun f s' hf => ?_) fun _ _ e => e
 . obtain ⟨c, at2⟩ := sortedHeap_at (out := (sortVals (dataKind (sortingHeap (h1.push (seqObj "list" vs.toArray 0)) h1.objs.size vs) (bs.map enc)) false vs vs).toArray) at1
   refine k _ h1 _ tk c (by rw [sortVals_length false rfl]; exact e.length) (sortVals_data false e er2 hal) k1 (fun b o z => ?_) at2
   have lt := Heap.lt_size z
   rw [sortedHeap_old (Nat.ne_of_lt lt) (by rw [size_push']; exact Nat.lt_succ_of_lt lt)]
   exact Heap.get?_push_of_some _ z
 . obtain ⟨rfl, hq⟩ := hf
   exact ⟨_, rfl, wpAny_pure ⟨_, rfl, hq⟩⟩
end
theorem dps_is {K : PySem.W.Frag} {F : Hp} : ∀ ns : List Int, DpAll K F (ns.map V.int) (ns.map PyData.int)
 | [] => .nil
 | n :: ns => .cons (.int n) (dps_is ns)
theorem sortable_ok {ys : List D} (h2 : sortable ys = true) : W.Sortable ys \/ Tup0 ys := by
 unfold sortable at h2
 rw [Bool.or_eq_true, Bool.or_eq_true] at h2
 rcases h2 with (h2 | h2) | h2
 . refine .inl (.inl fun d hd' => ?_)
   have q := List.all_eq_true.mp h2 d hd'
   split at q
   . exact ⟨_, _, rfl⟩
   . cases q
 . refine .inl (.inr fun d hd' => ?_)
   have q := List.all_eq_true.mp h2 d hd'
   split at q
   . cases q
   . cases q
   . rename_i n1 n2
     exact ⟨n1, n2⟩
 . refine .inr ?_
   split at h2
   . rename_i rest
     refine ⟨fun d hd' => ?_, rest, rfl⟩
     have q := List.all_eq_true.mp h2 d hd'
     split at q
     . exact ⟨_, rfl⟩
     . cases q
   . cases h2
theorem kt_keys {K : PySem.W.Frag} {F : Hp} : ∀ {l : List DictEntry} {kvs : List (List Int × D)}, KtOk K F l kvs -> ∃ xs, DpAll K F xs (keysT kvs) /\ Vals xs (l.map (·.key)) /\ xs.length = kvs.length
 | _, _, .nil => ⟨[], .nil, .nil, rfl⟩
 | _, _, .cons (k := k) (q := q) h1 _ _ t => by
  obtain ⟨xs, h2, h3, h4⟩ := kt_keys t
  exact ⟨.ref q :: xs, .cons (.tup h1 (dps_is k)) h2, .cons rfl h3, by simp [h4]⟩
section
variable {X : Cx}
def rTSort (K : PySem.W.Frag) : List V -> Hp -> VK -> Prop := fun xs H Q => ∃ a F kvs, xs = [V.ref a] /\ Tdg K F H a kvs /\ kvs.length <= sizeLine /\ allAlike (keysT kvs) = true /\ sortable (keysT kvs) = true /\ ((keysT kvs).all fun d => decide (d.depth <= 60)) = true /\
 ∀ p vs, H p = none -> DpAll K F vs (sortD (keysT kvs)) -> Q (.ref p) (upd H p (.lst vs))
theorem cr_tsort (hc : X.calm = true) (hu : X.A.units + 100 < cLine) : CallR X (.builtin "sorted") (rTSort X.K) := by
 intro pins s σ H xs us Q I r h
 obtain ⟨a, F, kvs, rfl, g, hl, h1, h2, h3, q⟩ := h
 rw [Vals.ref1 r]
 obtain ⟨fh, nd, es, ep, ha, kt⟩ := g
 obtain ⟨vs, dv, rv, lv⟩ := kt_keys kt
 obtain ⟨⟨⟨o, ho, hx, hd⟩, hs⟩, _⟩ := (show ObjOk X.prog X.w H s.heap a (dtO a es ep) from I.hok a _ ha)
 have le : es.toList.length = kvs.length := by
  have := congrArg List.length (show es.toList.map (·.key) = es.toList.map (·.key) from rfl)
  have h := Vals.length rv
  rw [List.length_map] at h
  omega
 have ez : (vs.zip (keysT kvs)).map (·.2) = keysT kvs := zip_snd (dps_len dv)
 have lz : (vs.zip (keysT kvs)).length <= sizeLine := by
  rw [List.length_zip]
  exact Nat.le_trans (Nat.min_le_left _ _) (by omega)
 have al : W.AllAlike ((vs.zip (keysT kvs)).map (·.2)) := by
  rw [ez]
  exact fun d hd' e he => List.all_eq_true.mp (List.all_eq_true.mp h1 d hd') e he
 refine sortedC (vs := es.toList.map (·.key)) (enc := fun p : V × D => p.2) (R := fun u p => RelV p.1 u) (fun E' R' k => ?_) (each_zip dv rv) (each_reads I fh dv rv) al (by rw [ez]; exact sortable_ok h2) lz (fun p hp => ?_) fun out h1 h' tk c lo he k1 k2 at_ => ?_
 . refine PySem.W.kdu_collect (kdl_raw hs hx hd) (I.ok.hd hc) ho (by rw [<- Array.length_toList]; omega) fun h' tk acc k1 it => ?_
   have ea : acc.toList = es.toList.map (·.key) := by
    apply List.ext_getElem?
    intro j
    rw [List.getElem?_map]
    cases hj : acc.toList[j]? with
    | none =>
     have h1 := List.getElem?_eq_none_iff.mp hj
     rw [Array.length_toList, it.1, <- Array.length_toList] at h1
     rw [List.getElem?_eq_none (by omega)]
     rfl
    | some v =>
     obtain ⟨en, hen, hv⟩ := it.2 j v (by rw [<- Array.getElem?_toList]; exact hj)
     rw [Array.getElem?_toList, hen, hv]
     rfl
   rw [ea]
   exact k h' tk k1
 . have hm : p.2 ∈ keysT kvs := (List.of_mem_zip hp).2
   have := of_decide_eq_true (List.all_eq_true.mp h3 _ hm)
   omega
 . have vo := each_vals he
   have hp := List.mergeSort_perm (vs.zip (keysT kvs)) (W.dataLe false fun p : V × D => p.2)
   have dz : DpAll X.K F (((vs.zip (keysT kvs)).mergeSort (W.dataLe false fun p : V × D => p.2)).map (·.1)) (((vs.zip (keysT kvs)).mergeSort (W.dataLe false fun p : V × D => p.2)).map (·.2)) :=
    dps_unzip fun p hm => dps_zip dv p (hp.mem_iff.mp hm)
   have e1 := List.map_mergeSort (r := W.dataLe false fun p : V × D => p.2) (s := fun a b => !W.dataLt b a) (f := fun p : V × D => p.2) (l := vs.zip (keysT kvs)) (fun _ _ _ _ => rfl)
   rw [e1, ez] at dz
   have I1 := I.kept (t' := tk) k1
   refine ⟨.ref h1.objs.size, _, I1.laid (a := h1.objs.size) (t' := tk) (o := .lst (((vs.zip (keysT kvs)).mergeSort (W.dataLe false fun p : V × D => p.2)).map (·.1))) k2 (Nat.le_refl _) ⟨?_, out, c, vo, at_⟩, rfl, q _ _ (I1.hok.fresh (Nat.le_refl _)) dz⟩
   rw [List.length_map, List.length_mergeSort]
   exact lz
end
section
variable {X : Cx} {W : WX} {xo ek ex ev : Expr} {c cb cv : Vc} {pos : Pos} {i : Nat}
theorem pv_tdx (hu : X.A.units + 100 < cLine) (ho : PV X W xo (varC i)) (hk : PV X W ek c) (hs : PlainIx ek) : PV X W (.Subscript xo ek pos) (tdxC i c) :=
 pe_imp (pe_tix (by omega) ho (pv_d hk) hs) fun σ H Q q => by
  obtain ⟨L, G, F, e, r, a⟩ := q
  obtain ⟨kvs0, h0, a1⟩ := a.ofO
  refine tree_at r (td_tr h0) fun v F2 H2 r2 st2 hsg => ?_
  refine ⟨L, G, F2, e, r2, (After.bind (P1 := AOk X.K) (a1.step st2)).mono fun y H3 z => ?_⟩
  obtain ⟨F3, e3, kd, r3, st3, p3, a3⟩ := z
  obtain ⟨q, hq, a4⟩ := a3.ofO
  obtain ⟨kvs, hkv, a5⟩ := a4.ofO
  obtain ⟨d, hd, a6⟩ := a5.ofO
  obtain ⟨ad, hs2, g⟩ := td_now r3 hkv
  rw [hsg] at hs2
  cases hs2
  obtain ⟨b, rfl, hb⟩ := key_ar r3.fh p3 hq
  exact ⟨ad, q, b, kvs, d, F3, rfl, rfl, g, SqT.mono r3.fh hb, hd, fun w dv => a6 w F3 H3 r3 (Step.refl G F3) dv⟩
theorem pv_tdg {apos cpos : Pos} (hu : X.A.units + 100 < cLine) (ho : PV X W xo (varC i)) (hk : PV X W ek c) (hx : PV X W ex cb) (m : M2 X xo (T "get") apos ek ex cpos) : PV X W (.Call (.Attribute xo (T "get") apos) [ek, ex] [] cpos) (tdgC i c cb) :=
 pe_imp (pe_tgt (by omega) ho (pv_e hk) (pv_e hx) m) fun σ H Q q => by
  obtain ⟨L, G, F, e, r, a⟩ := q
  obtain ⟨kvs0, h0, a1⟩ := a.ofO
  refine tree_at r (td_tr h0) fun v F2 H2 r2 st2 hsg => ?_
  obtain ⟨ad, hs2, g0⟩ := td_now r2 h0
  rw [hsg] at hs2
  cases hs2
  refine ⟨ad, rfl, ⟨F2, kvs0, g0⟩, L, G, F2, e, r2, (After.bind (P1 := DOk X.K) (a1.step st2)).mono fun y H3 z => ?_⟩
  obtain ⟨F3, e3, kd, r3, st3, p3, a3⟩ := z
  obtain ⟨q, hq, a4⟩ := a3.ofO
  have p3 : Dp X.K F3 y kd := p3
  obtain ⟨b, rfl, hb⟩ := key_dp p3 hq
  refine ⟨L, G, F3, e3, r3, (After.bind (P1 := DOk X.K) a4).mono fun x H4 z => ?_⟩
  obtain ⟨F4, e4, xd, r4, st4, p4, a5⟩ := z
  have p4 : Dp X.K F4 x xd := p4
  obtain ⟨kvs, hkv, a6⟩ := a5.ofO
  obtain ⟨ad2, hs3, g⟩ := td_now r4 hkv
  rw [hsg] at hs3
  cases hs3
  refine ⟨q, b, kvs, F4, rfl, g, SqT.mono (st4.s.trans r4.fh) hb, fun c0 => ?_, fun d v c0 dv => ?_⟩
  . refine a6 _ F4 H4 r4 (Step.refl G F4) ?_
    rw [c0]
    exact p4
  . refine a6 _ F4 H4 r4 (Step.refl G F4) ?_
    rw [c0]
    exact dv
theorem Rel.chgT {L : Fr} {G F H : Hp} {σ : L2.St} {e : Env} {t : Bool} {u u' : List (List Int × D)} {a : Addr} {es : Array DictEntry} {ep : Nat} (r : Rel X.K L G F H σ e) (he : e[i]? = some (.mu t false (.tr (.d u)))) (ha : sg σ i = some (.ref a)) (kt : KtOk X.K F es.toList u') (nd : (u'.map (·.1)).Nodup) :
  Rel X.K L G F (upd H a (dtO a es ep)) σ (e.set i (.mu t false (.tr (.d u')))) := by
 obtain ⟨b, e1, ow, q5⟩ := r.sl i _ he
 rw [ha] at e1; cases e1
 obtain ⟨_, _, ob, q3, q4⟩ := ow.all a (ft_root _ _ _)
 refine r.turn he ha (fun x hx _ _ => upd_ne ?_) ⟨ow.f, ow.g, _, upd_same, tr_cr ⟨rfl, .d ow.f ow.g upd_same kt nd, ?_⟩⟩ (fun x hx => .inl ?_) (tbs_chg' r.nw.tb q3 q4.1 q4.2.1) (full_put r.nw.fl (fun _ _ z => by cases z))
 . rintro rfl
   exact hx (ft_root _ _ _)
 . exact List.nodup_cons.mpr ⟨List.not_mem_nil, List.nodup_nil⟩
 . have ex : x = a := List.mem_singleton.mp hx
   rw [ex]
   exact ft_root _ _ _
theorem putT2_keys (kvs : List (List Int × D)) (q : List Int) (d : D) (nd : (kvs.map (·.1)).Nodup) : ((putT2 kvs q d).map (·.1)).Nodup := by
 unfold putT2
 split
 . have : (kvs.map fun p => if p.1 = q then (p.1, d) else p).map (·.1) = kvs.map (·.1) := by
    rw [List.map_map]
    refine List.map_congr_left fun p _ => ?_
    dsimp only [Function.comp_apply]
    split <;> rfl
   rw [this]
   exact nd
 . rename_i h
   rw [List.map_append, List.nodup_append]
   refine ⟨nd, by simp, fun x hx y hy => ?_⟩
   simp only [List.map_cons, List.map_nil, List.mem_singleton] at hy
   subst hy
   rintro rfl
   obtain ⟨p, hp, e⟩ := List.mem_map.mp hx
   refine h ?_
   unfold atT
   rw [Option.isSome_map, List.find?_isSome]
   exact ⟨p, hp, decide_eq_true e⟩
theorem pz_tdp {tp : Pos} (hu : X.A.units + 100 < cLine) (ho : PV X W xo (varC i)) (hk : PV X W ek c) (hv : PV X W ev cv) (hs : swapsWith ev (some (.Subscript xo ek tp)) pos.line X.env = pure false) :
  PV1 X W (.Assign [.Subscript xo ek tp] ev pos) (tdpS i c cv) := ps_imp (ps_tput (by omega) ho (pv_e hk) (pv_e hv) hs) fun D σ H q => by
 obtain ⟨L, G, F, e, r, a⟩ := q
 refine ⟨L, G, F, e, r, (AfterS.bind (P1 := DOk X.K) a).mono fun v H1 z => ?_⟩
 obtain ⟨F1, e1, d, r1, st1, p1, a1⟩ := z
 have p1 : Dp X.K F1 v d := p1
 obtain ⟨p0, hp0, a2⟩ := a1.ofO
 refine tree_at r1 (td_tr (tdM_S hp0)) fun v2 F2 H2 r2 st2 hsg => ?_
 refine ⟨L, G, F2, e1, r2, (AfterS.bind (P1 := DOk X.K) (a2.step st2)).mono fun y H3 z => ?_⟩
 obtain ⟨F3, e3, kd, r3, st3, p3, a3⟩ := z
 have p3 : Dp X.K F3 y kd := p3
 obtain ⟨q, hq, a4⟩ := a3.ofO
 obtain ⟨p, hp, a5⟩ := a4.ofO
 obtain ⟨b, rfl, hb⟩ := key_dp p3 hq
 obtain ⟨ad, hs2, g⟩ := td_now r3 (tdM_S hp)
 rw [hsg] at hs2
 cases hs2
 split at a5
 . rename_i hlt
   refine ⟨ad, q, b, p.2, d, F3, rfl, rfl, g, hlt, hb, dp_mono (st2.trans st3).s p1, fun es ep kt => ?_⟩
   exact a5 σ F3 _ (r3.chgT (tdM_some hp) hsg kt (putT2_keys _ _ _ g.2.1)) (Step.refl G F3)
 . exact a5.elim
theorem pv_tdl {p2 q2 : Pos} (g2 : Gl X "len") (m2 : X.mg "len" = none) (ho : PV X W xo (varC i)) (na : starEach [xo] X.env = (false, eval xo X.env) :: starEach [] X.env := by rfl) : PV X W (.Call (.Name "len" p2) [xo] [] q2) (tdlC i) :=
 pe_imp (pe_callB cr_tlen g2 m2 (show bootBuiltins (T "len") = some (.builtin "len") by decide +kernel) (pa_cons ho pa_nil (hs := na)) (he := na)) fun σ H Q q => by
  obtain ⟨L, G, F, e, r, a⟩ := q
  simp only [tCB, tCons, tNil]
  obtain ⟨kvs, h0, a1⟩ := a.ofO
  refine tree_at r (td_tr h0) fun v F2 H2 r2 st2 hsg => ?_
  obtain ⟨ad, hs2, g⟩ := td_now r2 h0
  rw [hsg] at hs2
  cases hs2
  split at a1
  . rename_i hl
    exact ⟨ad, F2, kvs, rfl, g, hl, a1 _ F2 H2 r2 st2 (.int _)⟩
  . exact a1.elim
theorem pv_tdk {p2 q2 : Pos} (hc : X.calm = true) (hu : X.A.units + 100 < cLine) (g2 : Gl X "sorted") (m2 : X.mg "sorted" = none) (ho : PV X W xo (varC i)) (na : starEach [xo] X.env = (false, eval xo X.env) :: starEach [] X.env := by rfl) : PV X W (.Call (.Name "sorted" p2) [xo] [] q2) (tdkC i) :=
 pe_imp (pe_callB (cr_tsort hc hu) g2 m2 (show bootBuiltins (T "sorted") = some (.builtin "sorted") by decide +kernel) (pa_cons ho pa_nil (hs := na)) (he := na)) fun σ H Q q => by
  obtain ⟨L, G, F, e, r, a⟩ := q
  simp only [tCB, tCons, tNil]
  obtain ⟨kvs, h0, a1⟩ := a.ofO
  refine tree_at r (td_tr h0) fun v F2 H2 r2 st2 hsg => ?_
  obtain ⟨ad, hs2, g⟩ := td_now r2 h0
  rw [hsg] at hs2
  cases hs2
  obtain ⟨rr, h1, a2⟩ := a1.ofO
  split at h1
  . rename_i hl
    simp only [bi] at h1
    split at h1
    . rename_i hc2
      obtain ⟨k1, k2, k3⟩ := hc2
      cases h1
      refine ⟨ad, F2, kvs, rfl, g, hl, k1, k2, k3, fun p vs hp dv => ?_⟩
      obtain ⟨r3, o3⟩ := fresh_put r2 hp dv
      exact a2 _ _ _ r3 st2 o3
    . cases h1
  . cases h1
theorem fresh_td {L : Fr} {G F H : Hp} {σ : L2.St} {e : Env} {p : Addr} (r : Rel X.K L G F H σ e) (hf : F p = none) (hg : G p = none) (hp : H p = some (dtO p #[] 0)) (hn : ∀ j, ¬ hasF H σ e j p) : ROk X.K G F H σ e (.fresh (.tr (.d []))) (.ref p) := by
 refine ⟨p, rfl, ⟨hf, hg, _, hp, tr_cr ⟨rfl, .d hf hg hp .nil List.nodup_nil, List.nodup_cons.mpr ⟨List.not_mem_nil, List.nodup_nil⟩⟩⟩, fun j x hx => ?_⟩
 cases List.mem_singleton.mp hx
 exact hn j
theorem pv_tde : PV X W (.Dict [] [] pos) tdeC := pe_imp pe_tnew fun σ H Q q p hp => by
 obtain ⟨L, G, F, e, r, a⟩ := q
 have r1 := r.put (o := dtO p #[] 0) hp
 exact a (.ref p) F _ r1 (Step.refl G F) (fresh_td r1 (r.fh.free hp) (r.gh.free hp) upd_same (has_upd r (no_mu r hp)))
end
end Ev
namespace Ev
open PySem PySem.Spec PyProof.Rows L2
theorem pick_step {its : List Value} {n : Int} (hn : 0 < n) : slicePick its.toArray none none (some n) = (pickL its n).toArray := by
 unfold slicePick pickL
 have e1 : sliceBounds none none (some n) its.toArray.size = (0, (its.length : Int), n) := by
  show ((if n > 0 then (0 : Int) else _), (if n > 0 then (its.toArray.size : Int) else _), n) = _
  rw [if_pos hn, if_pos hn, List.size_toArray]
 rw [e1]
 congr 1
 simp
theorem pick_vals {xs : List V} {us : List Value} (h : Vals xs us) (n : Int) : Vals (pickL xs n) (pickL us n) := by
 have hl : xs.length = us.length := h.length
 unfold pickL
 rw [hl]
 generalize sliceRange 0 us.length n = ks
 have at_ : ∀ k : Nat, (∃ x u, xs[k]? = some x /\ us[k]? = some u /\ RelV x u) \/ (xs[k]? = none /\ us[k]? = none) := by
  clear hl
  induction h with
  | nil => exact fun k => .inr ⟨by simp, by simp⟩
  | cons r _ ih =>
   intro k
   cases k with
   | zero => exact .inl ⟨_, _, rfl, rfl, r⟩
   | succ k => simpa using ih k
 induction ks with
 | nil => exact .nil
 | cons k ks ih =>
  rcases at_ k with ⟨x, u, h1, h2, r⟩ | ⟨h1, h2⟩
  . rw [List.filterMap_cons_some h1, List.filterMap_cons_some h2]
    exact .cons r ih
  . rw [List.filterMap_cons_none h1, List.filterMap_cons_none h2]
    exact ih
theorem dps_at2 {K : PySem.W.Frag} {F : Hp} : ∀ {xs : List V} {ds : List D}, DpAll K F xs ds -> ∀ k : Nat, (∃ x u, xs[k]? = some x /\ ds[k]? = some u /\ Dp K F x u) \/ (xs[k]? = none /\ ds[k]? = none)
 | _, _, .nil, _ => .inr ⟨by simp, by simp⟩
 | _, _, .cons h _, 0 => .inl ⟨_, _, rfl, rfl, h⟩
 | _, _, .cons _ t, k + 1 => by simpa using dps_at2 t k
theorem pick_dps {K : PySem.W.Frag} {F : Hp} {xs : List V} {ds : List D} (h : DpAll K F xs ds) (n : Int) : DpAll K F (pickL xs n) (pickL ds n) := by
 have hl : xs.length = ds.length := dps_len h
 unfold pickL
 rw [hl]
 generalize sliceRange 0 ds.length n = ks
 have at_ : ∀ k : Nat, (∃ x u, xs[k]? = some x /\ ds[k]? = some u /\ Dp K F x u) \/ (xs[k]? = none /\ ds[k]? = none) := by
  clear hl
  exact dps_at2 h
 induction ks with
 | nil => exact .nil
 | cons k ks ih =>
  rcases at_ k with ⟨x, u, h1, h2, r⟩ | ⟨h1, h2⟩
  . rw [List.filterMap_cons_some h1, List.filterMap_cons_some h2]
    exact .cons r ih
  . rw [List.filterMap_cons_none h1, List.filterMap_cons_none h2]
    exact ih
theorem pick_len {α : Type} {xs : List α} {n : Int} (hn : 0 < n) : (pickL xs n).length <= xs.length := by
 unfold pickL
 refine Nat.le_trans (List.length_filterMap_le _ _) ?_
 unfold sliceRange
 rw [List.length_map, List.length_range, if_pos hn]
 split
 . rename_i h
   have := ceilDiv_le ((xs.length : Int)) n (by omega) (by omega)
   have e : (xs.length : Int) - 0 + n - 1 = (xs.length : Int) + n - 1 := by omega
   rw [e]
   omega
 . exact Nat.zero_le _
section
variable {X : Cx} {W : WX} {ea : Expr} {ca : Vc}
def tStp (K : PySem.W.Frag) (n : Int) (te : TE) : TE := fun σ H Q => te σ H fun x H1 => ∃ a xs, x = .ref a /\ SqL K H1 a xs /\ ∀ p, H1 p = none -> Q (.ref p) (upd H1 p (.lst (pickL xs n)))
theorem pe_stp {te : TE} {n : Int} {k : Nat} {p1 p3 pos : Pos} (hn : 0 < n) (he : PE X ea te) : PE X (.Subscript ea (.Slice none none (some (.Constant (.int n) k p1)) p3) pos) (tStp X.K n te) := by
 refine ⟨fun pins s σ H Q I h => Subscript_ (thn (he.run pins s σ H _ I h) fun v s1 ⟨x, H1, I1, r1, q1⟩ => ?_)⟩
 obtain ⟨a, xs, ex, hx, q⟩ := q1
 subst ex
 cases r1
 have hst : PO X (some (.Constant (.int n) k p1)) (tPart (tC (.int n))) := po_some pe_int
 refine wpAny_Slice (thn (po_none.run pins s1 σ H1 (fun o H2 => o = none /\ H2 = H1) I1 ⟨rfl, rfl⟩) fun vl s2 ⟨l, H2, I2, pl, el, e2⟩ => ?_)
 subst el e2
 refine thn (po_none.run pins s2 σ H2 (fun o H3 => o = none /\ H3 = H2) I2 ⟨rfl, rfl⟩) fun vu s3 ⟨u, H3, I3, pu, eu, e3⟩ => ?_
 subst eu e3
 refine thn (hst.run pins s3 σ H3 (fun o H4 => o = some n /\ H4 = H3) I3 ⟨n, rfl, rfl, rfl⟩) fun vs s4 ⟨o, H4, I4, ps, eo, e4⟩ => ?_
 subst eo e4
 have I5 : Inv X pins σ H4 { s4 with heap := s4.heap.push { cls := .type "slice", data := .fields #[vl, vu, vs] } } := I4.kept (t' := s4.toks) fun b ob q => Heap.get?_push_of_some _ q
 show wpAny (model X.prog X.w) X.A (subscriptTail ea (.Slice none none (some (.Constant (.int n) k p1)) p3) (.ref a) (.ref s4.heap.objs.size)) (EP X pins σ Q) X.xe { s4 with heap := s4.heap.push { cls := .type "slice", data := .fields #[vl, vu, vs] } }
 obtain ⟨its, r, ht, hz⟩ := I5.list hx
 have hlen := r.length
 refine tail_any (ops := [.ref a, .ref s4.heap.objs.size]) ht.isList.typeIs (PySem.slot_list_getitem.lookup) ?_ (by with_unfolding_all rfl)
 refine wpAny_getItem_list_slice ht.isList (Heap.IsSliceOf.new _ vl vu vs) pl pu ps (by intro z; cases z; omega) ?_ (by rw [List.size_toArray]; omega)
 rw [pick_step hn]
 refine ⟨.ref _, _, I5.laid (t' := s4.toks) (o := .lst (pickL xs n)) (fun b ob q => Heap.get?_push_of_some _ q) (Nat.le_refl _) ?_, rfl, q _ (I5.hok.fresh (Nat.le_refl _))⟩
 exact ⟨Nat.le_trans (pick_len hn) hz, _, 0, pick_vals r n, Heap.get?_push_size _ rfl⟩
theorem pv_stp {n : Int} {k : Nat} {p1 p3 pos : Pos} (hn : 0 < n) (h : PV X W ea ca) : PV X W (.Subscript ea (.Slice none none (some (.Constant (.int n) k p1)) p3) pos) (stpC ca n) :=
 pe_imp (pe_stp hn (pv_d h)) fun σ H Q q => by
  obtain ⟨L, G, F, e, r, a⟩ := q
  refine ⟨L, G, F, e, r, (After.bind (P1 := AOk X.K) a).mono fun x H1 z => ?_⟩
  obtain ⟨F1, e1, d, r1, st1, p1, a1⟩ := z
  obtain ⟨rr, hr, a2⟩ := a1.ofO
  have p1 : Ar X.K F1 H1 x d := p1
  cases d <;> simp only [stpD, reduceCtorEq, Option.some.injEq] at hr
  rename_i ds
  subst hr
  obtain ⟨ad, xs, rfl, h1, h2⟩ := ar_lst2 r1.fh p1
  refine ⟨ad, xs, rfl, h1, fun p hp => ?_⟩
  obtain ⟨r2, o2⟩ := fresh_put r1 hp (pick_dps h2 n)
  exact a2 (.ref p) _ _ r2 (Step.refl G F1) o2
end
end Ev
set_option maxHeartbeats 2000000
set_option maxRecDepth 100000
namespace Ev
open PySem PySem.Spec PyProof.Rows L2
section
variable {X : Cx} {pins : List (Addr × Obj)} {σ : L2.St} {H : Hp} {s : Shared}
def Among (H : Hp) (P : Addr) (pos : Pos) (c' : Addr) : Prop := ∃ ps : Array Value, H P = some (.tbl ps) /\ codeAmong pos ps.toList = some (.ref c')
structure LamAt (X : Cx) (params : Arguments) (body : Expr) (scope : Scope) (pos : Pos) (T : List (Addr × Str)) (P : Addr) (H H1 : Hp) (s' : Shared) (f c' : Addr) (pm ctv : Value) : Prop where
 ext : LamX.ExtN H H1
 tab : LamX.Tabs T H1
 get : s'.heap.get? f = some (PySem.W.kla_obj "<lambda>" (X.env.qual ++ "<lambda>") params body scope (cloFrom X.env.cells scope.names []) pm c' ctv)
 new : H1 f = none
 nfr : f ∉ frs X.stack
 am : Among H1 P pos c'
 tup : ∀ b ob xs, H1 b = some (.frz ob (.tup xs)) -> H b = some (.frz ob (.tup xs))
end
def FspH (K : PySem.W.Frag) (r : FRes) (F H : Hp) (Q : VK) : Prop := Same F H /\ TD F /\ Tbs K H /\ Full F H /\ match r with
 | .ret d [] => ∀ v F' H', Aft K (cut H []) F F' H' [] [] -> Dp K F' v d -> Q v H'
 | .fresh c [] => ∀ p F' H', Aft K (cut H []) F F' H' [] [] -> Own K (cut H []) F' H' p c -> Q (.ref p) H'
 | _ => False
def HdOk (P : Program) (w : World) (K : PySem.W.Frag) (mg : Str -> Option Value) (base : Heap) (k : Nat) (h : String) (ψ : AskR -> FRes) : Prop :=
 ∃ (g : Addr) (a : Str) (Ng : List Str) (pg : Arguments) (bg : List Stmt) (sg : Scope) (dV kV doc pm cdv ct oc : Value) (an od : Option Addr) (osl : Array (Option Value)),
  mg (T h) = some (.ref g) /\ PySem.W.keepIn K (.ref g) = true /\ K.lookup g = some ⟨oc, od, .func (PySem.W.fnOf (T h) (T h) pg bg sg dV kV doc pm an cdv ct), osl⟩ /\ PySem.W.codeIn K cdv (T h) = true /\ L2.Binds K (PySem.W.fnOf (T h) (T h) pg bg sg dV kV doc pm an cdv ct) [a] [] /\
  FnScope Ng [a] sg /\ Ng[0]? = some a /\ Vis sg a /\ (a == ("__debug__" : Str)) = false /\ (a == ("__classdict__" : Str)) = false /\
  ∀ (A : Around) (outer : List PySem.Env) (s : Shared) (H F : Hp) (Q : VK) (f : Addr) (t : AskR), Room k (A.deeper (envOfC (T h) sg s.heap.objs.size g cdv)) -> A.guards = some [] -> AskOk (cxOf C8.CX0 P w K mg base Ng (T h) sg g cdv A outer s H C8.E0).nox (f, F) t -> FspH K (ψ t) F H Q ->
   ∃ t', PSs (cxOf C8.CX0 P w K mg base Ng (T h) sg g cdv A outer s H C8.E0).nox bg t' /\ t' { nx := fun _ H' => Q .non H', rt := Q } (L2.start Ng [.ref f]) H
def LamCtx (X : Cx) : Prop := ∃ c P, X.env.code = .ref c /\ LamX.TabB X.base X.mg c P /\ (P, X.env.qual ++ "<lambda>") ∈ tabs X.K /\ ∀ p ∈ tabs X.K, p.1 = P -> p.2 = X.env.qual ++ "<lambda>"
end Ev
set_option maxHeartbeats 1000000
set_option maxRecDepth 10000
namespace Ev
open PySem PySem.Spec PyProof.Rows L2
end Ev
namespace Ev
open PySem PySem.Spec PyProof.Rows L2
end Ev
namespace Ev
open PySem PySem.Spec PyProof.Rows L2
section
variable {X : Cx} {W : WX} {L : Fr} {G F H : Hp} {σ : L2.St} {e : Env}
def AfterN (X : Cx) (L : Fr) (G F : Hp) (σ : L2.St) (p : Addr) (Q : V -> Hp -> Prop) (E : Value -> Option Addr -> Hp -> Prop) : ORes -> Prop
 | .bad => False
 | .ok r c e2 => ∀ v F' H', Rel X.K L G F' H' σ e2 -> Step G F F' -> ROk X.K G F' H' σ e2 r v -> ROk X.K G F' H' σ e2 (.fresh c) (.ref p) -> Q v H'
 | .exc x e2 => ∀ cls dd F' H', Rel X.K L G F' H' σ e2 -> Step G F F' -> XOk X.K X.mg F' H' x cls dd -> E cls dd H'
theorem Aft.tail {K : PySem.W.Frag} {G F F' H' : Hp} {p : Addr} {c : C} {ls : List Addr} {cs : List C} (h : Aft K G F F' H' (p :: ls) (c :: cs)) : Aft K G F F' H' ls cs /\ Own K G F' H' p c /\ ∀ x ∈ ft H' p c, x ∉ ftl H' ls cs := by
 obtain ⟨n1, n2, n3⟩ := List.nodup_append.mp h.nd
 cases h.lo with
 | cons o1 o2 => exact ⟨⟨n2, h.s1, h.s2, h.s3, h.s4, h.td, o2, h.tb, h.fl⟩, o1, fun x hx hy => n3 x hx x hy rfl⟩
end
section
variable {X : Cx} {W : WX} {BN : List String} {GL : List (String × D)} {KB : List KbE} {Gf : Gm} {pos p px apos : Pos} {x : Str} {i : Nat}
inductive NmEs (X : Cx) : List Expr -> List Nat -> Prop where
 | nil : NmEs X [] []
 | cons {x : Str} {p : Pos} {i : Nat} {es : List Expr} {is : List Nat} : X.N[i]? = some x -> Vis X.env.scope x -> (x == ("__debug__" : Str)) = false -> (x == ("__classdict__" : Str)) = false -> NmEs X es is -> NmEs X (.Name x p :: es) (i :: is)
inductive Vl (σ : L2.St) : List Nat -> List V -> Prop where
 | nil : Vl σ [] []
 | cons {i : Nat} {v : V} {is : List Nat} {vs : List V} : σ[i]? = some (some v) -> Vl σ is vs -> Vl σ (i :: is) (v :: vs)
end
end Ev
set_option maxHeartbeats 2000000
namespace Ev
open PySem PySem.Spec PyProof.Rows L2
section
variable {X : Cx} {W : WX} {tg ei : Expr} {ci : Vc} {pr : Bool} {F : Hp}
def SrcF (X : Cx) (pr : Bool) : Rl Src It := fun _ F _ _ _ s J => match s with
 | .vals ds => ∀ (L' : Fr) (G' F' H' : Hp) (σ' : L2.St) (e' : Env), Same F F' -> Rel X.K L' G' F' H' σ' e' -> (∀ k, k < ds.length -> J.go k H') /\ J.stop ds.length H' /\
   ∀ k x H3, J.yld k H' x H3 -> ∀ d, ds[k]? = some d -> ∃ F3, Rel X.K L' G' F3 H3 σ' e' /\ Step G' F' F3 /\ YOk X.K F3 H3 pr x d
 | .slot _ _ => False
end
section
variable {X : Cx} {W : WX}
structure Blk2 (X : Cx) (scope : Scope) (tg1 : Expr) (is1 : List Nat) (pair1 : Bool) (iter1 : Expr) (w1 : Env -> Res Src) (ifs1 : List Expr) (c1 : Option (Env -> Res Bool)) : Prop where
 g : ∀ (s : Shared) (H : Hp) (C : Addr) (cl : List (Str × Addr)) (fp : List Addr), PG (X.blk s H scope (compEnvC scope cl C X.env) fp) tg1 (gOf X.K is1 pair1)
 t : ∀ (s : Shared) (H : Hp) (C : Addr) (cl : List (Str × Addr)) (fp : List Addr), PTs (X.blk s H scope (compEnvC scope cl C X.env) fp) ifs1 (tOfC X c1)
 i : ∀ (s : Shared) (H : Hp) (C : Addr) (cl : List (Str × Addr)) (fp : List Addr), PI (X.blk s H scope (compEnvC scope cl C X.env) fp) tg1 iter1 (Tr (X.blk s H scope (compEnvC scope cl C X.env) fp) W0 w1 (SrcF X pair1))
variable {elt tgE iter tgE1 iter1 : Expr} {ifs ifs1 : List Expr} {scope : Scope} {own : List (Str × Nat)} {pos : Pos} {w w1 : Env -> Res Src} {is is1 : List Nat} {pair pair1 : Bool} {c c1 : Option (Env -> Res Bool)} {x : Vc}
end
end Ev
set_option maxHeartbeats 4000000
set_option maxRecDepth 100000
namespace Ev
open PySem PySem.Spec L2 PyProof.Rows
section
variable {P : Program} {w : World} {A : Around} {s : Shared} {elt t0 i0 t1 i1 : Expr} {f0 f1 : List Expr} {scope : Scope} {pos : Pos} {acc : Value} {env : PySem.Env}
def bNx (P : Program) (w : World) (A : Around) (E : Expr) (d : Nat) (i : Expr) (acc : Value) (env : PySem.Env) : BdX := fun Z Ex s => wpAny (model P w) A (eval i env) (fun x s1 => wpAny (model P w) A (pyIter x) (fun it s2 =>
 codeAny (model P w) A (.compStart E d it acc env) (fun r s' => match r with
  | .ok _ => Z s'
  | .error _ => False) s2) Ex s1) Ex s
end
section
variable {Y : Cx} {vs vs1 vs2 : List Nat} {E elt t1 i1 : Expr} {f1 : List Expr} {d : Nat} {acc : Value} {b1 : Bd} {wi : TI} {g : TG} {tt : TT} {te : TE} {tb : TBd} {D : Addr}
abbrev Cx.quiet (Y : Cx) : Cx := { Y with xe := noE }
end
end Ev
namespace Ev
open PySem PySem.Spec L2 PyProof.Rows
end Ev
set_option maxHeartbeats 2000000
namespace Ev
open PySem PySem.Spec PyProof.Rows
def SqI (h : Heap) (it l : Addr) (k : Nat) (xs : Array Value) : Prop := (h.IsListIter it l k /\ h.IsList l xs) \/ (h.IsTupleIter it l k /\ h.IsTuple l xs)
theorem SqI.at {h h' : Heap} {it l : Addr} {k : Nat} {xs : Array Value} (x : SqI h it l k xs) (k1 : ∀ o, h.get? it = some o -> h'.get? it = some o) (k2 : ∀ o, h.get? l = some o -> h'.get? l = some o) : SqI h' it l k xs := by
 rcases x with ⟨a, b⟩ | ⟨a, b⟩
 . exact .inl ⟨a.at k1, b.at k2⟩
 . exact .inr ⟨a.at k1, b.at k2⟩
theorem SqI.obj {h : Heap} {it l : Addr} {k : Nat} {xs : Array Value} (x : SqI h it l k xs) : ∃ o, h.get? it = some o /\ ∀ v, o.data ≠ .func v := by
 rcases x with ⟨⟨o, e, _, d⟩, _⟩ | ⟨⟨o, e, _, d⟩, _⟩
 . exact ⟨o, e, fun v q => by rw [d] at q; cases q⟩
 . exact ⟨o, e, fun v q => by rw [d] at q; cases q⟩
section
variable {prog : Program} {w : World} {A : Around} {E : Value -> Shared -> Prop} {s : Shared}
abbrev IsZipS (h : Heap) (z TI TO : Addr) (f0 : Value) : Prop :=
 h.get? z = some { cls := .type "zip", dict := none, data := .fields #[f0, .bool false, .bool true, .ref TI, .ref TO], slots := #[] }
end
abbrev kwS : List (Str × Value) := [("strict", .bool true)]
def SqH (t : Bool) (h : Heap) (l : Addr) (xs : Array Value) : Prop := match t with
 | true => h.IsTuple l xs
 | false => h.IsList l xs
abbrev itC (t : Bool) : String := match t with
 | true => "tuple_iterator"
 | false => "list_iterator"
abbrev zsH1 (t1 : Bool) (h : Heap) (l1 : Addr) : Heap := h.push { cls := .type (itC t1), data := .fields #[.ref l1, .int 0 0] }
abbrev zsH2 (t1 t2 : Bool) (h : Heap) (l1 l2 : Addr) : Heap := (zsH1 t1 h l1).push { cls := .type (itC t2), data := .fields #[.ref l2, .int 0 0] }
abbrev zsH3 (t1 t2 : Bool) (h : Heap) (l1 l2 : Addr) : Heap := (zsH2 t1 t2 h l1 l2).push { cls := .type "tuple", data := .seq #[.ref h.objs.size, .ref (zsH1 t1 h l1).objs.size] }
abbrev zsH4 (t1 t2 : Bool) (h : Heap) (l1 l2 : Addr) : Heap := (zsH3 t1 t2 h l1 l2).push { cls := .type "tuple", data := .seq #[.none, .none] }
abbrev zsH5 (t1 t2 : Bool) (h : Heap) (l1 l2 : Addr) : Heap := (zsH4 t1 t2 h l1 l2).push { cls := .type "zip", data := .fields #[.none, .bool false, .bool true, .ref (zsH2 t1 t2 h l1 l2).objs.size, .ref (zsH3 t1 t2 h l1 l2).objs.size] }
end Ev
namespace Ev
open PySem PySem.Spec PyProof.Rows L2
def SqA (K : PySem.W.Frag) (H : Hp) (t : Bool) (a : Addr) (xs : List V) : Prop := match t with
 | true => SqT K H a xs
 | false => SqL K H a xs
def ItH (t : Bool) (h : Heap) (it l : Addr) (k : Nat) : Prop := match t with
 | true => h.IsTupleIter it l k
 | false => h.IsListIter it l k
theorem ItH.at {t : Bool} {h h' : Heap} {it l : Addr} {k : Nat} (x : ItH t h it l k) (k1 : ∀ o, h.get? it = some o -> h'.get? it = some o) : ItH t h' it l k := by
 cases t with
 | true => exact Heap.IsTupleIter.at x k1
 | false => exact Heap.IsListIter.at x k1
theorem ItH.obj {t : Bool} {h : Heap} {it l : Addr} {k : Nat} (x : ItH t h it l k) : ∃ o, h.get? it = some o /\ ∀ v, o.data ≠ .cell v := by
 cases t with
 | true => obtain ⟨o, e, _, d⟩ := x; exact ⟨o, e, fun v q => by rw [d] at q; cases q⟩
 | false => obtain ⟨o, e, _, d⟩ := x; exact ⟨o, e, fun v q => by rw [d] at q; cases q⟩
theorem list_not_tuple {h : Heap} {l : Addr} {xs ys : Array Value} (a : h.IsList l xs) (b : h.IsTuple l ys) : False := by
 obtain ⟨o, ho, hc, _⟩ := a
 obtain ⟨p, hp, pc, _⟩ := b
 rw [ho] at hp; cases hp
 rw [hc] at pc
 exact absurd pc (by simp)
theorem SqI.it {t : Bool} {h : Heap} {it l : Addr} {k : Nat} {xs ys : Array Value} (x : SqI h it l k xs) (y : SqH t h l ys) : ItH t h it l k := by
 cases t with
 | true =>
  rcases x with ⟨_, a⟩ | ⟨a, _⟩
  . exact (list_not_tuple a y).elim
  . exact a
 | false =>
  rcases x with ⟨a, _⟩ | ⟨_, a⟩
  . exact a
  . exact (list_not_tuple y a).elim
def ItzS (K : PySem.W.Frag) (t1 t2 : Bool) (a b : Addr) : It :=
 ⟨fun i H => ∃ (xs ys : List V) (x y : V), SqA K H t1 a xs /\ SqA K H t2 b ys /\ xs[i]? = some x /\ ys[i]? = some y,
  fun i H v H' => ∃ T x y, v = .ref T /\ H T = none /\ H' = upd H T (.tup [x, y]) /\ (∀ xs, SqA K H t1 a xs -> xs[i]? = some x) /\ ∀ ys, SqA K H t2 b ys -> ys[i]? = some y,
  fun i H => ∃ xs ys : List V, SqA K H t1 a xs /\ SqA K H t2 b ys /\ xs.length <= i /\ ys.length <= i⟩
section
variable {X : Cx} {W : WX} {ea eb : Expr} {ca cb : Vc} {elts : List Expr} {kk : Nat} {tpos p pos kp cp : Pos} {kc : Nat}
def iZipS (K : PySem.W.Frag) (ta : TA) : TI := fun σ H R => ta σ H fun vs H1 => ∃ a b t1 t2 xs ys, vs = [.ref a, .ref b] /\ SqA K H1 t1 a xs /\ SqA K H1 t2 b ys /\ R (ItzS K t1 t2 a b) H1
end
end Ev
namespace Ev
open PySem PySem.Spec PyProof.Rows L2
def rCountD (K : PySem.W.Frag) : V -> List V -> Hp -> VK -> Prop := fun x xs H Q => ∃ (a : Addr) (y : V) (d : PyData) (ds : List PyData), x = V.ref a /\ xs = [y] /\ Dp K H (V.ref a) (.list ds) /\ Dp K H y d /\
 SeqAt.shaped (.list ds) = true /\ SeqAt.shaped d = true /\ Q (.int (ds.countP fun z => PyData.eqv z d : Nat)) H
end Ev
namespace Ev
open PySem PySem.Spec PyProof.Rows L2
section
variable {X : Cx} {W : WX} {xo ek ev ea : Expr} {ck cv ca : Vc} {pos : Pos}
def rDUpd : V -> List V -> Hp -> VK -> Prop := fun x xs H Q => ∃ (a b : Addr) (kvs more : List (Key × V)), x = .ref a /\ xs = [.ref b] /\ a ≠ b /\ H a = some (.dK kvs) /\ H b = some (.dK more) /\ kvs.length + more.length <= sizeLine /\ Q .non (upd H a (.dK (mergeK kvs more)))
variable {tgE iter : Expr} {ifs : List Expr} {scope : Scope} {own : List (Str × Nat)} {w : Env -> Res Src} {is : List Nat} {pair : Bool} {c : Option (Env -> Res Bool)} {x : Vc} {elt : Expr}
theorem set_same {σ : L2.St} {i : Nat} {v : V} (h : sg σ i = some v) : σ.set i (some v) = σ := by
 apply List.ext_getElem?
 intro j
 by_cases hj : i = j
 . subst hj
   have := sg_some h
   rw [this]
   have hl : i < σ.length := getElem?_lt this
   rw [List.getElem?_set_self hl]
 . rw [List.getElem?_set_ne hj]
variable {BN : List String} {GL : List (String × D)} {KB : List KbE} {Gf : Gm} {p : Pos}
end
end Ev
set_option maxHeartbeats 1000000
set_option maxRecDepth 10000
namespace Ev
open PySem PySem.Spec PyProof.Rows L2
abbrev KeysAt (es : Array DictEntry) (qs : List Addr) : Prop := es.toList.map (·.key) = qs.map Value.ref
def Itt (ad : Addr) (es : Array DictEntry) (ep : Nat) (qs : List Addr) : It :=
 ⟨fun i H => H ad = some (dtO ad es ep) /\ i < qs.length, fun i H x H' => H' = H /\ ∃ q, qs[i]? = some q /\ x = .ref q, fun i H => H ad = some (dtO ad es ep) /\ qs.length <= i⟩
theorem keys_size {es : Array DictEntry} {qs : List Addr} (h : KeysAt es qs) : es.size = qs.length := by
 have := congrArg List.length h
 rwa [List.length_map, List.length_map, Array.length_toList] at this
theorem keys_at {es : Array DictEntry} {qs : List Addr} (h : KeysAt es qs) {i : Nat} {q : Addr} (hq : qs[i]? = some q) : ∃ en, es[i]? = some en /\ en.key = .ref q := by
 have e : (es.toList.map (·.key))[i]? = some (Value.ref q) := by rw [h, List.getElem?_map, hq] <;> rfl
 rw [List.getElem?_map, Option.map_eq_some_iff] at e
 obtain ⟨en, h1, h2⟩ := e
 exact ⟨en, by rw [<- Array.getElem?_toList]; exact h1, h2⟩
section
variable {P : Program} {w : World} {K : PySem.W.Frag} {tg : Expr} {ad : Addr} {es : Array DictEntry} {ep : Nat} {qs : List Addr}
theorem turn_td (it : Addr) (ks : KeysAt es qs) : Turn P w K tg (Itt ad es ep qs) [it] it (fun i h => h.IsKeyIter it ad i qs.length ep) where
 mem := by simp
 obj := fun i h st b hb => by
  have e : b = it := by simpa using hb
  subst e
  obtain ⟨oi, e, c, dd⟩ := st
  exact ⟨oi, e, fun v z => by rw [dd] at z; cases z⟩
 keep := fun i h h' st k => st.at fun oi e => k it (by simp) oi e
 item := by
  intro X hP hw hK hc i pins s σ H E I hf st hg
  subst hP hw hK
  obtain ⟨hd, hi⟩ := hg
  obtain ⟨f0, f1, f2, f3, f4, f5⟩ := hf it (by simp)
  obtain ⟨⟨⟨o, ho, hx, hdt⟩, hs⟩, _⟩ := (show ObjOk X.prog X.w H s.heap ad (dtO ad es ep) from I.hok ad _ hd)
  obtain ⟨q, hq⟩ : ∃ q, qs[i]? = some q := ⟨qs[i], List.getElem?_eq_getElem hi⟩
  obtain ⟨en, hen, hkey⟩ := keys_at ks hq
  refine next_key_item st ho hdt (keys_size ks) hen fun h' st' sb => ?_
  have I1 : Inv X pins σ H { s with heap := h' } := I.turned (t' := s.toks) (fun b ob hb e => (sb.2 b hb).trans e) f0 f1 f3 f4 f5
  obtain ⟨oi, e, c, dd⟩ := id st'
  exact ⟨en.key, rfl, go_of (s := { s with heap := h' }) e c dd (by decide) ⟨.ref q, H, I1, hkey, ⟨rfl, q, hq, rfl⟩, st', fun b hb => (hf b hb).1⟩⟩
 done := by
  intro X hP hw hK hc i pins s σ H E I hf st hg
  subst hP hw hK
  obtain ⟨hd, hi⟩ := hg
  obtain ⟨f0, f1, f2, f3, f4, f5⟩ := hf it (by simp)
  obtain ⟨⟨⟨o, ho, hx, hdt⟩, hs⟩, _⟩ := (show ObjOk X.prog X.w H s.heap ad (dtO ad es ep) from I.hok ad _ hd)
  exact next_key_end (I.ok.hd hc) st ho hdt (keys_size ks) hi fun h' eb => ⟨rfl, I.turned (t' := s.toks) (fun b ob hb e => eb b ob hb e) f0 f1 f3 f4 f5⟩
 self := fun A i s Q E st h => wpAny_pyIter_keyiter st h
end
def iTd (td : TE) : TI := fun σ H R => td σ H fun x H1 => ∃ ad es ep qs, x = .ref ad /\ H1 ad = some (dtO ad es ep) /\ KeysAt es qs /\ R (Itt ad es ep qs) H1
theorem pi_td {X : Cx} {tg e : Expr} {td : TE} (he : PE X e td) : PI X tg e (iTd td) := by
 refine ⟨fun pins s σ H R I h => ?_⟩
 refine thn (he.run pins s σ H _ I h) fun u s1 ⟨x, H1, I1, rx, ad, es, ep, qs, ex, hd, ks, q⟩ => ?_
 subst ex
 cases (show u = Value.ref ad from rx)
 obtain ⟨⟨⟨o, ho, hx, hdt⟩, hs⟩, _⟩ := (show ObjOk X.prog X.w H1 s1.heap ad (dtO ad es ep) from I1.hok ad _ hd)
 refine iter_keys hs ho hx hdt (pi_one (tk := s1.toks) I1 _ (turn_td _ ks) ⟨_, Heap.get?_push_size _ rfl, rfl, ?_⟩ q)
 rw [keys_size ks] <;> rfl
theorem kt_at {K : PySem.W.Frag} {F : Hp} : ∀ {l : List DictEntry} {kvs : List (List Int × D)}, KtOk K F l kvs -> ∃ qs : List Addr, l.map (·.key) = qs.map Value.ref /\ qs.length = kvs.length /\ ∀ (i : Nat) (q : Addr), qs[i]? = some q -> ∃ d, (keysT kvs)[i]? = some d /\ Dp K F (.ref q) d
 | _, _, .nil => ⟨[], rfl, rfl, fun i q h => by simp at h⟩
 | _, _, .cons (k := k) (q := q) h1 _ _ t => by
  obtain ⟨qs, h2, h3, h4⟩ := kt_at t
  refine ⟨q :: qs, by rw [List.map_cons, List.map_cons, h2], by simp [h3], fun i x hx => ?_⟩
  cases i with
  | zero => cases hx; exact ⟨_, rfl, .tup h1 (dps_is k)⟩
  | succ i => exact h4 i x (by simpa using hx)
def Fr.atT (L : Fr) (i : Nat) (B : Hp) : Fr := { L with t := fun j => if j = i then B else L.t j }
section
variable {X : Cx} {L : Fr} {G F H B : Hp} {σ : L2.St} {e : Env} {i j : Nat} {o : Option V} {s : Sl} {u : Ot}
theorem sl_atT (hj : j ≠ i) (h : SlOk X.K L G F H j o s) : SlOk X.K (L.atT i B) G F H j o s := by
 cases s with
 | bt u =>
  obtain ⟨v, e1, q⟩ := h
  refine ⟨v, e1, ?_⟩
  have e2 : (L.atT i B).t j = L.t j := if_neg hj
  rw [e2]
  exact q
 | _ => exact h
theorem sl_atT' (hj : j ≠ i) (h : SlOk X.K (L.atT i B) G F H j o s) : SlOk X.K L G F H j o s := by
 cases s with
 | bt u =>
  obtain ⟨v, e1, q⟩ := h
  refine ⟨v, e1, ?_⟩
  have e2 : (L.atT i B).t j = L.t j := if_neg hj
  rw [e2] at q
  exact q
 | _ => exact h
theorem bt_has {x : Addr} (hi : i < e.length) (h : hasF H σ (e.set i (.bt u)) j x) : i ≠ j /\ hasF H σ e j x := hasF_set (fun _ _ _ z => by cases z) hi (fun _ _ => rfl) h
theorem Rel.bt (r : Rel X.K L G F H σ e) (hi : i < e.length) (sB : Same B G) (h : ∃ v, sg σ i = some v /\ TBk X.K B F v u) : Rel X.K (L.atT i B) G F H σ (e.set i (.bt u)) := by
 refine ⟨r.fh, r.gh, by rw [List.length_set]; exact r.len, fun j s hj => ?_, fun j k a hjk m1 m2 => r.ap j k a hjk (bt_has hi m1).2 (bt_has hi m2).2, r.bg, r.td, ⟨r.nw.tb, r.nw.fl, r.nw.gt, fun j => ?_⟩⟩
 . by_cases hij : i = j
   . subst hij
     rw [List.getElem?_set_self hi] at hj
     cases hj
     obtain ⟨v, e1, q⟩ := h
     refine ⟨v, e1, ?_⟩
     have e2 : (L.atT i B).t i = B := if_pos rfl
     rw [e2]
     exact q
   . rw [List.getElem?_set_ne hij] at hj
     exact sl_atT (fun z => hij z.symm) (r.sl j s hj)
 . show Same (if j = i then B else L.t j) G
   split
   . exact sB
   . exact r.nw.tg j
theorem Rel.unbt (r : Rel X.K (L.atT i B) G F H σ e) (hi : e[i]? = some (.bt u)) (tg : Same (L.t i) G) : Rel X.K L G F H σ (e.set i .un) /\ ∀ j x, hasF H σ (e.set i .un) j x -> i ≠ j /\ hasF H σ e j x := by
 obtain ⟨r0, n0⟩ := r.drop (getElem?_lt hi)
 refine ⟨⟨r0.fh, r0.gh, r0.len, fun j s hj => ?_, r0.ap, r0.bg, r0.td, ⟨r0.nw.tb, r0.nw.fl, r0.nw.gt, fun j => ?_⟩⟩, n0⟩
 . by_cases hij : i = j
   . subst hij
     rw [List.getElem?_set_self (getElem?_lt hi)] at hj
     cases hj
     trivial
   . exact sl_atT' (fun z => hij z.symm) (r0.sl j s hj)
 . have q := r0.nw.tg j
   by_cases hj : j = i
   . subst hj
     exact tg
   . have e2 : (L.atT i B).t j = L.t j := if_neg hj
     rw [e2] at q
     exact q
end
section
variable {X : Cx} {W : WX} {scope : Scope} {tgE elt : Expr} {is : List Nat} {ifs : List Expr} {c : Option (Env -> Res Bool)} {x : Vc} {own : List (Str × Nat)} {pos : Pos}
theorem pv_tlk {i : Nat} {x0 : Str} {px : Pos} (hc : X.calm = true) (hN : X.N.Nodup) (hx : X.N[i]? = some x0) (hv : Vis X.env.scope x0) (hd : (x0 == ("__debug__" : Str)) = false) (hcd : (x0 == ("__classdict__" : Str)) = false) (ok : BlkOk X.N X.env.scope scope own) (his : ∀ i ∈ is, i ∈ own.map (·.2)) (hb : Blk X W scope tgE is false ifs c elt x) (hs : ∀ x, foldedSetIterable (.Name x0 px) X.env x = pure x) :
  PV X W (.ListComp elt [⟨tgE, .Name x0 px, ifs, 0⟩] scope pos) (tlkC (own.map (·.2)) is i c x) := by
 have key : PE X (.ListComp elt [⟨tgE, .Name x0 px, ifs, 0⟩] scope pos) (tLc (iTd fun σ H Q => ∃ v, σ[i]? = some (some v) /\ Q v H) (gOf X.K is false) (tOfC X c) (Tr X W0 (vE x) (DOk X.K)) (own.map (·.2))) :=
  pe_lc hc hN (pi_td (pe_var (pos := px) hx hv hd hcd)) ok hb.g hb.t (fun s H C cl fp => pe_imp (pv_e (hb.e s H C cl fp)) fun _ _ _ q => tr_blk hc q) hs
 refine pe_imp key fun σ H Q q => ?_
 obtain ⟨L, G, F, e, r, a⟩ := q
 obtain ⟨p, hp, a1⟩ := a.ofO
 have he := tdM_some hp
 have hi := getElem?_lt he
 cases hw : wipeE (e.set i (.bt (.d p.2))) (own.map (·.2)) with
 | none => rw [hw] at a1; exact a1.elim
 | some e2 =>
  rw [hw] at a1
  dsimp only at a1
  split at a1
  . rename_i hcnd
    obtain ⟨hbig, ht⟩ := hcnd
    obtain ⟨ad, hsg, ow, _⟩ := r.sl i _ he
    obtain ⟨ad2, hs2, _, nd, es, ep, hH, kt⟩ := td_now r (tdM_S hp)
    rw [hsg] at hs2
    cases hs2
    obtain ⟨qs, ks, ln, kat⟩ := kt_at kt
    have kl : (keysT p.2).length = p.2.length := List.length_map _
    refine ⟨.ref ad, sg_some hsg, ad, es, ep, qs, rfl, hH, ks, fun D0 hD => ?_⟩
    have nD : D0 ≠ ad := by
     rintro rfl
     rw [hH] at hD
     cases hD
    obtain ⟨r0, n0⟩ := r.drop hi
    have nad : ∀ j, ¬ hasF H σ (e.set i .un) j ad := fun j m => by
     obtain ⟨nij, m⟩ := n0 j ad m
     exact r.ap i j ad nij (hasF_root he hsg) m
    have r1 := r0.guard ow.g hH nad
    have gs : Same G (upd G ad (dtO ad es ep)) := same_upd ow.g
    have sB : Same (upd (fun _ => none) ad (dtO ad es ep)) (upd G ad (dtO ad es ep)) := fun b o z => by
     by_cases c : b = ad
     . subst c
       rw [upd_same] at z ⊢
       exact z
     . rw [upd_ne c] at z
       cases z
    have r2 := r1.bt (i := i) (u := .d p.2) (by rw [List.length_set]; exact hi) sB ⟨_, hsg, .d upd_same kt nd⟩
    rw [List.set_set] at r2
    have src : SrcN X false (L.1.atT i (upd (fun _ => none) ad (dtO ad es ep))) (upd G ad (dtO ad es ep)) F (Itt ad es ep qs) (vNx (keysT p.2)) := by
     intro G' F' H' σ' e' k st r' gs' o ho
     have hh : H' ad = some (dtO ad es ep) := r'.gh _ _ (gs' _ _ upd_same)
     unfold vNx at ho
     split at ho
     . rename_i hle
       cases ho
       cases hk : (keysT p.2)[k]? with
       | none => exact ⟨hh, by have := List.getElem?_eq_none_iff.mp hk; omega⟩
       | some d =>
        refine ⟨⟨hh, by have := getElem?_lt hk; omega⟩, fun y H3 hy => ?_⟩
        obtain ⟨rfl, q, hq, rfl⟩ := hy
        obtain ⟨d', h1, h2⟩ := kat k q hq
        rw [h1] at hk
        cases hk
        exact ⟨F', r', Step.refl G' F', .inl (dp_mono st h2)⟩
     . cases ho
    refine lc_go (Q := Q) (c := c) (x := x) (pair := false) (own := own.map (·.2)) (tg := is) (L := ⟨L.1.atT i (upd (fun _ => none) ad (dtO ad es ep)), L.2⟩) (n := (keysT p.2).length + 1) (nx := vNx (keysT p.2)) his (by rw [kl]; exact hbig) hD (r2.wipe hw) (fun j hj => ((wipeE_set hw).2.1 j hj).1) src ?_
    rw [lcGo_eq (by omega) (by omega), List.drop_zero]
    have turn_ne : ∀ d s y e, lcTurn (own.map (·.2)) is false c x d s ≠ .exc y e := fun d s y e => lcTurn_ne
    cases hg : lcGo (lcTurn (own.map (·.2)) is false c x) (keysT p.2) e2 with
    | bad => rw [hg] at a1; exact a1.elim
    | exc y e3 =>
     have := lcGo_eq (turn := lcTurn (own.map (·.2)) is false c x) (ds := keysT p.2) (n := (keysT p.2).length + 1) (k := 0) (s := e2) (by omega) (by omega)
     rw [List.drop_zero, hg] at this
     exact absurd this (lcGoN_ne turn_ne)
    | ok ds' e3 =>
     rw [hg, bind_ok] at a1
     refine ⟨ds', e3, rfl, fun F' H' vs' r3 st3 f3 hD3 dv nm hu => ?_⟩
     have le : e3.length = (e.set i (.bt (.d p.2))).length := by rw [<- r3.len, wipe_length, r2.len]
     have r4 := r2.back hw r3 st3.s hu
     split at a1
     . rename_i u0 hun
       obtain ⟨r5, m5⟩ := r4.unbt hun ((r.nw.tg i).trans gs)
       obtain ⟨r6, hfr, n6⟩ := r5.unguard ow.g ⟨r.bg, r.nw.tg⟩
       have fad : F' ad = none := by
        rw [st3.g ad (by rw [upd_same]; exact fun z => nomatch z)]
        exact ow.f
       have r7 := r6.setMu (i := i) (c := .tr (.d p.2)) (by rw [List.length_set]; exact getElem?_lt hun) ⟨fad, ow.g, _, hfr, tr_cr ⟨rfl, .d fad ow.g hfr (kt_mono st3.s kt) nd, List.nodup_cons.mpr ⟨List.not_mem_nil, List.nodup_nil⟩⟩⟩ (fun j y hy => by
        cases List.mem_singleton.mp hy
        exact n6 j)
       rw [set_same hsg, List.set_set] at r7
       refine a1 (.ref D0) F' _ r7 (st3.weak gs) ⟨D0, rfl, Own.of (o := .lst vs') f3 ?_ hD3 (c := .lst ds') dv, fun j y hy m => ?_⟩
       . exact gs.free (r2.gh.free hD)
       . cases List.mem_singleton.mp hy
         by_cases hij : i = j
         . subst hij
           obtain ⟨t, k, cc, b, m1, m2, m3⟩ := m
           rw [List.getElem?_set_self (getElem?_lt hun)] at m1
           cases m1
           rw [hsg] at m2
           cases m2
           exact nD (List.mem_singleton.mp m3)
         . obtain ⟨t, k, cc, b, m1, m2, m3⟩ := m
           rw [List.getElem?_set_ne hij] at m1
           exact nm j (back_has hw le ⟨t, k, cc, b, m1, m2, m3⟩).2
     . exact a1.elim
  . exact a1.elim
end
section
variable {X : Cx} {W : WX} {pos : Pos} {i : Nat}
theorem pz_parT {j : Nat} {x y : Str} {px py pt : Pos} {kt k2 : Nat} {pt2 : Pos} {ea eb : Expr} {ca cb : Vc} (hc : X.calm = true) (hN : X.N.Nodup) (hi : X.N[i]? = some x) (hj : X.N[j]? = some y) (hij : i ≠ j) (hx : X.env.scope.names.lookup x = some .local) (hy : X.env.scope.names.lookup y = some .local) (ha : PV X W ea ca) (hb : PV X W eb cb)
  (hs1 : starEach [ea, eb] X.env = (false, eval ea X.env) :: starEach [eb] X.env) (hs2 : starEach [eb] X.env = (false, eval eb X.env) :: starEach [] X.env)
  (hw : swappedStores [.Tuple [.Name x px, .Name y py] kt pt] (.Tuple [ea, eb] k2 pt2) X.env = pure (some [x, y])) :
  PV1 X W (.Assign [.Tuple [.Name x px, .Name y py] kt pt] (.Tuple [ea, eb] k2 pt2) pos) (parTS i j ca cb) := ps_imp (ps_par hc hN hi hj hij hx hy (pa_cons ha (pa_cons hb pa_nil hs2) hs1) hw rfl) fun D σ H q => by
 obtain ⟨L, G, F, e, r, a⟩ := q
 refine ⟨L, G, F, e, r, (AfterS.bind (P1 := ROk X.K) a).mono fun v H1 z => ?_⟩
 obtain ⟨F1, e1, rr, r1, st1, p1, a1⟩ := z
 rcases (show (∃ kvs, rr = .fresh (.tr (.d kvs))) \/ False from by
  cases rr with
  | val d => exact .inr a1
  | slot k => exact .inr a1
  | fresh c => cases c with
   | tr u => cases u with
    | d kvs => exact .inl ⟨kvs, rfl⟩
    | _ => exact .inr a1
   | _ => exact .inr a1) with ⟨kvs, rfl⟩ | hF
 . have a1 : AfterS X W L G F1 D ((cb e1).bind fun q e2 => if i = j then .bad else match setV j q e2 with
    | some e3 => fl (setV i (.fresh (.tr (.d kvs))) e3)
    | none => .bad) := a1
   obtain ⟨p, rfl, ow, nf⟩ := p1
   obtain ⟨fp, gp, o, hp, q4⟩ := ow
   obtain ⟨_, t2, _⟩ := cr_tr q4
   cases t2 with
   | @d _ es ep _ u1 u2 u3 kt nd =>
    have np : ∀ k, ¬ hasF H1 σ e1 k p := fun k => nf k p (List.mem_singleton.mpr rfl)
    have gs : Same G (upd G p (dtO p es ep)) := same_upd gp
    have r2 := r1.guard gp u3 np
    show Tr X W cb (ROk X.K) σ _ _
    refine ⟨L, _, F1, e1, r2, ?_⟩
    cases h1 : cb e1 with
    | bad => rw [h1] at a1; exact a1.elim
    | exc x e2 =>
     rw [h1] at a1
     exact fun c dd F' H' r3 st3 p3 => a1 c dd σ F' H' (r3.unguard gp ⟨r.bg, r.nw.tg⟩).1 (st3.weak gs) p3
    | ok q e2 =>
     rw [h1, bind_ok] at a1
     intro v2 F2 H2 r3 st3 p3
     rw [if_neg hij] at a1
     cases h3 : setV j q e2 with
     | none => rw [h3] at a1; exact a1.elim
     | some e3 =>
      rw [h3] at a1
      have r4 := setV_state r3 p3 h3
      obtain ⟨r5, h4, n4⟩ := r4.unguard gp ⟨r.bg, r.nw.tg⟩
      have f4 : F2 p = none := by
       rw [st3.g p (by rw [upd_same]; exact fun z => nomatch z)]
       exact fp
      obtain ⟨e4, h5, k⟩ := a1.fl
      have ok5 : ROk X.K G F2 H2 (σ.set j (some v2)) e3 (.fresh (.tr (.d kvs))) (.ref p) := ⟨p, rfl, ⟨f4, gp, _, h4, tr_cr ⟨rfl, .d f4 gp h4 (kt_mono st3.s kt) nd, List.nodup_cons.mpr ⟨List.not_mem_nil, List.nodup_nil⟩⟩⟩, fun k y hy => by
       cases List.mem_singleton.mp hy
       exact n4 k⟩
      have r6 := setV_state r5 ok5 h5
      refine ⟨.ref p, v2, rfl, ?_⟩
      rw [List.set_comm _ _ hij]
      exact k _ F2 _ r6 (st3.weak gs)
 . exact hF.elim
theorem pz_unpT {j : Nat} {tg : Expr} {k2 : Nat} {pt2 : Pos} {ea eb : Expr} {ca cb : Vc} (hij : i ≠ j) (hg : PG X tg (gOf X.K [i, j] true)) (ha : PV X W ea ca) (hb : PV X W eb cb)
  (hs1 : starEach [ea, eb] X.env = (false, eval ea X.env) :: starEach [eb] X.env) (hs2 : starEach [eb] X.env = (false, eval eb X.env) :: starEach [] X.env)
  (hs : swapsWithSole [tg] (.Tuple [ea, eb] k2 pt2) pos.line X.env = pure false) (hw : swappedStores [tg] (.Tuple [ea, eb] k2 pt2) X.env = pure none) (h1 : (assignEach [tg] X.env).map (·.2) = [assign tg X.env]) :
  PV1 X W (.Assign [tg] (.Tuple [ea, eb] k2 pt2) pos) (parTS i j ca cb) := ps_imp (ps_asg (pe_tupZ (pa_cons ha (pa_cons hb pa_nil hs2) hs1)) hg hs hw h1) fun D σ H q => by
 obtain ⟨L, G, F, e, r, a⟩ := q
 refine ⟨L, G, F, e, r, (AfterS.bind (P1 := ROk X.K) a).mono fun v H1 z => ?_⟩
 obtain ⟨F1, e1, rr, r1, st1, p1, a1⟩ := z
 rcases (show (∃ kvs, rr = .fresh (.tr (.d kvs))) \/ False from by
  cases rr with
  | val d => exact .inr a1
  | slot k => exact .inr a1
  | fresh c => cases c with
   | tr u => cases u with
    | d kvs => exact .inl ⟨kvs, rfl⟩
    | _ => exact .inr a1
   | _ => exact .inr a1) with ⟨kvs, rfl⟩ | hF
 . have a1 : AfterS X W L G F1 D ((cb e1).bind fun q e2 => if i = j then .bad else match setV j q e2 with
    | some e3 => fl (setV i (.fresh (.tr (.d kvs))) e3)
    | none => .bad) := a1
   obtain ⟨p, rfl, ow, nf⟩ := p1
   obtain ⟨fp, gp, o, hp, q4⟩ := ow
   obtain ⟨_, t2, _⟩ := cr_tr q4
   cases t2 with
   | @d _ es ep _ u1 u2 u3 kt nd =>
    have np : ∀ k, ¬ hasF H1 σ e1 k p := fun k => nf k p (List.mem_singleton.mpr rfl)
    have gs : Same G (upd G p (dtO p es ep)) := same_upd gp
    have r2 := r1.guard gp u3 np
    show Tr X W cb (ROk X.K) σ _ _
    refine ⟨L, _, F1, e1, r2, ?_⟩
    cases h1 : cb e1 with
    | bad => rw [h1] at a1; exact a1.elim
    | exc x e2 =>
     rw [h1] at a1
     exact fun c dd F' H' r3 st3 p3 => a1 c dd σ F' H' (r3.unguard gp ⟨r.bg, r.nw.tg⟩).1 (st3.weak gs) p3
    | ok q e2 =>
     rw [h1, bind_ok] at a1
     intro v2 F2 H2 r3 st3 p3
     rw [if_neg hij] at a1
     cases h3 : setV j q e2 with
     | none => rw [h3] at a1; exact a1.elim
     | some e3 =>
      rw [h3] at a1
      have r4 := setV_state r3 p3 h3
      obtain ⟨r5, h4, n4⟩ := r4.unguard gp ⟨r.bg, r.nw.tg⟩
      have f4 : F2 p = none := by
       rw [st3.g p (by rw [upd_same]; exact fun z => nomatch z)]
       exact fp
      obtain ⟨e4, h5, k⟩ := a1.fl
      have ok5 : ROk X.K G F2 H2 (σ.set j (some v2)) e3 (.fresh (.tr (.d kvs))) (.ref p) := ⟨p, rfl, ⟨f4, gp, _, h4, tr_cr ⟨rfl, .d f4 gp h4 (kt_mono st3.s kt) nd, List.nodup_cons.mpr ⟨List.not_mem_nil, List.nodup_nil⟩⟩⟩, fun k y hy => by
       cases List.mem_singleton.mp hy
       exact n4 k⟩
      have r6 := setV_state r5 ok5 h5
      refine ⟨(show 2 <= sizeLine by rw [sizeLine_eq]; decide), fun p2 ob hpn hob => ?_⟩
      obtain ⟨r7, st7⟩ := r6.lay (o := .frz ob (.tup [.ref p, v2])) hpn hob
      refine .inl ⟨p2, [.ref p, v2], rfl, .inl (.inr ⟨ob, by simp [upd]⟩), rfl, gIs_set rfl ?_⟩
      show D.nx ((σ.set i (some (.ref p))).set j (some v2)) _
      rw [List.set_comm _ _ hij]
      exact k _ _ _ r7 ((st3.weak gs).trans st7)
 . exact hF.elim
end
end Ev
set_option maxHeartbeats 2000000
set_option maxRecDepth 100000
namespace Ev
open PySem PySem.Spec PySem.W PySem.Calls PyProof.Rows L2
section
variable {X : Cx} {W : WX} {pos : Pos}
def gStar (K : PySem.W.Frag) (i : Nat) (t : TGs) : TG := fun v σ H Q => ∃ a xs, v = .ref a /\ (SqT K H a xs \/ SqL K H a xs) /\ i <= xs.length /\ xs.length <= 16384 /\ ∀ D, H D = none -> t (xs.take i ++ [.ref D]) σ (upd H D (.lst (xs.drop i))) Q
variable {ex : Expr} {c : Vc}
end
end Ev
set_option maxHeartbeats 1000000
set_option maxRecDepth 10000
namespace Ev
open PySem PySem.Spec PyProof.Rows L2
section
variable {X : Cx} {W : WX} {L : Fr} {G F H : Hp} {σ : L2.St} {e : Env}
def AfterB (X : Cx) (L : Fr) (G F : Hp) (σ : L2.St) (e : Env) (Q : V -> Hp -> Prop) (E : Value -> Option Addr -> Hp -> Prop) : FRes -> Prop
 | .ret d [_] => ∀ v F' H', Rel X.K L G F' H' σ e -> Step G F F' -> Dp X.K F' v d -> Q v H'
 | .fresh c [_] => ∀ v F' H', Rel X.K L G F' H' σ e -> Step G F F' -> ROk X.K G F' H' σ e (.fresh c) v -> Q v H'
 | .exc x [_] => ∀ cls dd F' H', Rel X.K L G F' H' σ e -> Step G F F' -> XOk X.K X.mg F' H' x cls dd -> E cls dd H'
 | _ => False
end
end Ev
set_option maxHeartbeats 2000000
set_option maxRecDepth 100000
namespace Ev
open PySem PySem.Spec PyProof.Rows L2
section
variable {X : Cx} {W : WX}
def cloV (Gf : Gm) (a b : Nat) : Vc := fun e => match e[a]?, e[b]? with
 | some (.fnc f), some (.fz d) => callD Gf f [.val d] e
 | _, _ => .bad
abbrev FpDone (X : Cx) (L : FrX X) (G F1 : Hp) (σ : L2.St) (a b : Nat) (D0 : Addr) (Q : VK) (acc : List D) : List D -> Env -> Prop := fun rs e3 =>
 ∀ F' H' vs, Rel X.K L G F' H' (wipe σ [a, b]) e3 -> Step G F1 F' -> F' D0 = none -> H' D0 = some (.lst vs) -> DpAll X.K F' vs (acc ++ rs) -> (∀ i, ¬ hasF H' (wipe σ [a, b]) e3 i D0) -> (∀ i ∈ [a, b], e3[i]? = some .un) -> Q (.ref D0) H'
def tFz (X : Cx) (W : WX) (i : Nat) (cb : Vc) : TA := fun σ H R => ∃ v, σ[i]? = some (some v) /\ Tr X W (vE cb) (DOk X.K) σ H fun w H1 => R [v, w] H1
def rTup0 (K : PySem.W.Frag) : R2 := fun x y H Q => ∃ a b xs, x = .ref a /\ y = .ref b /\ SqT K H a xs /\ SqT K H b [] /\ Q (.bl xs.isEmpty) H
def tKget (X : Cx) (tbl : List (Str × Te)) (j : Nat) (tx : TE) : TE := fun σ H Q => ∃ (z : Str) (fs : List String), σ[j]? = some (some (.str z)) /\ fsO (tbl.lookup z) = some fs /\ tx σ H fun w' H3 => match tbl.lookup z with
 | some _ => ∀ a as, SqT X.K (fun _ => none) a (as.map V.ref) -> FnAll X.K fs as -> Q (.ref a) H3
 | none => Q w' H3
end
end Ev
namespace Ev
open PySem PySem.Spec PySem.W PySem.Calls PyProof.Rows L2
section
variable {X : Cx} {W : WX} {pos : Pos}
def gAhead (K : PySem.W.Frag) (t : TGs) : TG := fun v σ H Q => ∃ a xs, v = .ref a /\ (SqT K H a xs \/ SqL K H a xs) /\ 1 <= xs.length /\ xs.length <= 16384 /\ ∀ D, H D = none -> t (.ref D :: xs.drop (xs.length - 1)) σ (upd H D (.lst (xs.take (xs.length - 1)))) Q
variable {ex : Expr} {c : Vc}
end
end Ev
set_option maxHeartbeats 4000000
namespace Ev
open PySem PySem.Spec PyProof.Rows L2
section
variable {X : Cx} {W : WX}
structure ClOk (Cl : Hp -> HO -> List D -> Prop) : Prop where
 mono : ∀ {F F' : Hp} {o : HO} {acc : List D}, Same F F' -> Cl F o acc -> Cl F' o acc
 nt : ∀ {F : Hp} {o : HO} {acc : List D}, Cl F o acc -> ∀ ps, o ≠ .tbl ps
def Cst (K : PySem.W.Frag) (D : Addr) (Cl : Hp -> HO -> List PyData -> Prop) (L : Fr) (G F1 : Hp) (σ : L2.St) (e : Env) (H : Hp) (acc : List PyData) : Prop :=
 ∃ F o, Rel K L G F H σ e /\ Step G F1 F /\ F D = none /\ H D = some o /\ Cl F o acc /\ ∀ i, ¬ hasF H σ e i D
structure BodyOk (X : Cx) (D : Addr) (Cl : Hp -> HO -> List PyData -> Prop) (lim : List PyData -> Prop) (tb : TBd) (bd : Env -> Res (List PyData)) : Prop where
 run : ∀ {L : FrX X} {G F1 H : Hp} {σ : L2.St} {e e' : Env} {acc ds : List PyData} {Q : Hp -> Prop}, G D = none -> Cst X.K D Cl L.1 G F1 σ e H acc -> bd e = .ok ds e' -> lim (acc ++ ds) -> (∀ H', Cst X.K D Cl L.1 G F1 σ e' H' (acc ++ ds) -> Q H') -> tb σ H Q
theorem un_has {H : Hp} {σ : L2.St} {e : Env} {own : List Nat} (hu : ∀ i ∈ own, e[i]? = some .un) {j : Nat} {x : Addr} (m : hasF H σ e j x) : hasF H (wipe σ own) e j x := by
 obtain ⟨t, k, c, a, z, z2, z3⟩ := m
 have hj : j ∉ own := fun hj => by
  rw [hu j hj] at z
  cases z
 exact ⟨t, k, c, a, z, by rw [sg_wipe hj]; exact z2, z3⟩
theorem Rel.unwipe {L : Fr} {G F H : Hp} {σ : L2.St} {e : Env} {own : List Nat} (r : Rel X.K L G F H (L2.wipe σ own) e) (hu : ∀ i ∈ own, e[i]? = some .un) : Rel X.K L G F H σ e := by
 refine ⟨r.fh, r.gh, by rw [<- r.len, wipe_length], fun j s hj => ?_, fun j k a hjk m1 m2 => r.ap j k a hjk (un_has hu m1) (un_has hu m2), r.bg, r.td, r.nw⟩
 by_cases hm : j ∈ own
 . rw [hu j hm] at hj
   cases hj
   trivial
 . have q := r.sl j s hj
   rw [sg_wipe hm] at q
   exact q
theorem Cst.unwipe {D : Addr} {Cl : Hp -> HO -> List PyData -> Prop} {L : Fr} {G F1 H : Hp} {σ : L2.St} {e : Env} {own : List Nat} {acc : List PyData} (s : Cst X.K D Cl L G F1 (L2.wipe σ own) e H acc) (hu : ∀ i ∈ own, e[i]? = some .un) : Cst X.K D Cl L G F1 σ e H acc := by
 obtain ⟨F, o, r, st, fD, hD, cl, nm⟩ := s
 exact ⟨F, o, r.unwipe hu, st, fD, hD, cl, fun i m => nm i (un_has hu m)⟩
theorem Cst.wipe {D : Addr} {Cl : Hp -> HO -> List PyData -> Prop} {L : Fr} {G F1 H : Hp} {σ : L2.St} {e e1 : Env} {own : List Nat} {acc : List PyData} (s : Cst X.K D Cl L G F1 σ e H acc) (hw : wipeE e own = some e1) : Cst X.K D Cl L G F1 (L2.wipe σ own) e1 H acc := by
 obtain ⟨F, o, r, st, fD, hD, cl, nm⟩ := s
 exact ⟨F, o, r.wipe hw, st, fD, hD, cl, fun i m => nm i (wipe_has hw m).2⟩
theorem Cst.from {D : Addr} {Cl : Hp -> HO -> List PyData -> Prop} {L : Fr} {G F0 F1 H : Hp} {σ : L2.St} {e : Env} {acc : List PyData} (s : Cst X.K D Cl L G F1 σ e H acc) (st : Step G F0 F1) : Cst X.K D Cl L G F0 σ e H acc := by
 obtain ⟨F, o, r, st1, q⟩ := s
 exact ⟨F, o, r, st.trans st1, q⟩
def ClL (K : PySem.W.Frag) : Hp -> HO -> List PyData -> Prop := fun F o acc => ∃ vs, o = .lst vs /\ DpAll K F vs acc
def ClS (K : PySem.W.Frag) (P : Program) (w : World) (D : Addr) : Hp -> HO -> List PyData -> Prop := fun F o acc => ∃ L : List (Addr × List Int), o = SetTO P w D L /\ (∀ p ∈ L, SqT K F p.1 (p.2.map V.int)) /\ (L.map (·.2)).Nodup /\ ∀ k : List Int, k ∈ L.map (·.2) ↔ PyData.tuple (k.map .int) ∈ acc
def heapN (o : Obj) : Nat -> Heap
 | 0 => { objs := #[] }
 | n + 1 => (heapN o n).push o
end
section
variable {Y : Cx} {vs vs1 : List Nat} {elt : Expr} {te : TE} {tb : TBd} {b : Bd} {D : Addr}
def tAdd (K : PySem.W.Frag) (P : Program) (w : World) (te : TE) (D : Addr) : TBd := fun σ H Q => te σ H fun y H1 => ∃ (a : Addr) (k : List Int) (L : List (Addr × List Int)), y = .ref a /\ SqT K H1 a (k.map V.int) /\ H1 D = some (SetTO P w D L) /\ (∀ p ∈ L, SqT K H1 p.1 (p.2.map V.int)) /\ L.length + 1 < 64 /\
 ∀ L', (k ∈ L.map (·.2) -> L' = L) -> (k ∉ L.map (·.2) -> L'.Perm ((a, k) :: L)) -> Q (upd H1 D (SetTO P w D L'))
end
section
variable {X : Cx} {W : WX}
def limS (ds : List PyData) : Prop := ∃ ks, wordsL ds = some ks /\ (ddW ks).length < 63
variable {elt tgE iter tgE1 iter1 tgE2 iter2 : Expr} {scope : Scope} {own : List (Str × Nat)} {pos : Pos} {w w1 w2 : Env -> Res Src} {is is1 is2 : List Nat} {pair pair1 pair2 : Bool} {x : Vc}
structure Blk3 (X : Cx) (W : WX) (scope : Scope) (tg : Expr) (is : List Nat) (pair : Bool) (tg1 : Expr) (is1 : List Nat) (pair1 : Bool) (j1 : Expr) (w1 : Env -> Res Src) (tg2 : Expr) (is2 : List Nat) (pair2 : Bool) (j2 : Expr) (w2 : Env -> Res Src) (elt : Expr) (x : Vc) : Prop where
 g : ∀ (s : Shared) (H : Hp) (C : Addr) (cl : List (Str × Addr)) (fp : List Addr), PG (X.blk s H scope (compEnvC scope cl C X.env) fp) tg (gOf X.K is pair)
 g1 : ∀ (s : Shared) (H : Hp) (C : Addr) (cl : List (Str × Addr)) (fp : List Addr), PG (X.blk s H scope (compEnvC scope cl C X.env) fp) tg1 (gOf X.K is1 pair1)
 g2 : ∀ (s : Shared) (H : Hp) (C : Addr) (cl : List (Str × Addr)) (fp : List Addr), PG (X.blk s H scope (compEnvC scope cl C X.env) fp) tg2 (gOf X.K is2 pair2)
 i1 : ∀ (s : Shared) (H : Hp) (C : Addr) (cl : List (Str × Addr)) (fp : List Addr), PI (X.blk s H scope (compEnvC scope cl C X.env) fp) tg1 j1 (Tr (X.blk s H scope (compEnvC scope cl C X.env) fp) W0 w1 (SrcF X pair1))
 i2 : ∀ (s : Shared) (H : Hp) (C : Addr) (cl : List (Str × Addr)) (fp : List Addr), PI (X.blk s H scope (compEnvC scope cl C X.env) fp) tg2 j2 (Tr (X.blk s H scope (compEnvC scope cl C X.env) fp) W0 w2 (SrcF X pair2))
 e : ∀ (s : Shared) (H : Hp) (C : Addr) (cl : List (Str × Addr)) (fp : List Addr), PV (X.blk s H scope (compEnvC scope cl C X.env) fp) W0 elt x
 pr : pair = isTupE tg
 s1 : ∀ env x, foldedSetIterable j1 env x = pure x
 s2 : ∀ env x, foldedSetIterable j2 env x = pure x
end
end Ev
set_option maxHeartbeats 2000000
namespace Ev
open PySem PySem.Spec PyProof.Rows L2
section
variable {X : Cx} {W : WX} {BN : List String} {GL : List (String × D)} {KB : List KbE} {Gf : Gm} {p pos : Pos}
inductive GNs (X : Cx) : List Expr -> List String -> Prop where
 | nil : GNs X [] []
 | cons {g : String} {q : Pos} {ns : List Expr} {gs : List String} : Gl X (T g) -> (T g == ("__debug__" : Str)) = false -> GNs X ns gs -> GNs X (.Name (T g) q :: ns) (g :: gs)
end
end Ev
set_option maxHeartbeats 1000000
set_option maxRecDepth 10000
namespace Ev
open PySem PySem.Spec PyProof.Rows L2
mutual
def dEq : D -> D -> Bool
 | .none, .none => true
 | .bool a, .bool b => a == b
 | .int a, .int b => a == b
 | .str a, .str b => a == b
 | .list a, .list b => dsEq a b
 | .tuple a, .tuple b => dsEq a b
 | _, _ => false
def dsEq : List D -> List D -> Bool
 | [], [] => true
 | a :: as, b :: bs => dEq a b && dsEq as bs
 | _, _ => false
end
mutual
theorem dEq_ok : ∀ (a b : D), dEq a b = true -> a = b
 | .none, b, h => by cases b <;> first | rfl | (simp [dEq] at h)
 | .bool x, b, h => by cases b <;> simp [dEq] at h; rw [h]
 | .int x, b, h => by cases b <;> simp [dEq] at h; rw [h]
 | .str x, b, h => by cases b <;> simp [dEq] at h; rw [h]
 | .list x, b, h => by
  cases b <;> simp [dEq] at h
  rw [dsEq_ok _ _ h]
 | .tuple x, b, h => by
  cases b <;> simp [dEq] at h
  rw [dsEq_ok _ _ h]
 | .dict x, b, h => by cases b <;> simp [dEq] at h
theorem dsEq_ok : ∀ (a b : List D), dsEq a b = true -> a = b
 | [], b, h => by cases b <;> first | rfl | (simp [dsEq] at h)
 | x :: xs, b, h => by
  cases b with
  | nil => simp [dsEq] at h
  | cons y ys =>
   simp only [dsEq, Bool.and_eq_true] at h
   rw [dEq_ok _ _ h.1, dsEq_ok _ _ h.2]
end
structure Sx where
 N : List Str
 sc : Scope
 cf : Option Scope
 BN : List String
 GL : List (String × D)
 KB : List KbE
 hot : Bool
 ask : Bool
 lam : Bool
def Sx.fn (S : Sx) (x : Str) : Bool := match S.cf with
 | none => true
 | some s => s.names.lookup x == some .cell
def Sx.blk (S : Sx) (scope : Scope) : Sx := { S with sc := relS scope S.sc, cf := some scope, ask := false, lam := false }
def Sx.lamS (S : Sx) (scope : Scope) : Sx := ⟨S.N, scope, some scope, S.BN, S.GL, S.KB, false, false, false⟩
def visB (sc : Scope) (x : Str) : Bool := match sc.names.lookup x with
 | some .local => true
 | some .cell => true
 | some .free => true
 | _ => false
def locB (S : Sx) (x : Str) : Bool := match S.sc.names.lookup x with
 | some .local => true
 | some .cell => S.fn x
 | _ => false
def glB (sc : Scope) (x : Str) : Bool := sc.names.lookup x == some .globalImplicit
def dbg (x : Str) : Bool := x == ("__debug__" : Str) || x == ("__classdict__" : Str) || x == ("__name__" : Str)
theorem visB_ok {sc : Scope} {x : Str} (h : visB sc x = true) : Vis sc x := by
 unfold visB at h
 split at h
 . rename_i q; exact .inl q
 . rename_i q; exact .inr (.inl q)
 . rename_i q; exact .inr (.inr q)
 . cases h
theorem locB_ok {S : Sx} {x : Str} (h : locB S x = true) : Loc S.sc x /\ (S.fn x = true \/ S.sc.names.lookup x = some .local) := by
 unfold locB at h
 split at h
 . rename_i q; exact ⟨.inl q, .inr q⟩
 . rename_i q; exact ⟨.inr q, .inl h⟩
 . cases h
def notStar : Expr -> Bool
 | .Starred _ _ => false
 | _ => true
theorem star_ok {e : Expr} (h : notStar e = true) (es : List Expr) (env : PySem.Env) : starEach (e :: es) env = (false, eval e env) :: starEach es env := by
 cases e <;> first | rfl | (simp [notStar] at h)
theorem assignEach_ok {e : Expr} (h : notStar e = true) (es : List Expr) (env : PySem.Env) : assignEach (e :: es) env = (false, assign e env) :: assignEach es env := by
 cases e <;> first | rfl | (simp [notStar] at h)
def plainT : Expr -> Bool
 | .UnaryOp .Not _ _ => false
 | .BoolOp _ _ _ => false
 | .IfExp _ _ _ _ => false
 | .Compare _ _ _ _ => false
 | _ => true
theorem plainT_ok {e : Expr} (h : plainT e = true) (env : PySem.Env) (whole : Sem Value) : isTrue e env whole = (do let v <- whole; standAt e.pos; holding [v] (truthy v)) := by
 cases e <;> first | rfl | (simp [plainT] at h; done) | skip
 rename_i op _ _
 cases op <;> first | rfl | (simp [plainT] at h)
def plainIx : Expr -> Bool
 | .Slice _ _ _ _ => false
 | _ => true
theorem plainIx_ok {e : Expr} (h : plainIx e = true) : PlainIx e := fun o i => by
 cases e <;> first | rfl | (simp [plainIx] at h)
def notSet : Expr -> Bool
 | .Set _ _ _ => false
 | _ => true
theorem notSet_ok {e : Expr} (h : notSet e = true) (env : PySem.Env) (x : Value) : foldedSetIterable e env x = pure x := by
 cases e <;> first | rfl | (simp [notSet] at h)
def biName : Bi -> String
 | .len => "len"
 | .tuple => "tuple"
 | .list => "list"
 | .sum => "sum"
 | .any => "any"
 | .all => "all"
 | .abs => "abs"
 | .min2 => "min"
 | .max2 => "max"
 | .minL => "min"
 | .maxL => "max"
 | .repr => "repr"
 | .strInt => "str"
 | .intB => "int"
 | .sorted => "sorted"
 | _ => ""
def biOk : Bi -> Bool
 | .lenset => false
 | .sortset => false
 | .sortxor => false
 | _ => true
theorem biBoot (f : Bi) (h : biOk f = true) : (∃ id, nameOf f = .builtin id /\ bootBuiltins (T (biName f)) = some (.builtin id)) \/ ∃ id, nameOf f = .type id /\ bootBuiltins (T (biName f)) = some (.type id) := by
 cases f <;> first
  | (simp [biOk] at h; done)
  | exact .inl ⟨_, rfl, by decide +kernel⟩
  | exact .inr ⟨_, rfl, by decide +kernel⟩
theorem biNe (f : Bi) (h : biOk f = true) : nameOf f ≠ .none := by
 cases f <;> first
  | (simp [biOk] at h; done)
  | simp [nameOf]
def tyOk (t : String) : Bool := t == "int" || t == "bool" || t == "str" || t == "tuple" || t == "list" || t == "dict"
structure Ck where
 v : Expr -> Bool
 t : Expr -> Bool
 w : Expr -> Expr -> Bool
def mkK (c : Expr -> Bool) : Ck := ⟨c, fun e => plainT e && c e, fun _ e => c e⟩
def mkKT (c t : Expr -> Bool) : Ck := ⟨c, t, fun _ e => c e⟩
def mkKW (w : Expr -> Expr -> Bool) : Ck := ⟨fun _ => false, fun _ => false, w⟩
def eachK : List (Expr -> Bool) -> List Expr -> Bool
 | [], [] => true
 | k :: ks, e :: es => k e && notStar e && eachK ks es
 | _, _ => false
def nmK (S : Sx) (i : Nat) (x : Str) : Bool := S.N[i]? == some x
def varK (S : Sx) (i : Nat) : Expr -> Bool
 | .Name x _ => nmK S i x && visB S.sc x && !dbg x
 | _ => false
def conK (d : D) : Expr -> Bool
 | .Constant c _ _ => match c, d with
  | .none, .none => true
  | .bool a, .bool b => a == b
  | .int a, .int b => a == b
  | .str a, .str b => a == b
  | _, _ => false
 | _ => false
def gloK (S : Sx) (x : String) (d : D) : Expr -> Bool
 | .Name y _ => y == T x && glB S.sc y && !dbg y && S.GL.any fun p => p.1 == x && dEq p.2 d
 | _ => false
def tupK (ks : List (Expr -> Bool)) : Expr -> Bool
 | .Tuple es _ _ => eachK ks es && decide (es.length <= sizeLine)
 | _ => false
def lstK (ks : List (Expr -> Bool)) : Expr -> Bool
 | .List es _ => eachK ks es && decide (es.length <= sizeLine)
 | _ => false
def binK (op : Operator) (a b : Expr -> Bool) : Expr -> Bool
 | .BinOp ea o eb _ => decide (o = op) && a ea && b eb
 | _ => false
def negK (a : Expr -> Bool) : Expr -> Bool
 | .UnaryOp .USub ea _ => a ea
 | _ => false
def cmpK (op : CmpOp) (a b : Expr -> Bool) : Expr -> Bool
 | .Compare ea [o] [eb] _ => decide (o = op) && a ea && b eb && !behindInMarks op eb
 | _ => false
def chnK (op op' : CmpOp) (a b c : Expr -> Bool) : Expr -> Bool
 | .Compare ea [o, o'] [eb, ec] _ => decide (o = op) && decide (o' = op') && a ea && b eb && c ec && !lastMarks [op, op'] [eb, ec]
 | _ => false
def tailE (op : BoolOp) (pos : Pos) : List Expr -> Expr
 | [e] => e
 | es => .BoolOp op es pos
def bopK (op : BoolOp) (a b : Expr -> Bool) : Expr -> Bool
 | .BoolOp o (ea :: eb :: rest) p => decide (o = op) && a ea && b (tailE op p (eb :: rest))
 | _ => false
def notK (a : Expr -> Bool) : Expr -> Bool
 | .UnaryOp .Not ea _ => a ea
 | _ => false
def iteK (c a b : Expr -> Bool) : Expr -> Bool
 | .IfExp ec ea eb _ => c ec && a ea && b eb
 | _ => false
def idxK (a i : Expr -> Bool) : Expr -> Bool
 | .Subscript ea eb _ => a ea && i eb && plainIx eb
 | _ => false
def optK : Option (Expr -> Bool) -> Option Expr -> Bool
 | none, none => true
 | some k, some e => k e
 | _, _ => false
def sliK (a : Expr -> Bool) (lo hi : Option (Expr -> Bool)) : Expr -> Bool
 | .Subscript ea (.Slice l h none _) _ => a ea && optK lo l && optK hi h
 | _ => false
def revK (a : Expr -> Bool) : Expr -> Bool
 | .Subscript ea (.Slice none none (some (.UnaryOp .USub (.Constant (.int 1) _ _) _)) _) _ => a ea
 | _ => false
def blt (S : Sx) (x : Str) (n : String) : Bool := x == T n && glB S.sc x && !dbg x && S.BN.contains n
def sxK (S : Sx) (a b : Expr -> Bool) : Expr -> Bool
 | .Call (.Name x1 _) [.Call (.Name x2 _) [.BinOp (.Call (.Name x3 _) [ea] [] _) .BitXor (.Call (.Name x4 _) [eb] [] _) _] [] _] [] _ =>
  blt S x1 "tuple" && blt S x2 "sorted" && blt S x3 "set" && blt S x4 "set" && a ea && b eb && notStar ea && notStar eb
 | _ => false
def sslK (S : Sx) (a : Expr -> Bool) : Expr -> Bool
 | .Call (.Name x2 _) [.Call (.Name x3 _) [ea] [] _] [] _ => blt S x2 "sorted" && blt S x3 "set" && a ea && notStar ea
 | _ => false
def isiK (S : Sx) (a : Expr -> Bool) (ty : String) : Expr -> Bool
 | .Call (.Name x _) [ea, .Name y _] [] _ => blt S x "isinstance" && a ea && notStar ea && blt S y ty && tyOk ty
 | _ => false
def bifK (S : Sx) (f : Bi) (ks : List (Expr -> Bool)) : Expr -> Bool
 | .Call (.Name x _) es [] _ => blt S x (biName f) && biOk f && eachK ks es && !es.isEmpty
 | _ => false
def calK (S : Sx) (f : String) (ks : List (Expr -> Bool)) : Expr -> Bool
 | .Call (.Name x _) es [] _ => x == T f && glB S.sc x && !dbg x && eachK ks es
 | _ => false
def namesK (S : Sx) : List Nat -> List Expr -> Bool
 | [], [] => true
 | i :: is, .Name x _ :: es => nmK S i x && locB S x && namesK S is es
 | _, _ => false
def tgK (S : Sx) (is : List Nat) (pair : Bool) : Expr -> Bool
 | .Name x _ => !pair && (match is with
  | [i] => nmK S i x && locB S x
  | _ => false)
 | .Tuple es _ _ => pair && namesK S is es
 | _ => false
def uniqK (names : List (Str × NameKind)) : Bool := names.all fun y => names.lookup y.1 == some y.2
def blkOk (S : Sx) (scope : Scope) (own : List (String × Nat)) : Bool :=
 decide (scope.kind = .function) && uniqK scope.names && (own.all fun p => S.N[p.2]? == some (T p.1)) &&
 (scope.names.all fun y => y.2 != .free || S.sc.names.lookup y.1 == some .cell || S.sc.names.lookup y.1 == some .free) &&
 (scope.names.all fun y => !(y.2 == .local || y.2 == .cell) || (own.map fun p => T p.1).contains y.1 || !S.N.contains y.1)
def tstK : Option (Expr -> Bool) -> List Expr -> Bool
 | none, [] => true
 | some k, [e] => k e
 | _, _ => false
def lcK (S : Sx) (own : List (String × Nat)) (tg : List Nat) (pair : Bool) (w : Expr -> Expr -> Bool) (c : Scope -> Option (Expr -> Bool)) (x : Scope -> Expr -> Bool) : Expr -> Bool
 | .ListComp elt [⟨tgE, iter, ifs, k⟩] scope _ => decide (k = 0) && w tgE iter && notSet iter && blkOk S scope own && (tg.all fun i => (own.map (·.2)).contains i) &&
  tgK (S.blk scope) tg pair tgE && tstK (c scope) ifs && x scope elt
 | _ => false
def lcxK (S : Sx) (own : List (String × Nat)) (tg : List Nat) (pair : Bool) (w : Expr -> Expr -> Bool) (x : Scope -> Expr -> Bool) : Expr -> Bool
 | .ListComp elt [⟨tgE, iter, [], k⟩] scope _ => S.cf.isNone && (decide (k = 0) && w tgE iter && notSet iter && blkOk S scope own && (tg.all fun i => (own.map (·.2)).contains i) &&
  tgK (S.blk scope) tg pair tgE && x scope elt)
 | _ => false
def lc2xK (S : Sx) (own : List (String × Nat)) (tg : List Nat) (pair : Bool) (w : Expr -> Expr -> Bool) (tg1 : List Nat) (pair1 : Bool) (w1 : Scope -> Expr -> Bool) (x : Scope -> Expr -> Bool) : Expr -> Bool
 | .ListComp elt [⟨tgE, iter, [], k⟩, ⟨tgE1, iter1, [], k1⟩] scope _ => S.cf.isNone && (decide (k = 0) && decide (k1 = 0) && w tgE iter && notSet iter && notSet iter1 && blkOk S scope own && (tg.all fun i => (own.map (·.2)).contains i) && (tg1.all fun i => (own.map (·.2)).contains i) &&
  tgK (S.blk scope) tg pair tgE && tgK (S.blk scope) tg1 pair1 tgE1 && w1 scope iter1 && x scope elt)
 | _ => false
def dgK (S : Sx) (i : Nat) (k : String) : Expr -> Bool
 | .Subscript xo (.Constant (.str s) _ _) _ => varK S i xo && s == T k
 | _ => false
def keysK : List String -> List (Option Expr) -> Bool
 | [], [] => true
 | k :: ks, some (.Constant (.str s) _ _) :: es => s == T k && keysK ks es
 | _, _ => false
def dctK (ks : List String) (cs : List (Expr -> Bool)) : Expr -> Bool
 | .Dict [] [] _ => ks.isEmpty && cs.isEmpty
 | .Dict kes es _ => keysK ks kes && eachK cs es && decide (ks.length = es.length) && decide ((ks.map T).Nodup) && !ks.isEmpty && decide (ks.length <= 15)
 | _ => false
def kwsK : List String -> List (Expr -> Bool) -> List Keyword -> Bool
 | [], [], [] => true
 | k :: ks, c :: cs, ⟨nm, e, _⟩ :: kws => nm == some (T k) && c e && kwsK ks cs kws
 | _, _, _ => false
def cakK (S : Sx) (f : String) (ks : List String) (perm : List Nat) (dl : List (Option Int)) (cs ds : List (Expr -> Bool)) : Expr -> Bool
 | .Call (.Name x _) es kws _ => x == T f && glB S.sc x && !dbg x && eachK cs es && kwsK ks ds kws && decide ((f, es.length, ks, perm, dl) ∈ S.KB)
 | _ => false
def rg1K (S : Sx) (a : Expr -> Bool) : Expr -> Expr -> Bool
 | _, .Call (.Name x _) [ea] [] _ => blt S x "range" && a ea && notStar ea
 | _, _ => false
def rg2K (S : Sx) (a b : Expr -> Bool) : Expr -> Expr -> Bool
 | _, .Call (.Name x _) [ea, eb] [] _ => blt S x "range" && a ea && b eb && notStar ea && notStar eb
 | _, _ => false
def enK (S : Sx) (a : Expr -> Bool) : Expr -> Expr -> Bool
 | .Tuple _ _ _, .Call (.Name x _) [ea] [] _ => blt S x "enumerate" && a ea && notStar ea
 | _, _ => false
def zpK (S : Sx) (a b : Expr -> Bool) : Expr -> Expr -> Bool
 | .Tuple _ _ _, .Call (.Name x _) [ea, eb] [] _ => blt S x "zip" && a ea && b eb && notStar ea && notStar eb
 | _, _ => false
def rt1K (S : Sx) (l : Bool) (a : Expr -> Bool) : Expr -> Bool
 | .Call (.Name y _) [.Call (.Name x _) [ea] [] _] [] _ => blt S y (if l = true then "list" else "tuple") && blt S x "range" && a ea && notStar ea
 | _ => false
def rt2K (S : Sx) (l : Bool) (a b : Expr -> Bool) : Expr -> Bool
 | .Call (.Name y _) [.Call (.Name x _) [ea, eb] [] _] [] _ => blt S y (if l = true then "list" else "tuple") && blt S x "range" && a ea && b eb && notStar ea && notStar eb
 | _ => false
def rgcB (a b c : Int) (n : Nat) : Bool := decide (c ≠ 0) && decide (c.natAbs < 1073741824) && Builtin.Range.small a b c && decide (Builtin.Range.rangeSize a b c = n) && decide (n <= 1000)
def rt3K (S : Sx) (a b c : Int) (n : Nat) : Expr -> Bool
 | .Call (.Name y _) [.Call (.Name x _) [.Constant (.int a') _ _, .Constant (.int b') _ _, .Constant (.int c') _ _] [] _] [] _ => blt S y "list" && blt S x "range" && a' == a && b' == b && c' == c && rgcB a b c n
 | _ => false
def noArgs : Arguments -> Bool
 | ⟨[], [], none, [], [], none, []⟩ => true
 | _ => false
def askK (S : Sx) (i : Nat) : Expr -> Bool
 | .Call (.Name x _) [] [] _ => decide (i = 0) && S.ask && nmK S 0 x
 | _ => false
def lamK (S : Sx) (h : String) (k : Scope -> Expr -> Bool) : Expr -> Bool
 | .Call (.Name x _) [.Lambda params body scope _] [] _ => x == T h && glB S.sc x && !dbg x && S.lam && noArgs params && LamX.lamSB S.sc scope && k scope body
 | _ => false
def clsK (S : Sx) : List String -> List Expr -> Bool
 | [], [] => true
 | x :: xs, .Name y _ :: es => y == T x && glB S.sc y && !dbg y && clsK S xs es
 | _, _ => false
def xisK (S : Sx) (i : Nat) (cs : List String) (tup : Bool) : Expr -> Bool
 | .Call (.Name x _) [.Name n _, .Tuple es _ _] [] _ => tup && S.hot && blt S x "isinstance" && nmK S i n && visB S.sc n && !dbg n && clsK S cs es && decide (es.length <= sizeLine) && !cs.isEmpty
 | .Call (.Name x _) [.Name n _, .Name y p] [] _ => !tup && S.hot && blt S x "isinstance" && nmK S i n && visB S.sc n && !dbg n && clsK S cs [.Name y p] && !cs.isEmpty
 | _ => false
def xatK (S : Sx) (i : Nat) (f : String) : Expr -> Bool
 | .Attribute (.Name n _) y _ => S.hot && nmK S i n && visB S.sc n && !dbg n && y == T f
 | _ => false
def din1K (S : Sx) (n : Bool) (k : Expr -> Bool) (i : Nat) : Expr -> Bool
 | .Compare ek [op] [.Name x p] _ => decide (op = if n = true then .NotIn else .In) && k ek && varK S i (.Name x p)
 | _ => false
def dixK (S : Sx) (i : Nat) (k : Expr -> Bool) : Expr -> Bool
 | .Subscript (.Name x p) ek _ => varK S i (.Name x p) && k ek && plainIx ek
 | _ => false
def dgtK (S : Sx) (i : Nat) (k : Expr -> Bool) : Option (Expr -> Bool) -> Expr -> Bool
 | none, .Call (.Attribute (.Name x p) m apos) [ek] [] cpos => m == T "get" && varK S i (.Name x p) && k ek && notStar ek && apos.endLine == cpos.line
 | some kx, .Call (.Attribute (.Name x p) m apos) [ek, ex] [] cpos => m == T "get" && varK S i (.Name x p) && k ek && notStar ek && kx ex && notStar ex && apos.endLine == cpos.line
 | _, _ => false
def stpK (a : Expr -> Bool) (n : Int) : Expr -> Bool
 | .Subscript ea (.Slice none none (some (.Constant (.int m) _ _)) _) _ => a ea && m == n && decide (0 < n)
 | _ => false
def tdeK : Expr -> Bool
 | .Dict [] [] _ => true
 | _ => false
def tdgK (S : Sx) (i : Nat) (k kx : Expr -> Bool) : Expr -> Bool
 | .Call (.Attribute (.Name x p) m apos) [ek, ex] [] cpos => m == T "get" && varK S i (.Name x p) && k ek && notStar ek && kx ex && notStar ex && apos.endLine == cpos.line
 | _ => false
def tdcK (S : Sx) (f : String) (i : Nat) : Expr -> Bool
 | .Call (.Name x _) [.Name y p] [] _ => blt S x f && varK S i (.Name y p)
 | _ => false
def notNm : Expr -> Bool
 | .Call (.Name _ _) (_ :: _) _ _ => true
 | .Call _ _ _ _ => false
 | _ => true
def inxK (a b : Expr -> Bool) : Expr -> Bool
 | .Call (.Attribute ea m apos) [eb] [] cpos => m == T "index" && a ea && b eb && notNm ea && notStar eb && apos.endLine == cpos.line
 | _ => false
def cntK (a b : Expr -> Bool) : Expr -> Bool
 | .Call (.Attribute ea m apos) [eb] [] cpos => m == T "count" && a ea && b eb && notNm ea && notStar eb && apos.endLine == cpos.line
 | _ => false
def popK (S : Sx) (i : Nat) : Option (Expr -> Bool) -> Expr -> Bool
 | none, .Call (.Attribute (.Name x p) m apos) [] [] cpos => m == T "pop" && varK S i (.Name x p) && apos.endLine == cpos.line
 | some k, .Call (.Attribute (.Name x p) m apos) [ek] [] cpos => m == T "pop" && varK S i (.Name x p) && k ek && notStar ek && apos.endLine == cpos.line
 | _, _ => false
def dmkK (S : Sx) (a : Expr -> Bool) : Expr -> Bool
 | .Call (.Name x _) [ea] [] _ => blt S x "dict" && a ea && notStar ea
 | _ => false
def lsiK (S : Sx) (a : Expr -> Bool) : Expr -> Bool
 | .Call (.Name x _) [.Call (.Name y _) [ea] [] _] [] _ => blt S x "len" && blt S y "set" && a ea && notStar ea
 | _ => false
def joiK (sep : String) (a : Expr -> Bool) : Expr -> Bool
 | .Call (.Attribute (.Constant (.str y) _ _) m apos) [ea] [] cpos => m == T "join" && y == T sep && a ea && notStar ea && apos.endLine == cpos.line
 | _ => false
def splK (a : Expr -> Bool) (sep : String) : Expr -> Bool
 | .Call (.Attribute ea m apos) [.Constant (.str y) _ _] [] cpos => m == T "split" && y == T sep && a ea && notNm ea && ((T sep).length != 0) && apos.endLine == cpos.line
 | _ => false
def fmtK (a : Expr -> Bool) : Expr -> Bool
 | .FormattedValue ea c none _ => a ea && decide (c = -1)
 | _ => false
def fstK (ks : List (Expr -> Bool)) : Expr -> Bool
 | .JoinedStr es _ => eachK ks es && decide (1 <= es.length)
 | _ => false
def zpsK (S : Sx) (a b : Expr -> Bool) : Expr -> Expr -> Bool
 | .Tuple _ _ _, .Call (.Name x _) [ea, eb] [⟨some k, .Constant (.bool true) _ _, _⟩] _ => blt S x "zip" && k == T "strict" && a ea && b eb && notStar ea && notStar eb
 | _, _ => false
def nmvK (S : Sx) (i : Nat) (x : Str) : Bool := nmK S i x && visB S.sc x && !dbg x
def attK (S : Sx) (i : Nat) (f : String) : Expr -> Bool
 | .Attribute (.Name x _) y _ => nmvK S i x && y == T f
 | _ => false
def adxK (S : Sx) (i : Nat) (f : String) (j : Nat) : Expr -> Bool
 | .Subscript (.Attribute (.Name x _) y _) (.Name z _) _ => nmvK S i x && y == T f && nmvK S j z
 | _ => false
def mcaK (S : Sx) (m : String) (i : Nat) (ks : List (Expr -> Bool)) : Expr -> Bool
 | .Call (.Attribute (.Name x _) y apos) es [] pos => nmvK S i x && y == T m && eachK ks es && apos.endLine == pos.line && decide (es.length < 30)
 | _ => false
def namesvK (S : Sx) : List Nat -> List Expr -> Bool
 | [], [] => true
 | i :: is, .Name x _ :: es => nmvK S i x && namesvK S is es
 | _, _ => false
def mcmK (S : Sx) (cls m : String) (ks : List (Expr -> Bool)) (is : List Nat) : Expr -> Bool
 | .Call (.Attribute (.Call (.Name x _) es [] _) y apos) as [] pos => x == T cls && glB S.sc x && !dbg x && eachK ks es && y == T m && namesvK S is as && apos.endLine == pos.line && decide (as.length < 30) && x != ("super" : Str)
 | _ => false
def lc2K (S : Sx) (own : List (String × Nat)) (tg : List Nat) (pair : Bool) (w : Expr -> Expr -> Bool) (c : Scope -> Option (Expr -> Bool)) (tg1 : List Nat) (pair1 : Bool) (w1 : Scope -> Expr -> Bool) (c1 : Scope -> Option (Expr -> Bool)) (x : Scope -> Expr -> Bool) : Expr -> Bool
 | .ListComp elt [⟨tgE, iter, ifs, k⟩, ⟨tgE1, iter1, ifs1, k1⟩] scope _ => decide (k = 0) && decide (k1 = 0) && w tgE iter && notSet iter && notSet iter1 && blkOk S scope own && (tg.all fun i => (own.map (·.2)).contains i) && (tg1.all fun i => (own.map (·.2)).contains i) &&
  tgK (S.blk scope) tg pair tgE && tstK (c scope) ifs && tgK (S.blk scope) tg1 pair1 tgE1 && w1 scope iter1 && tstK (c1 scope) ifs1 && x scope elt
 | _ => false
def lc3G (S : Sx) (own : List (String × Nat)) (tg : List Nat) (pair : Bool) (w : Expr -> Expr -> Bool) (tg1 : List Nat) (pair1 : Bool) (w1 : Scope -> Expr -> Bool) (tg2 : List Nat) (pair2 : Bool) (w2 : Scope -> Expr -> Bool) (x : Scope -> Expr -> Bool) (elt : Expr) (scope : Scope) : List Comprehension -> Bool
 | [⟨tgE, iter, [], k⟩, ⟨tgE1, iter1, [], k1⟩, ⟨tgE2, iter2, [], k2⟩] => decide (k = 0) && decide (k1 = 0) && decide (k2 = 0) && w tgE iter && notSet iter && notSet iter1 && notSet iter2 && blkOk S scope own && (tg.all fun i => (own.map (·.2)).contains i) && ((tg1 ++ tg2).all fun i => (own.map (·.2)).contains i) &&
  tgK (S.blk scope) tg pair tgE && tgK (S.blk scope) tg1 pair1 tgE1 && tgK (S.blk scope) tg2 pair2 tgE2 && w1 scope iter1 && w2 scope iter2 && x scope elt
 | _ => false
def lc3K (S : Sx) (st : Bool) (own : List (String × Nat)) (tg : List Nat) (pair : Bool) (w : Expr -> Expr -> Bool) (tg1 : List Nat) (pair1 : Bool) (w1 : Scope -> Expr -> Bool) (tg2 : List Nat) (pair2 : Bool) (w2 : Scope -> Expr -> Bool) (x : Scope -> Expr -> Bool) : Expr -> Bool
 | .ListComp elt gens scope _ => !st && lc3G S own tg pair w tg1 pair1 w1 tg2 pair2 w2 x elt scope gens
 | .Call (.Name s _) [.SetComp elt gens scope _] [] _ => st && blt S s "sorted" && lc3G S own tg pair w tg1 pair1 w1 tg2 pair2 w2 x elt scope gens
 | _ => false
def clvK (S : Sx) (i : Nat) (ks : List (Expr -> Bool)) : Expr -> Bool
 | .Call (.Name x _) es [] _ => nmvK S i x && eachK ks es
 | _ => false
def gnsK (S : Sx) : List String -> List Expr -> Bool
 | [], [] => true
 | g :: gs, .Name x _ :: es => x == T g && glB S.sc x && !dbg x && gnsK S gs es
 | _, _ => false
def cdfK (S : Sx) (f : String) (ks : List (Expr -> Bool)) (gs : List String) : Expr -> Bool
 | .Call (.Name x _) es [] _ => x == T f && glB S.sc x && !dbg x && decide (0 < ks.length) && eachK ks (es.take ks.length) && ((es.take ks.length).all notStar) && gnsK S gs (es.drop ks.length)
 | _ => false
def mcfK (S : Sx) (cls f : String) (ks : List (Expr -> Bool)) (is : List Nat) : Expr -> Bool
 | .Call (.Name x _) (.Call (.Name y _) es [] _ :: as) [] _ => x == T f && glB S.sc x && !dbg x && y == T cls && glB S.sc y && !dbg y && eachK ks es && namesvK S is as
 | _ => false
def cb1K (S : Sx) (f : String) (i : Nat) (k : Expr -> Bool) : Expr -> Bool
 | .Call (.Name x _) [.Name y p, ex] [] _ => x == T f && glB S.sc x && !dbg x && namesvK S [i] [.Name y p] && k ex && notStar ex
 | _ => false
def dd1K (k v : Expr -> Bool) : Expr -> Bool
 | .Dict [some ek] [ev] _ => k ek && v ev
 | _ => false
def dmcK (S : Sx) (own : List (String × Nat)) (tg : List Nat) (pair : Bool) (w : Expr -> Expr -> Bool) (c : Scope -> Option (Expr -> Bool)) (k v : Scope -> Expr -> Bool) : Expr -> Bool
 | .DictComp ek ev [⟨tgE, iter, ifs, n⟩] scope _ => decide (n = 0) && w tgE iter && notSet iter && blkOk S scope own && (tg.all fun i => (own.map (·.2)).contains i) &&
  tgK (S.blk scope) tg pair tgE && tstK (c scope) ifs && k scope ek && v scope ev
 | _ => false
def dlsK (S : Sx) (i : Nat) : Expr -> Bool
 | .Call (.Name x _) [.Name y p] [] _ => blt S x "list" && varK S i (.Name y p)
 | _ => false
def lckK (S : Sx) (own : List (String × Nat)) (tg : List Nat) (i : Nat) (c : Scope -> Option (Expr -> Bool)) (x : Scope -> Expr -> Bool) : Expr -> Bool
 | .ListComp elt [⟨tgE, .Name y _, ifs, n⟩] scope _ => decide (n = 0) && nmvK S i y && blkOk S scope own && (tg.all fun i => (own.map (·.2)).contains i) &&
  tgK (S.blk scope) tg false tgE && tstK (c scope) ifs && x scope elt
 | _ => false
def blkS (S : Sx) (scope : Scope) (own : List (Str × Nat)) : Bool :=
 decide (scope.kind = .function) && uniqK scope.names && (own.all fun p => S.N[p.2]? == some p.1) &&
 (scope.names.all fun y => y.2 != .free || S.sc.names.lookup y.1 == some .cell || S.sc.names.lookup y.1 == some .free) &&
 (scope.names.all fun y => !(y.2 == .local || y.2 == .cell) || (own.map (·.1)).contains y.1 || !S.N.contains y.1)
def kinK (S : Sx) (n : Bool) (g : String) (k : Expr -> Bool) : Expr -> Bool
 | .Compare ea [op] [.Name y pg] _ => decide (op = (if n = true then .NotIn else .In)) && y == T g && glB S.sc y && !dbg y && k ea && !(behindInMarks op (.Name y pg))
 | _ => false
def kixK (S : Sx) (g : String) (k : Expr -> Bool) : Expr -> Bool
 | .Subscript (.Name y _) ea _ => y == T g && glB S.sc y && !dbg y && k ea && plainIx ea
 | _ => false
def flnK (S : Sx) (i : Nat) : Expr -> Bool
 | .Call (.Name l _) [.Name x _] [] _ => blt S l "len" && nmvK S i x
 | _ => false
def fe0K (S : Sx) (i : Nat) : Expr -> Bool
 | .Compare (.Name x _) [.Eq] [eb] _ => nmvK S i x && tupK [] eb && !(behindInMarks .Eq eb)
 | _ => false
def fapK (S : Sx) (a b i : Nat) (k : Expr -> Bool) : Expr -> Bool
 | .ListComp (.Call (.Name xf _) [.Name xp _] [] _) [⟨.Tuple elts kk tp, .Call (.Name z _) [.Name x _, eb] [⟨some ks, .Constant (.bool true) _ _, _⟩] _, [], n⟩] scope _ =>
  decide (n = 0) && blt S z "zip" && ks == T "strict" && nmvK S i x && k eb && notStar eb && blkS S scope [(xf, a), (xp, b)] && tgK (S.blk scope) [a, b] true (.Tuple elts kk tp) &&
  nmvK (S.blk scope) a xf && nmvK (S.blk scope) b xp
 | _ => false
def cold (S : Sx) (k : Expr -> Bool) : Expr -> Bool := fun e => !S.hot && k e
mutual
def ck : ME -> Sx -> Ck
 | .var i, S => mkK (varK S i)
 | .con d, S => mkK (conK d)
 | .glo x d, S => ⟨fun _ => false, fun _ => false, fun _ _ => false⟩
 | .tup es, S => mkK (tupK (cks es S))
 | .lst es, S => mkK (lstK (cks es S))
 | .bin op a b, S => mkK (binK op (ck a S).v (ck b S).v)
 | .neg a, S => mkK (negK (ck a S).v)
 | .cmp op a b, S => mkKT (cmpK op (ck a S).v (ck b S).v) (cmpK op (ck a S).v (ck b S).v)
 | .chn op op' a b c, S => ⟨fun _ => false, fun _ => false, fun _ _ => false⟩
 | .and a b, S => mkKT (bopK .And (ck a S).v (ck b S).v) (bopK .And (ck a S).t (ck b S).t)
 | .or a b, S => ⟨fun _ => false, fun _ => false, fun _ _ => false⟩
 | .not a, S => mkKT (notK (ck a S).v) (notK (ck a S).t)
 | .ite c a b, S => mkKT (iteK (ck c S).t (ck a S).v (ck b S).v) fun _ => false
 | .idx a i, S => mkK (idxK (ck a S).v (ck i S).v)
 | .sli a lo hi, S => mkK (sliK (ck a S).v (ckO lo S) (ckO hi S))
 | .rev a, S => ⟨fun _ => false, fun _ => false, fun _ _ => false⟩
 | .sx a b, S => mkK (cold S (sxK S (ck a S).v (ck b S).v))
 | .ssl a, S => ⟨fun _ => false, fun _ => false, fun _ _ => false⟩
 | .isi a ty, S => ⟨fun _ => false, fun _ => false, fun _ _ => false⟩
 | .bif f es, S => mkK (cold S (bifK S f (cks es S)))
 | .cal f es, S => mkK (cold S (calK S f (cks es S)))
 | .mth _ _ _, S => ⟨fun _ => false, fun _ => false, fun _ _ => false⟩
 | .kin n g a, S => ⟨fun _ => false, fun _ => false, fun _ _ => false⟩
 | .kix g a, S => ⟨fun _ => false, fun _ => false, fun _ _ => false⟩
 | .fln i, S => ⟨fun _ => false, fun _ => false, fun _ _ => false⟩
 | .fe0 i, S => ⟨fun _ => false, fun _ => false, fun _ _ => false⟩
 | .fap a b i e, S => ⟨fun _ => false, fun _ => false, fun _ _ => false⟩
 | .lc own tg pair it c x, S => mkK (cold S (lcK S own tg pair (ck it S).w (fun sc => ckT c (S.blk sc)) (fun sc => (ck x (S.blk sc)).v)))
 | .lcx own tg pair it x, S => ⟨fun _ => false, fun _ => false, fun _ _ => false⟩
 | .lc2x own tg pair it tg1 pair1 it1 x, S => ⟨fun _ => false, fun _ => false, fun _ _ => false⟩
 | .lc2 own tg pair it c tg1 pair1 it1 c1 x, S => ⟨fun _ => false, fun _ => false, fun _ _ => false⟩
 | .lc3 st own tg pair it tg1 pair1 it1 tg2 pair2 it2 x, S => ⟨fun _ => false, fun _ => false, fun _ _ => false⟩
 | .clv i es, S => ⟨fun _ => false, fun _ => false, fun _ _ => false⟩
 | .cdf f es gs, S => ⟨fun _ => false, fun _ => false, fun _ _ => false⟩
 | .inx a b, S => ⟨fun _ => false, fun _ => false, fun _ _ => false⟩
 | .cnt a b, S => ⟨fun _ => false, fun _ => false, fun _ _ => false⟩
 | .pop i k, S => ⟨fun _ => false, fun _ => false, fun _ _ => false⟩
 | .dix i k, S => ⟨fun _ => false, fun _ => false, fun _ _ => false⟩
 | .din n k i, S => ⟨fun _ => false, fun _ => false, fun _ _ => false⟩
 | .dgt i k x, S => ⟨fun _ => false, fun _ => false, fun _ _ => false⟩
 | .tde, S => mkK tdeK
 | .stp a n, S => mkK (stpK (ck a S).v n)
 | .tlk own tg i c x, S => mkK (cold S (lckK S own tg i (fun sc => ckT c (S.blk sc)) (fun sc => (ck x (S.blk sc)).v)))
 | .tdx i k, S => mkK (dixK S i (ck k S).v)
 | .tdi n k i, S => ⟨fun _ => false, fun _ => false, fun _ _ => false⟩
 | .tdg i k x, S => mkK (tdgK S i (ck k S).v (ck x S).v)
 | .tdl i, S => mkK (tdcK S "len" i)
 | .tdk i, S => mkK (cold S (tdcK S "sorted" i))
 | .dmk a, S => ⟨fun _ => false, fun _ => false, fun _ _ => false⟩
 | .lsi a, S => ⟨fun _ => false, fun _ => false, fun _ _ => false⟩
 | .joi sep a, S => ⟨fun _ => false, fun _ => false, fun _ _ => false⟩
 | .spl a sep, S => ⟨fun _ => false, fun _ => false, fun _ _ => false⟩
 | .fmt a, S => ⟨fun _ => false, fun _ => false, fun _ _ => false⟩
 | .fst es, S => ⟨fun _ => false, fun _ => false, fun _ _ => false⟩
 | .dg i k, S => ⟨fun _ => false, fun _ => false, fun _ _ => false⟩
 | .dct ks es, S => ⟨fun _ => false, fun _ => false, fun _ _ => false⟩
 | .cak f ks perm dl es kes, S => ⟨fun _ => false, fun _ => false, fun _ _ => false⟩
 | .rg1 a, S => mkKW (rg1K S (ck a S).v)
 | .rg2 a b, S => ⟨fun _ => false, fun _ => false, fun _ _ => false⟩
 | .en a, S => ⟨fun _ => false, fun _ => false, fun _ _ => false⟩
 | .zp a b, S => ⟨fun _ => false, fun _ => false, fun _ _ => false⟩
 | .zps a b, S => ⟨fun _ => false, fun _ => false, fun _ _ => false⟩
 | .fz a, S => mkK (ck a S).v
 | .xis i cs tup, S => ⟨fun _ => false, fun _ => false, fun _ _ => false⟩
 | .xat i f, S => ⟨fun _ => false, fun _ => false, fun _ _ => false⟩
 | .rt1 l a, S => ⟨fun _ => false, fun _ => false, fun _ _ => false⟩
 | .rt2 l a b, S => ⟨fun _ => false, fun _ => false, fun _ _ => false⟩
 | .rt3 a b c n, S => ⟨fun _ => false, fun _ => false, fun _ _ => false⟩
 | .ask i, S => ⟨fun _ => false, fun _ => false, fun _ _ => false⟩
 | .lam h e, S => ⟨fun _ => false, fun _ => false, fun _ _ => false⟩
 | .att i f, S => ⟨fun _ => false, fun _ => false, fun _ _ => false⟩
 | .adx i f j, S => ⟨fun _ => false, fun _ => false, fun _ _ => false⟩
 | .mko cls es, S => ⟨fun _ => false, fun _ => false, fun _ _ => false⟩
 | .mca _ m i es, S => ⟨fun _ => false, fun _ => false, fun _ _ => false⟩
 | .mcm cls m es is, S => ⟨fun _ => false, fun _ => false, fun _ _ => false⟩
 | .mcf cls f es is, S => ⟨fun _ => false, fun _ => false, fun _ _ => false⟩
 | .cb1 f i e, S => ⟨fun _ => false, fun _ => false, fun _ _ => false⟩
 | .dd1 k v, S => ⟨fun _ => false, fun _ => false, fun _ _ => false⟩
 | .dmc own tg pair it c k v, S => ⟨fun _ => false, fun _ => false, fun _ _ => false⟩
 | .dls i, S => ⟨fun _ => false, fun _ => false, fun _ _ => false⟩
 | .lck own tg i c x, S => ⟨fun _ => false, fun _ => false, fun _ _ => false⟩
def cks : List ME -> Sx -> List (Expr -> Bool)
 | [], _ => []
 | m :: ms, S => (ck m S).v :: cks ms S
def ckO : Option ME -> Sx -> Option (Expr -> Bool)
 | none, _ => none
 | some m, S => some (ck m S).v
def ckT : Option ME -> Sx -> Option (Expr -> Bool)
 | none, _ => none
 | some m, S => some (ck m S).t
end
structure Cok (X : Cx) (W : WX) (S : Sx) (G : Gm) : Prop where
 hN : X.N = S.N
 hs : X.env.scope = S.sc
 hf : ∀ x, S.fn x = true -> X.fn x = true
 kd : X.env.scope.kind = .function
 ok : Ok X W S.BN S.GL S.KB G
 cm : S.hot = false -> X.calm = true
 hm : S.hot = true -> X.calm = false
 st : S.cf = none -> X.stack = X.env :: X.outer /\ X.env.frame = some X.env.locals
 ask : S.ask = true -> ∀ f t, G.ask = some (f, t) -> AskOk X f t
 lam : S.lam = true -> LamCtx X /\ ∀ h, (∃ t, G.lm h t ≠ .bad) -> ∃ k, 2 <= k /\ Room (k + 2) X.A /\ HdOk X.prog X.w X.K X.mg X.base (k + 1) h (G.lm h) /\
  (∀ f ms φ, G.fl f = some (ms, φ) -> ∃ a, X.mg (T f) = some (.ref a) /\ PySem.W.keepIn X.K (.ref a) = true /\ CalOk X.prog X.w X.K X.mg X.base S.KB k f a ms φ) /\
  (∀ f ms φ, G.fkl f = some (ms, φ) -> ∃ a, X.mg (T f) = some (.ref a) /\ PySem.W.keepIn X.K (.ref a) = true /\ CalKOk X.prog X.w X.K X.mg X.base S.KB k f a ms φ)
def Sound (X : Cx) (W : WX) (k : Ck) (d : Dn) : Prop :=
 (∀ e, k.v e = true -> PV X W e d.v) /\ (∀ e, k.t e = true -> PB X W e d.t /\ ∀ op es pos, e = .BoolOp op es pos -> PBW X W e d.t) /\ ∀ tg e, k.w tg e = true -> PIs X W tg e d.w
section
variable {X : Cx} {W : WX} {S : Sx} {G : Gm}
theorem pts_imp {Y : Cx} {es : List Expr} {t t' : TT} (h : PTs Y es t) (k : ∀ σ H Q, t' σ H Q -> t σ H Q) : PTs Y es t' := ⟨fun pins s σ H Q I q => h.run pins s σ H Q I (k σ H Q q)⟩
theorem pts_blk (hc : X.calm = true) {s : Shared} {H : Hp} {scope : Scope} {cenv : PySem.Env} {fp : List Addr} {es : List Expr} {c : Option (Env -> Res Bool)} (h : PTs (X.blk s H scope cenv fp) es (tOfC (X.blk s H scope cenv fp) c)) : PTs (X.blk s H scope cenv fp) es (tOfC X c) := by
 cases c with
 | none => exact h
 | some t => exact pts_imp h fun _ _ _ q => tr_blk hc q
theorem cold_ok (C : Cok X W S G) {k : Expr -> Bool} {e : Expr} (h : cold S k e = true) : X.calm = true /\ k e = true := by
 unfold cold at h
 rw [Bool.and_eq_true, Bool.not_eq_true'] at h
 exact ⟨C.cm h.1, h.2⟩
theorem snd_V {c : Vc} {k : Expr -> Bool} (h : ∀ e, k e = true -> PV X W e c) : Sound X W (mkK k) (mkV c) := by
 refine ⟨h, fun e he => ?_, fun tg e he => pi_val (h e he)⟩
 have he : (plainT e && k e) = true := he
 rw [Bool.and_eq_true] at he
 refine ⟨pb_tru (h e he.2) fun whole => plainT_ok he.1 _ _, fun op es pos z => ?_⟩
 subst z
 exact absurd he.1 (by simp [plainT])
theorem snd_T {c : Vc} {t : Env -> Res Bool} {k k' : Expr -> Bool} (h : ∀ e, k e = true -> PV X W e c) (h' : ∀ e, k' e = true -> PB X W e t /\ ∀ op es pos, e = .BoolOp op es pos -> PBW X W e t) : Sound X W (mkKT k k') (mkT c t) :=
 ⟨h, h', fun tg e he => pi_val (h e he)⟩
theorem snd_W {w : Env -> Res Src} {k : Expr -> Expr -> Bool} (h : ∀ tg e, k tg e = true -> PIs X W tg e w) : Sound X W (mkKW k) (mkW w) :=
 ⟨fun e he => (show False from Bool.false_ne_true he).elim, fun e he => (show False from Bool.false_ne_true he).elim, h⟩
inductive Each (X : Cx) (W : WX) : List (Expr -> Bool) -> List Vc -> Prop where
 | nil : Each X W [] []
 | cons {k : Expr -> Bool} {ks : List (Expr -> Bool)} {c : Vc} {cs : List Vc} : (∀ e, k e = true -> PV X W e c) -> Each X W ks cs -> Each X W (k :: ks) (c :: cs)
theorem Each.pvs : ∀ {ks : List (Expr -> Bool)} {cs : List Vc}, Each X W ks cs -> ∀ {es : List Expr}, eachK ks es = true -> PVs X W es cs
 | _, _, .nil, [], _ => .nil
 | _, _, .nil, _ :: _, h => by cases h
 | _, _, .cons _ _, [], h => by cases h
 | _, _, .cons h t, e :: es, hk => by
  simp only [eachK, Bool.and_eq_true] at hk
  exact .cons (h e hk.1.1) (star_ok hk.1.2 _ _) (t.pvs hk.2)
theorem dbg_ok {x : Str} (h : (!dbg x) = true) : (x == ("__debug__" : Str)) = false /\ (x == ("__classdict__" : Str)) = false /\ x ≠ ("__name__" : Str) := by
 simp only [dbg, Bool.not_eq_true', Bool.or_eq_false_iff] at h
 exact ⟨h.1.1, h.1.2, by simpa using h.2⟩
theorem nmK_ok (C : Cok X W S G) {i : Nat} {x : Str} (h : nmK S i x = true) : X.N[i]? = some x := by
 rw [C.hN]
 simpa [nmK] using h
theorem gl_ok (C : Cok X W S G) {x : Str} (h : glB S.sc x = true) : Gl X x := by
 show X.env.scope.names.lookup x = _
 rw [C.hs]
 simpa [glB] using h
theorem blt_ok (C : Cok X W S G) {x : Str} {n : String} (h : blt S x n = true) : x = T n /\ Gl X (T n) /\ X.mg (T n) = none /\ ((T n) == ("__debug__" : Str)) = false /\ T n ≠ ("__name__" : Str) := by
 simp only [blt, Bool.and_eq_true] at h
 obtain ⟨⟨⟨h1, h2⟩, h3⟩, h4⟩ := h
 have h1 : x = T n := by simpa using h1
 subst h1
 obtain ⟨d1, _, d3⟩ := dbg_ok h3
 exact ⟨rfl, gl_ok C h2, C.ok.bn n (by simpa using h4), d1, d3⟩
theorem tail_pv {op : BoolOp} {p : Pos} {eb : Expr} {rest : List Expr} {c : Vc} (h : PV X W (tailE op p (eb :: rest)) c) : PV X W (.BoolOp op (eb :: rest) p) c := by
 cases rest with
 | nil => exact pv_one h
 | cons _ _ => exact h
theorem tail_pb {op : BoolOp} {p : Pos} {eb : Expr} {rest : List Expr} {t : Env -> Res Bool} (h : PB X W (tailE op p (eb :: rest)) t /\ ∀ o es q, tailE op p (eb :: rest) = .BoolOp o es q -> PBW X W (tailE op p (eb :: rest)) t) : PBW X W (.BoolOp op (eb :: rest) p) t := by
 cases rest with
 | nil =>
  cases op with
  | And => exact pw_a1 h.1
  | Or => exact pw_o1 h.1
 | cons a r => exact h.2 op _ p rfl
theorem names_ok (C : Cok X W S G) : ∀ {is : List Nat} {es : List Expr}, namesK S is es = true -> PGs X es (gIs is) /\ (assignEach es X.env).length = is.length /\ (assignEach es X.env).findIdx? (·.1) = none
 | [], [], _ => ⟨pgs_nil, rfl, rfl⟩
 | i :: is, e :: es, h => by
  cases e <;> first | (simp [namesK] at h; done) | skip
  rename_i x p
  simp only [namesK, Bool.and_eq_true] at h
  obtain ⟨⟨h1, h2⟩, h3⟩ := h
  obtain ⟨q1, q2, q3⟩ := names_ok C h3
  obtain ⟨l1, l2⟩ := locB_ok h2
  have hN : X.N.Nodup := C.ok.nd
  refine ⟨pgs_cons (pg_name hN (nmK_ok C h1) (by rw [C.hs]; exact l1) ?_) q1 (by rw [assignEach_ok rfl]; rfl), ?_, ?_⟩
  . rcases l2 with l2 | l2
    . exact .inl (C.hf x l2)
    . exact .inr (by rw [C.hs]; exact l2)
  . rw [assignEach_ok rfl, List.length_cons, q2]
    rfl
  . rw [assignEach_ok rfl, List.findIdx?_cons]
    simp [q3]
 | [], _ :: _, h => by cases h
 | _ :: _, [], h => by simp [namesK] at h
theorem tg_ok (C : Cok X W S G) (hcalm : X.calm = true) {is : List Nat} {pair : Bool} {e : Expr} (h : tgK S is pair e = true) : PG X e (gOf X.K is pair) := by
 cases e <;> first | (simp [tgK] at h; done) | skip
 . rename_i x p
   simp only [tgK, Bool.and_eq_true, Bool.not_eq_true'] at h
   obtain ⟨h1, h2⟩ := h
   subst h1
   split at h2
   . rename_i i
     rw [Bool.and_eq_true] at h2
     obtain ⟨l1, l2⟩ := locB_ok h2.2
     refine pg_name C.ok.nd (nmK_ok C h2.1) (by rw [C.hs]; exact l1) ?_
     rcases l2 with l2 | l2
     . exact .inl (C.hf x l2)
     . exact .inr (by rw [C.hs]; exact l2)
   . cases h2
 . rename_i es k p
   simp only [tgK, Bool.and_eq_true] at h
   obtain ⟨h1, h2⟩ := h
   subst h1
   obtain ⟨q1, q2, q3⟩ := names_ok C h2
   exact pg_ei hcalm q1 q2 q3
theorem tg_pr {S : Sx} {is : List Nat} {pair : Bool} {e : Expr} (h : tgK S is pair e = true) : pair = isTupE e := by
 cases e <;> first | (simp [tgK] at h; done) | skip
 . simp only [tgK, Bool.and_eq_true, Bool.not_eq_true'] at h
   exact h.1
 . simp only [tgK, Bool.and_eq_true] at h
   exact h.1
theorem blk_ok (C : Cok X W S G) {scope : Scope} {own : List (String × Nat)} (h : blkOk S scope own = true) : BlkOk X.N X.env.scope scope (own.map fun p => (T p.1, p.2)) := by
 simp only [blkOk, Bool.and_eq_true, decide_eq_true_eq] at h
 obtain ⟨⟨⟨⟨h1, h2⟩, h3⟩, h4⟩, h5⟩ := h
 rw [C.hs, C.hN]
 refine ⟨h1, fun y hy => ?_, fun p hp => ?_, fun y hy e => ?_, fun y hy e => ?_⟩
 . simpa using (List.all_eq_true.mp h2) y hy
 . obtain ⟨q, hq, rfl⟩ := List.mem_map.mp hp
   simpa using (List.all_eq_true.mp h3) q hq
 . have := (List.all_eq_true.mp h4) y hy
   rw [e] at this
   simpa using this
 . have := (List.all_eq_true.mp h5) y hy
   have hl : (y.2 == NameKind.local || y.2 == NameKind.cell) = true := by rcases e with e | e <;> rw [e] <;> rfl
   rw [hl] at this
   simp only [Bool.not_true, Bool.false_or, Bool.or_eq_true, Bool.not_eq_true'] at this
   rcases this with q | q
   . left
     rw [List.map_map]
     show y.1 ∈ own.map fun p => T p.1
     simpa using q
   . right
     intro hm
     have : S.N.contains y.1 = true := by simpa using hm
     rw [this] at q
     cases q
theorem Ok.blk {BN : List String} {GL : List (String × D)} {KB : List KbE} (ok : Ok X W BN GL KB G) (s : Shared) (H : Hp) (scope : Scope) (cenv : PySem.Env) (fp : List Addr) : Ok (X.blk s H scope cenv fp) W0 BN GL KB G :=
 ⟨ok.nd, ok.un, ok.gd, ok.bn, ok.gl, takes0, ok.xc, ok.sub, ok.fld, ok.fns, ok.fks, ok.kn, ok.kt, ok.mts, ok.atr, ok.tb⟩
theorem Cok.blk (C : Cok X W S G) {scope : Scope} (hk : scope.kind = .function) (s : Shared) (H : Hp) (Ca : Addr) (cl : List (Str × Addr)) (fp : List Addr) : Cok (X.blk s H scope (compEnvC scope cl Ca X.env) fp) W0 (S.blk scope) G := by
 have e : (compEnvC scope cl Ca X.env).scope = relS scope S.sc := by rw [<- C.hs]; rfl
 refine ⟨C.hN, e, fun x h => h, ?_, C.ok.blk s H scope _ fp, C.cm, C.hm, (fun z => nomatch z), (fun z => nomatch z), (fun z => nomatch z)⟩
 show (compEnvC scope cl Ca X.env).scope.kind = _
 rw [e]
 exact hk
theorem Ok.blkE {BN : List String} {GL : List (String × D)} {KB : List KbE} (ok : Ok X W BN GL KB G) (s : Shared) (H : Hp) (scope : Scope) (cenv : PySem.Env) (fp : List Addr) (W' : WX) : Ok (Ev.Cx.blkE X s H scope cenv fp W') W' BN GL KB G :=
 ⟨ok.nd, ok.un, ok.gd, ok.bn, ok.gl, blkE_tk, ok.xc, ok.sub, ok.fld, ok.fns, ok.fks, ok.kn, ok.kt, ok.mts, ok.atr, ok.tb⟩
theorem Cok.blkE (C : Cok X W S G) {scope : Scope} (hk : scope.kind = .function) (s : Shared) (H : Hp) (Ca : Addr) (cl : List (Str × Addr)) (fp : List Addr) (W' : WX) : Cok (Ev.Cx.blkE X s H scope (compEnvC scope cl Ca X.env) fp W') W' (S.blk scope) G := by
 have e : (compEnvC scope cl Ca X.env).scope = relS scope S.sc := by rw [<- C.hs]; rfl
 refine ⟨C.hN, e, fun x h => h, ?_, C.ok.blkE s H scope _ fp W', C.cm, C.hm, (fun z => nomatch z), (fun z => nomatch z), (fun z => nomatch z)⟩
 show (compEnvC scope cl Ca X.env).scope.kind = _
 rw [e]
 exact hk
theorem vark_ok (C : Cok X W S G) {i : Nat} {e : Expr} (h : varK S i e = true) : PV X W e (varC i) := by
 cases e <;> first | (simp [varK] at h; done) | skip
 rename_i x p
 simp only [varK, Bool.and_eq_true] at h
 obtain ⟨⟨h1, h2⟩, h3⟩ := h
 obtain ⟨d1, d2, _⟩ := dbg_ok h3
 exact pv_var (nmK_ok C h1) (by rw [C.hs]; exact visB_ok h2) d1 d2
theorem Each.kvs : ∀ {ks : List (Expr -> Bool)} {cs : List Vc}, Each X W ks cs -> ∀ {ns : List String} {kws : List Keyword}, kwsK ns ks kws = true -> KVs X W ns kws cs
 | _, _, .nil, [], [], _ => .nil
 | _, _, .nil, _ :: _, _, h => by simp [kwsK] at h
 | _, _, .nil, [], _ :: _, h => by simp [kwsK] at h
 | _, _, .cons _ _, [], _, h => by simp [kwsK] at h
 | _, _, .cons _ _, _ :: _, [], h => by simp [kwsK] at h
 | _, _, .cons h t, n :: ns, ⟨nm, e, p⟩ :: kws, hk => by
  simp only [kwsK, Bool.and_eq_true] at hk
  obtain ⟨⟨h1, h2⟩, h3⟩ := hk
  have e1 := eq_of_beq h1
  subst e1
  exact .cons (h e h2) (t.kvs h3)
theorem m2_ok {x m : Str} {p apos cpos : Pos} {e f : Expr} (h : notStar e = true) (h2 : notStar f = true) (hl : (apos.endLine == cpos.line) = true) : M2 X (.Name x p) m apos e f cpos := by
 have q : starEach [e, f] X.env = [(false, eval e X.env), (false, eval f X.env)] := by rw [star_ok h, star_ok h2]; rfl
 exact ⟨rfl, by rw [q]; rfl, hl, by rw [q]; rfl⟩
theorem nmv_ok (C : Cok X W S G) {i : Nat} {x : Str} (h : nmvK S i x = true) : X.N[i]? = some x /\ Vis X.env.scope x /\ (x == ("__debug__" : Str)) = false /\ (x == ("__classdict__" : Str)) = false := by
 simp only [nmvK, Bool.and_eq_true] at h
 obtain ⟨⟨h1, h2⟩, h3⟩ := h
 obtain ⟨d1, d2, _⟩ := dbg_ok h3
 exact ⟨nmK_ok C h1, by rw [C.hs]; exact visB_ok h2, d1, d2⟩
mutual
theorem snd : ∀ (m : ME) {G : Gm} (X : Cx) (W : WX) (S : Sx), Cok X W S G -> Sound X W (ck m S) (den G m)
 | .var i, G, X, W, S, C => snd_V fun e h => vark_ok C h
 | .con d, G, X, W, S, C => snd_V fun e h => by
  cases e <;> first | (simp [conK] at h; done) | skip
  rename_i c k p
  simp only [conK] at h
  split at h
  . exact pv_con pe_non fun F => .non
  . rename_i a b
    have : a = b := by simpa using h
    subst this
    exact pv_con pe_bl fun F => .bl _
  . rename_i a b
    have : a = b := by simpa using h
    subst this
    exact pv_con pe_int fun F => .int _
  . rename_i a b
    have : a = b := by simpa using h
    subst this
    exact pv_con pe_str fun F => .str _
  . cases h
 | .glo x d, G, X, W, S, C => ⟨fun _ h => (show False from Bool.false_ne_true h).elim, fun _ h => (show False from Bool.false_ne_true h).elim, fun _ _ h => (show False from Bool.false_ne_true h).elim⟩
 | .tup es, G, X, W, S, C => snd_V fun e h => by
  cases e <;> first | (simp [tupK] at h; done) | skip
  simp only [tupK, Bool.and_eq_true, decide_eq_true_eq] at h
  exact pv_tup ((snds es X W S C).pvs h.1) h.2
 | .lst es, G, X, W, S, C => snd_V fun e h => by
  cases e <;> first | (simp [lstK] at h; done) | skip
  simp only [lstK, Bool.and_eq_true, decide_eq_true_eq] at h
  exact pv_lst ((snds es X W S C).pvs h.1) h.2
 | .bin op a b, G, X, W, S, C => snd_V fun e h => by
  cases e <;> first | (simp [binK] at h; done) | skip
  simp only [binK, Bool.and_eq_true, decide_eq_true_eq] at h
  obtain ⟨⟨h1, h2⟩, h3⟩ := h
  subst h1
  exact pv_bin ((snd a X W S C).1 _ h2) ((snd b X W S C).1 _ h3)
 | .neg a, G, X, W, S, C => snd_V fun e h => by
  cases e <;> first | (simp [negK] at h; done) | skip
  rename_i op ea p
  cases op <;> first | (simp [negK] at h; done) | skip
  exact pv_neg ((snd a X W S C).1 _ h)
 | .cmp op a b, G, X, W, S, C => by
  have key : ∀ e, cmpK op (ck a S).v (ck b S).v e = true -> ∃ ea eb p, e = .Compare ea [op] [eb] p /\ (ck a S).v ea = true /\ (ck b S).v eb = true /\ behindInMarks op eb = false := by
   intro e h
   unfold cmpK at h
   split at h
   . simp only [Bool.and_eq_true, decide_eq_true_eq, Bool.not_eq_true'] at h
     obtain ⟨⟨⟨h1, h2⟩, h3⟩, h4⟩ := h
     subst h1
     exact ⟨_, _, _, rfl, h2, h3, h4⟩
   . cases h
  refine snd_T (fun e h => ?_) fun e h => ?_
  . obtain ⟨ea, eb, p, rfl, h1, h2, h3⟩ := key e h
    exact pv_cmp C.ok.un ((snd a X W S C).1 _ h1) ((snd b X W S C).1 _ h2) h3
  . obtain ⟨ea, eb, p, rfl, h1, h2, h3⟩ := key e h
    exact ⟨pb_cmp C.ok.un ((snd a X W S C).1 _ h1) ((snd b X W S C).1 _ h2) h3, fun _ _ _ z => nomatch z⟩
 | .chn op op' a b c, G, X, W, S, C => ⟨fun _ h => (show False from Bool.false_ne_true h).elim, fun _ h => (show False from Bool.false_ne_true h).elim, fun _ _ h => (show False from Bool.false_ne_true h).elim⟩
 | .and a b, G, X, W, S, C => by
  refine snd_T (fun e h => ?_) fun e h => ?_
  . unfold bopK at h
    split at h
    . simp only [Bool.and_eq_true, decide_eq_true_eq] at h
      obtain ⟨⟨h1, h2⟩, h3⟩ := h
      subst h1
      exact pv_and ((snd a X W S C).1 _ h2) (tail_pv ((snd b X W S C).1 _ h3))
    . cases h
  . unfold bopK at h
    split at h
    . simp only [Bool.and_eq_true, decide_eq_true_eq] at h
      obtain ⟨⟨h1, h2⟩, h3⟩ := h
      subst h1
      have q := pbw_and ((snd a X W S C).2.1 _ h2).1 (tail_pb ((snd b X W S C).2.1 _ h3))
      exact ⟨q.pt, fun _ _ _ z => by cases z; exact q⟩
    . cases h
 | .or a b, G, X, W, S, C => ⟨fun _ h => (show False from Bool.false_ne_true h).elim, fun _ h => (show False from Bool.false_ne_true h).elim, fun _ _ h => (show False from Bool.false_ne_true h).elim⟩
 | .not a, G, X, W, S, C => by
  refine snd_T (fun e h => ?_) fun e h => ?_
  . unfold notK at h
    split at h
    . exact pv_not ((snd a X W S C).1 _ h)
    . cases h
  . unfold notK at h
    split at h
    . exact ⟨pb_not ((snd a X W S C).2.1 _ h).1, fun _ _ _ z => nomatch z⟩
    . cases h
 | .ite c a b, G, X, W, S, C => snd_T (fun e h => by
   unfold iteK at h
   split at h
   . simp only [Bool.and_eq_true] at h
     exact pv_ite ((snd c X W S C).2.1 _ h.1.1).1 ((snd a X W S C).1 _ h.1.2) ((snd b X W S C).1 _ h.2)
   . cases h) fun e h => (show False from Bool.false_ne_true h).elim
 | .idx a i, G, X, W, S, C => snd_V fun e h => by
  unfold idxK at h
  split at h
  . simp only [Bool.and_eq_true] at h
    exact pv_idx ((snd a X W S C).1 _ h.1.1) ((snd i X W S C).1 _ h.1.2) (plainIx_ok h.2)
  . cases h
 | .sli a lo hi, G, X, W, S, C => snd_V fun e h => by
  unfold sliK at h
  split at h
  . simp only [Bool.and_eq_true] at h
    exact pv_sli ((snd a X W S C).1 _ h.1.1) (sndO lo X W S C _ h.1.2) (sndO hi X W S C _ h.2)
  . cases h
 | .rev a, G, X, W, S, C => ⟨fun _ h => (show False from Bool.false_ne_true h).elim, fun _ h => (show False from Bool.false_ne_true h).elim, fun _ _ h => (show False from Bool.false_ne_true h).elim⟩
 | .sx a b, G, X, W, S, C => snd_V fun e h => by
  obtain ⟨hcalm, h⟩ := cold_ok C h
  unfold sxK at h
  split at h
  . simp only [Bool.and_eq_true] at h
    obtain ⟨⟨⟨⟨⟨⟨⟨h1, h2⟩, h3⟩, h4⟩, h5⟩, h6⟩, h7⟩, h8⟩ := h
    obtain ⟨rfl, g1, m1, _, _⟩ := blt_ok C h1
    obtain ⟨rfl, g2, m2, _, _⟩ := blt_ok C h2
    obtain ⟨rfl, g3, m3, _, _⟩ := blt_ok C h3
    obtain ⟨rfl, _, _, _, _⟩ := blt_ok C h4
    exact pv_sx hcalm g1 m1 g2 m2 g3 m3 ((snd a X W S C).1 _ h5) ((snd b X W S C).1 _ h6) (star_ok h7 _ _) (star_ok h8 _ _)
  . cases h
 | .ssl a, G, X, W, S, C => ⟨fun _ h => (show False from Bool.false_ne_true h).elim, fun _ h => (show False from Bool.false_ne_true h).elim, fun _ _ h => (show False from Bool.false_ne_true h).elim⟩
 | .isi a ty, G, X, W, S, C => ⟨fun _ h => (show False from Bool.false_ne_true h).elim, fun _ h => (show False from Bool.false_ne_true h).elim, fun _ _ h => (show False from Bool.false_ne_true h).elim⟩
 | .bif f es, G, X, W, S, C => snd_V fun e h => by
  obtain ⟨hcalm, h⟩ := cold_ok C h
  unfold bifK at h
  split at h
  . simp only [Bool.and_eq_true] at h
    obtain ⟨⟨⟨h1, h2⟩, h3⟩, h4⟩ := h
    obtain ⟨rfl, g1, m1, d1, d2⟩ := blt_ok C h1
    have hb := bi_all_ok hcalm C.ok.gd C.ok.un f (biNe f h2)
    have hp := (snds es X W S C).pvs h3
    have hne : ∀ {es : List Expr}, (!es.isEmpty) = true -> es ≠ [] := fun {es} q z => by rw [z] at q; exact absurd q (by simp)
    rcases biBoot f h2 with ⟨id, q1, q2⟩ | ⟨id, q1, q2⟩
    . exact pv_biB q1 hb g1 m1 q2 hp (hne h4) d2 d1
    . exact pv_biT q1 hb g1 m1 q2 hp (hne h4) d2 d1
  . cases h
 | .cal f es, G, X, W, S, C => snd_V fun e h => by
  obtain ⟨hcalm, h⟩ := cold_ok C h
  unfold calK at h
  split at h
  . simp only [Bool.and_eq_true] at h
    obtain ⟨⟨⟨h1, h2⟩, h3⟩, h4⟩ := h
    have e1 := eq_of_beq h1
    subst e1
    exact pv_cal hcalm C.ok (gl_ok C h2) (dbg_ok h3).1 ((snds es X W S C).pvs h4)
  . cases h
 | .mth _ _ _, G, X, W, S, C => ⟨fun _ h => (show False from Bool.false_ne_true h).elim, fun _ h => (show False from Bool.false_ne_true h).elim, fun _ _ h => (show False from Bool.false_ne_true h).elim⟩
 | .kin n g a, G, X, W, S, C => ⟨fun _ h => (show False from Bool.false_ne_true h).elim, fun _ h => (show False from Bool.false_ne_true h).elim, fun _ _ h => (show False from Bool.false_ne_true h).elim⟩
 | .kix g a, G, X, W, S, C => ⟨fun _ h => (show False from Bool.false_ne_true h).elim, fun _ h => (show False from Bool.false_ne_true h).elim, fun _ _ h => (show False from Bool.false_ne_true h).elim⟩
 | .fln i, G, X, W, S, C => ⟨fun _ h => (show False from Bool.false_ne_true h).elim, fun _ h => (show False from Bool.false_ne_true h).elim, fun _ _ h => (show False from Bool.false_ne_true h).elim⟩
 | .fe0 i, G, X, W, S, C => ⟨fun _ h => (show False from Bool.false_ne_true h).elim, fun _ h => (show False from Bool.false_ne_true h).elim, fun _ _ h => (show False from Bool.false_ne_true h).elim⟩
 | .fap a b i e, G, X, W, S, C => ⟨fun _ h => (show False from Bool.false_ne_true h).elim, fun _ h => (show False from Bool.false_ne_true h).elim, fun _ _ h => (show False from Bool.false_ne_true h).elim⟩
 | .lc own tg pair it c x, G, X, W, S, C => snd_V fun e h => by
  obtain ⟨hcalm, h⟩ := cold_ok C h
  unfold lcK at h
  split at h
  . simp only [Bool.and_eq_true, decide_eq_true_eq] at h
    obtain ⟨⟨⟨⟨⟨⟨⟨h0, h1⟩, h2⟩, h3⟩, h4⟩, h5⟩, h6⟩, h7⟩ := h
    rename_i pos
    subst h0
    have bo := blk_ok C h3
    have hmap : (own.map fun p => (T p.1, p.2)).map (·.2) = own.map (·.2) := by rw [List.map_map]; rfl
    have := pv_lc (pos := pos) (own := own.map fun p => (T p.1, p.2)) hcalm C.ok.nd ((snd it X W S C).2.2 _ _ h1) bo (is := tg) (by rw [hmap]; simpa using h4)
     ⟨fun s H Ca cl fp => tg_ok (C.blk bo.kind s H Ca cl fp) hcalm h5, fun s H Ca cl fp => pts_blk hcalm (sndT c _ _ (C.blk bo.kind s H Ca cl fp) h6), fun s H Ca cl fp => (snd x _ _ _ (C.blk bo.kind s H Ca cl fp)).1 _ h7, tg_pr h5⟩ (notSet_ok h2 _)
    rw [hmap] at this
    exact this
  . cases h
 | .lcx own tg pair it x, G, X, W, S, C => ⟨fun _ h => (show False from Bool.false_ne_true h).elim, fun _ h => (show False from Bool.false_ne_true h).elim, fun _ _ h => (show False from Bool.false_ne_true h).elim⟩
 | .lc2x own tg pair it tg1 pair1 it1 x, G, X, W, S, C => ⟨fun _ h => (show False from Bool.false_ne_true h).elim, fun _ h => (show False from Bool.false_ne_true h).elim, fun _ _ h => (show False from Bool.false_ne_true h).elim⟩
 | .inx a b, G, X, W, S, C => ⟨fun _ h => (show False from Bool.false_ne_true h).elim, fun _ h => (show False from Bool.false_ne_true h).elim, fun _ _ h => (show False from Bool.false_ne_true h).elim⟩
 | .cnt a b, G, X, W, S, C => ⟨fun _ h => (show False from Bool.false_ne_true h).elim, fun _ h => (show False from Bool.false_ne_true h).elim, fun _ _ h => (show False from Bool.false_ne_true h).elim⟩
 | .pop i k, G, X, W, S, C => ⟨fun _ h => (show False from Bool.false_ne_true h).elim, fun _ h => (show False from Bool.false_ne_true h).elim, fun _ _ h => (show False from Bool.false_ne_true h).elim⟩
 | .dix i k, G, X, W, S, C => ⟨fun _ h => (show False from Bool.false_ne_true h).elim, fun _ h => (show False from Bool.false_ne_true h).elim, fun _ _ h => (show False from Bool.false_ne_true h).elim⟩
 | .din n k i, G, X, W, S, C => ⟨fun _ h => (show False from Bool.false_ne_true h).elim, fun _ h => (show False from Bool.false_ne_true h).elim, fun _ _ h => (show False from Bool.false_ne_true h).elim⟩
 | .dgt i k x, G, X, W, S, C => ⟨fun _ h => (show False from Bool.false_ne_true h).elim, fun _ h => (show False from Bool.false_ne_true h).elim, fun _ _ h => (show False from Bool.false_ne_true h).elim⟩
 | .stp a n, G, X, W, S, C => snd_V fun e h => by
  unfold stpK at h
  split at h
  . simp only [Bool.and_eq_true, decide_eq_true_eq] at h
    obtain ⟨⟨h1, h2⟩, h3⟩ := h
    have e2 := eq_of_beq h2
    subst e2
    exact pv_stp h3 ((snd a X W S C).1 _ h1)
  . cases h
 | .tde, G, X, W, S, C => snd_V fun e h => by
  unfold tdeK at h
  split at h
  . exact pv_tde
  . cases h
 | .tdx i k, G, X, W, S, C => snd_V fun e h => by
  unfold dixK at h
  split at h
  . simp only [Bool.and_eq_true] at h
    exact pv_tdx C.ok.un (vark_ok C h.1.1) ((snd k X W S C).1 _ h.1.2) (plainIx_ok h.2)
  . cases h
 | .tdi n k i, G, X, W, S, C => ⟨fun _ h => (show False from Bool.false_ne_true h).elim, fun _ h => (show False from Bool.false_ne_true h).elim, fun _ _ h => (show False from Bool.false_ne_true h).elim⟩
 | .tdg i k x, G, X, W, S, C => snd_V fun e h => by
  unfold tdgK at h
  split at h
  . simp only [Bool.and_eq_true] at h
    obtain ⟨⟨⟨⟨⟨⟨h1, h2⟩, h3⟩, h4⟩, h5⟩, h6⟩, h7⟩ := h
    have e1 := eq_of_beq h1
    subst e1
    exact pv_tdg C.ok.un (vark_ok C h2) ((snd k X W S C).1 _ h3) ((snd x X W S C).1 _ h5) (m2_ok h4 h6 h7)
  . cases h
 | .tdl i, G, X, W, S, C => snd_V fun e h => by
  unfold tdcK at h
  split at h
  . simp only [Bool.and_eq_true] at h
    obtain ⟨rfl, g1, m1, _, _⟩ := blt_ok C h.1
    exact pv_tdl g1 m1 (vark_ok C h.2)
  . cases h
 | .tdk i, G, X, W, S, C => snd_V fun e h => by
  obtain ⟨hcalm, h⟩ := cold_ok C h
  unfold tdcK at h
  split at h
  . simp only [Bool.and_eq_true] at h
    obtain ⟨rfl, g1, m1, _, _⟩ := blt_ok C h.1
    exact pv_tdk hcalm C.ok.un g1 m1 (vark_ok C h.2)
  . cases h
 | .dmk a, G, X, W, S, C => ⟨fun _ h => (show False from Bool.false_ne_true h).elim, fun _ h => (show False from Bool.false_ne_true h).elim, fun _ _ h => (show False from Bool.false_ne_true h).elim⟩
 | .lsi a, G, X, W, S, C => ⟨fun _ h => (show False from Bool.false_ne_true h).elim, fun _ h => (show False from Bool.false_ne_true h).elim, fun _ _ h => (show False from Bool.false_ne_true h).elim⟩
 | .joi sep a, G, X, W, S, C => ⟨fun _ h => (show False from Bool.false_ne_true h).elim, fun _ h => (show False from Bool.false_ne_true h).elim, fun _ _ h => (show False from Bool.false_ne_true h).elim⟩
 | .spl a sep, G, X, W, S, C => ⟨fun _ h => (show False from Bool.false_ne_true h).elim, fun _ h => (show False from Bool.false_ne_true h).elim, fun _ _ h => (show False from Bool.false_ne_true h).elim⟩
 | .fmt a, G, X, W, S, C => ⟨fun _ h => (show False from Bool.false_ne_true h).elim, fun _ h => (show False from Bool.false_ne_true h).elim, fun _ _ h => (show False from Bool.false_ne_true h).elim⟩
 | .fst es, G, X, W, S, C => ⟨fun _ h => (show False from Bool.false_ne_true h).elim, fun _ h => (show False from Bool.false_ne_true h).elim, fun _ _ h => (show False from Bool.false_ne_true h).elim⟩
 | .dg i k, G, X, W, S, C => ⟨fun _ h => (show False from Bool.false_ne_true h).elim, fun _ h => (show False from Bool.false_ne_true h).elim, fun _ _ h => (show False from Bool.false_ne_true h).elim⟩
 | .dct ks es, G, X, W, S, C => ⟨fun _ h => (show False from Bool.false_ne_true h).elim, fun _ h => (show False from Bool.false_ne_true h).elim, fun _ _ h => (show False from Bool.false_ne_true h).elim⟩
 | .cak f ks perm dl es kes, G, X, W, S, C => ⟨fun _ h => (show False from Bool.false_ne_true h).elim, fun _ h => (show False from Bool.false_ne_true h).elim, fun _ _ h => (show False from Bool.false_ne_true h).elim⟩
 | .rg1 a, G, X, W, S, C => snd_W fun tg e h => by
  unfold rg1K at h
  split at h
  . simp only [Bool.and_eq_true] at h
    obtain ⟨rfl, g1, m1, _, _⟩ := blt_ok C h.1.1
    exact pi_r1 g1 m1 ((snd a X W S C).1 _ h.1.2) (star_ok h.2 _ _)
  . cases h
 | .rg2 a b, G, X, W, S, C => ⟨fun _ h => (show False from Bool.false_ne_true h).elim, fun _ h => (show False from Bool.false_ne_true h).elim, fun _ _ h => (show False from Bool.false_ne_true h).elim⟩
 | .en a, G, X, W, S, C => ⟨fun _ h => (show False from Bool.false_ne_true h).elim, fun _ h => (show False from Bool.false_ne_true h).elim, fun _ _ h => (show False from Bool.false_ne_true h).elim⟩
 | .zp a b, G, X, W, S, C => ⟨fun _ h => (show False from Bool.false_ne_true h).elim, fun _ h => (show False from Bool.false_ne_true h).elim, fun _ _ h => (show False from Bool.false_ne_true h).elim⟩
 | .zps a b, G, X, W, S, C => ⟨fun _ h => (show False from Bool.false_ne_true h).elim, fun _ h => (show False from Bool.false_ne_true h).elim, fun _ _ h => (show False from Bool.false_ne_true h).elim⟩
 | .att i f, G, X, W, S, C => ⟨fun _ h => (show False from Bool.false_ne_true h).elim, fun _ h => (show False from Bool.false_ne_true h).elim, fun _ _ h => (show False from Bool.false_ne_true h).elim⟩
 | .adx i f j, G, X, W, S, C => ⟨fun _ h => (show False from Bool.false_ne_true h).elim, fun _ h => (show False from Bool.false_ne_true h).elim, fun _ _ h => (show False from Bool.false_ne_true h).elim⟩
 | .mko cls es, G, X, W, S, C => ⟨fun _ h => (show False from Bool.false_ne_true h).elim, fun _ h => (show False from Bool.false_ne_true h).elim, fun _ _ h => (show False from Bool.false_ne_true h).elim⟩
 | .mca cls m i es, G, X, W, S, C => ⟨fun _ h => (show False from Bool.false_ne_true h).elim, fun _ h => (show False from Bool.false_ne_true h).elim, fun _ _ h => (show False from Bool.false_ne_true h).elim⟩
 | .mcm cls m es is, G, X, W, S, C => ⟨fun _ h => (show False from Bool.false_ne_true h).elim, fun _ h => (show False from Bool.false_ne_true h).elim, fun _ _ h => (show False from Bool.false_ne_true h).elim⟩
 | .mcf cls f es is, G, X, W, S, C => ⟨fun _ h => (show False from Bool.false_ne_true h).elim, fun _ h => (show False from Bool.false_ne_true h).elim, fun _ _ h => (show False from Bool.false_ne_true h).elim⟩
 | .cb1 f i x, G, X, W, S, C => ⟨fun _ h => (show False from Bool.false_ne_true h).elim, fun _ h => (show False from Bool.false_ne_true h).elim, fun _ _ h => (show False from Bool.false_ne_true h).elim⟩
 | .dd1 k v, G, X, W, S, C => ⟨fun _ h => (show False from Bool.false_ne_true h).elim, fun _ h => (show False from Bool.false_ne_true h).elim, fun _ _ h => (show False from Bool.false_ne_true h).elim⟩
 | .dmc own tg pair it c k v, G, X, W, S, C => ⟨fun _ h => (show False from Bool.false_ne_true h).elim, fun _ h => (show False from Bool.false_ne_true h).elim, fun _ _ h => (show False from Bool.false_ne_true h).elim⟩
 | .dls i, G, X, W, S, C => ⟨fun _ h => (show False from Bool.false_ne_true h).elim, fun _ h => (show False from Bool.false_ne_true h).elim, fun _ _ h => (show False from Bool.false_ne_true h).elim⟩
 | .lck own tg i c x, G, X, W, S, C => ⟨fun _ h => (show False from Bool.false_ne_true h).elim, fun _ h => (show False from Bool.false_ne_true h).elim, fun _ _ h => (show False from Bool.false_ne_true h).elim⟩
 | .tlk own tg i c x, G, X, W, S, C => snd_V fun e h => by
  obtain ⟨hcalm, h⟩ := cold_ok C h
  unfold lckK at h
  split at h
  . simp only [Bool.and_eq_true, decide_eq_true_eq] at h
    obtain ⟨⟨⟨⟨⟨⟨h0, h1⟩, h3⟩, h4⟩, h5⟩, h6⟩, h7⟩ := h
    rename_i pos
    subst h0
    have bo := blk_ok C h3
    obtain ⟨n1, n2, n3, n4⟩ := nmv_ok C h1
    have hmap : (own.map fun p => (T p.1, p.2)).map (·.2) = own.map (·.2) := by rw [List.map_map]; rfl
    have := fun px => pv_tlk (X := X) (W := W) (px := px) (pos := pos) (own := own.map fun p => (T p.1, p.2)) hcalm C.ok.nd n1 n2 n3 n4 bo (is := tg) (by rw [hmap]; simpa using h4)
     ⟨fun s H Ca cl fp => tg_ok (C.blk bo.kind s H Ca cl fp) hcalm h5, fun s H Ca cl fp => pts_blk hcalm (sndT c _ _ (C.blk bo.kind s H Ca cl fp) h6), fun s H Ca cl fp => (snd x _ _ _ (C.blk bo.kind s H Ca cl fp)).1 _ h7, tg_pr h5⟩ (fun _ => rfl)
    simp only [hmap] at this
    exact this _
  . cases h
 | .lc3 st own tg pair it tg1 pair1 it1 tg2 pair2 it2 x, G, X, W, S, C => ⟨fun _ h => (show False from Bool.false_ne_true h).elim, fun _ h => (show False from Bool.false_ne_true h).elim, fun _ _ h => (show False from Bool.false_ne_true h).elim⟩
 | .clv i es, G, X, W, S, C => ⟨fun _ h => (show False from Bool.false_ne_true h).elim, fun _ h => (show False from Bool.false_ne_true h).elim, fun _ _ h => (show False from Bool.false_ne_true h).elim⟩
 | .cdf f es gs, G, X, W, S, C => ⟨fun _ h => (show False from Bool.false_ne_true h).elim, fun _ h => (show False from Bool.false_ne_true h).elim, fun _ _ h => (show False from Bool.false_ne_true h).elim⟩
 | .lc2 own tg pair it c tg1 pair1 it1 c1 x, G, X, W, S, C => ⟨fun _ h => (show False from Bool.false_ne_true h).elim, fun _ h => (show False from Bool.false_ne_true h).elim, fun _ _ h => (show False from Bool.false_ne_true h).elim⟩
 | .xis i cs tup, G, X, W, S, C => ⟨fun _ h => (show False from Bool.false_ne_true h).elim, fun _ h => (show False from Bool.false_ne_true h).elim, fun _ _ h => (show False from Bool.false_ne_true h).elim⟩
 | .xat i f, G, X, W, S, C => ⟨fun _ h => (show False from Bool.false_ne_true h).elim, fun _ h => (show False from Bool.false_ne_true h).elim, fun _ _ h => (show False from Bool.false_ne_true h).elim⟩
 | .rt1 l a, G, X, W, S, C => ⟨fun _ h => (show False from Bool.false_ne_true h).elim, fun _ h => (show False from Bool.false_ne_true h).elim, fun _ _ h => (show False from Bool.false_ne_true h).elim⟩
 | .rt2 l a b, G, X, W, S, C => ⟨fun _ h => (show False from Bool.false_ne_true h).elim, fun _ h => (show False from Bool.false_ne_true h).elim, fun _ _ h => (show False from Bool.false_ne_true h).elim⟩
 | .rt3 a b c n, G, X, W, S, C => ⟨fun _ h => (show False from Bool.false_ne_true h).elim, fun _ h => (show False from Bool.false_ne_true h).elim, fun _ _ h => (show False from Bool.false_ne_true h).elim⟩
 | .ask i, G, X, W, S, C => ⟨fun _ h => (show False from Bool.false_ne_true h).elim, fun _ h => (show False from Bool.false_ne_true h).elim, fun _ _ h => (show False from Bool.false_ne_true h).elim⟩
 | .lam h0 m, G, X, W, S, C => ⟨fun _ h => (show False from Bool.false_ne_true h).elim, fun _ h => (show False from Bool.false_ne_true h).elim, fun _ _ h => (show False from Bool.false_ne_true h).elim⟩
 | .fz a, G, X, W, S, C => snd_V fun e h => pe_imp (pv_e ((snd a X W S C).1 _ h)) fun σ H Q q => by
   obtain ⟨L, G, F, e, r, z⟩ := q
   refine ⟨L, G, F, e, r, (After.bind (P1 := DOk X.K) z).mono fun v H1 z => ?_⟩
   obtain ⟨F1, e1, d, r1, st1, p1, a1⟩ := z
   exact a1 v F1 H1 r1 (Step.refl G F1) p1
theorem snds : ∀ (ms : List ME) {G : Gm} (X : Cx) (W : WX) (S : Sx), Cok X W S G -> Each X W (cks ms S) (dens G ms)
 | [], G, X, W, S, C => .nil
 | m :: ms, G, X, W, S, C => .cons (snd m X W S C).1 (snds ms X W S C)
theorem sndO : ∀ (m : Option ME) {G : Gm} (X : Cx) (W : WX) (S : Sx), Cok X W S G -> ∀ e, optK (ckO m S) e = true -> POs X W e (denO G m)
 | none, G, X, W, S, C, e, h => by
  cases e with
  | none => exact .none
  | some e => cases h
 | some m, G, X, W, S, C, e, h => by
  cases e with
  | none => cases h
  | some e => exact .some ((snd m X W S C).1 e h)
theorem sndT : ∀ (m : Option ME) {G : Gm} (X : Cx) (S : Sx), Cok X W0 S G -> ∀ {es}, tstK (ckT m S) es = true -> PTs X es (tOfC X (denT G m))
 | none, G, X, S, C, es, h => by
  cases es with
  | nil => exact pts_nil
  | cons e es => cases h
 | some m, G, X, S, C, es, h => by
  match es, h with
  | [e], h => exact pts_one ((snd m X W0 S C).2.1 e h).1
end
end
end Ev
namespace Ev
open PySem PySem.Spec PyProof.Rows L2
theorem blockKind_fn {env : PySem.Env} (h : env.scope.kind = .function) : env.blockKind = .function := by
 unfold Env.blockKind
 rw [h]
 rfl
def compSc : Expr -> Option Scope
 | .ListComp _ _ s _ => some s
 | .SetComp _ _ s _ => some s
 | .DictComp _ _ _ s _ => some s
 | _ => none
theorem sw_none {v : Expr} (h : compSc v = none) (t : Option Expr) (line : Nat) (env : PySem.Env) : swapsWith v t line env = pure false := by
 cases v <;> first | rfl | (simp [compSc] at h)
theorem sw_name {v : Expr} {s : Scope} (h : compSc v = some s) (x : Str) (p : Pos) (line : Nat) (env : PySem.Env) (hk : env.scope.kind = .function) :
  swapsWith v (some (.Name x p)) line env = pure (env.scope.names.lookup x == some .local && p.line == v.pos.line && !(s.names.any fun (n, k) => n == x && (k == .local || k == .cell))) := by
 cases v <;> simp only [compSc, reduceCtorEq, Option.some.injEq] at h <;> subst h <;> simp only [swapsWith, blockKind_fn hk, beq_self_eq_true, Bool.true_and] <;> rfl
def isName : Expr -> Bool
 | .Name _ _ => true
 | _ => false
theorem sw_other {v t : Expr} (h : isName t = false) (line : Nat) (env : PySem.Env) : swapsWith v (some t) line env = pure false := by
 cases v <;> first
  | rfl
  | (cases t <;> first | rfl | (simp [isName] at h))
def swL (v : Expr) (x : Str) (p : Pos) (sc : Scope) : Bool := match compSc v with
 | none => false
 | some s => sc.names.lookup x == some .local && p.line == v.pos.line && !(s.names.any fun (n, k) => n == x && (k == .local || k == .cell))
theorem sw_ok (v : Expr) (x : Str) (p : Pos) (line : Nat) (env : PySem.Env) (hk : env.scope.kind = .function) : swapsWith v (some (.Name x p)) line env = pure (swL v x p env.scope) := by
 unfold swL
 cases h : compSc v with
 | none => exact sw_none h _ _ _
 | some s => exact sw_name h x p line env hk
def starred : Expr -> Bool
 | .Starred .. => true
 | _ => false
def localAt (sc : Scope) (line : Nat) : Expr -> Option Str
 | .Name id pos => if sc.names.lookup id == some .local && pos.line == line then some id else none
 | _ => none
def swP (sc : Scope) (ts vs : List Expr) : Option (Option (List Str)) :=
 if !(ts.length == 2 || ts.length == 3) || vs.length != ts.length then some none
 else if vs.any starred then some none
 else
  let names := ts.filterMap (localAt sc ((ts.head?.map (·.pos.line)).getD 0))
  if names.length != ts.length || names.eraseDups.length != names.length then some none
  else if vs.all (foldedForSure 8) then some none
  else if vs.all (constantsAlone 8) then none
  else some (some names)
def swQ (names : List Str) (ts vs : List Expr) : Sem (Option (List Str)) :=
 if (names.length != ts.length || names.eraseDups.length != names.length) = true then pure none
 else if vs.all (foldedForSure 8) = true then pure none
 else if vs.all (constantsAlone 8) = true then do
  unsupported "assign.tuple-of-constant-expressions:order-of-the-stores"
  pure (some names)
 else pure (some names)
theorem swP_ok {env : PySem.Env} (hk : env.scope.kind = .function) {ts vs : List Expr} {k k2 : Nat} {p p2 : Pos} {r : Option (List Str)} (h : swP env.scope ts vs = some r) : swappedStores [.Tuple ts k p] (.Tuple vs k2 p2) env = pure r := by
 unfold swP at h
 unfold swappedStores
 simp only [blockKind_fn hk, bne_self_eq_false, Bool.or_false]
 split at h
 . rename_i c
   cases h
   rw [if_pos c]
 . rename_i c
   rw [if_neg c]
   show (if vs.any starred = true then pure none else swQ (ts.filterMap (localAt env.scope ((ts.head?.map (·.pos.line)).getD 0))) ts vs) = pure r
   split at h
   . rename_i c2
     cases h
     rw [if_pos c2]
   . rename_i c2
     rw [if_neg c2]
     unfold swQ
     dsimp only at h
     split at h
     . rename_i c3
       cases h
       rw [if_pos c3]
     . rename_i c3
       rw [if_neg c3]
       split at h
       . rename_i c4
         cases h
         rw [if_pos c4]
       . rename_i c4
         rw [if_neg c4]
         split at h
         . cases h
         . rename_i c5
           rw [if_neg c5]
           cases h
           rfl
theorem sw_noTup {v t : Expr} {env : PySem.Env} (h : isTupE v = false) : swappedStores [t] v env = pure none := by
 cases v <;> first | (simp [isTupE] at h; done) | (cases t <;> rfl)
theorem sw_noTgt {v t : Expr} {env : PySem.Env} (h : isTupE t = false) (h2 : (match t with | .List _ _ => false | _ => true) = true) : swappedStores [t] v env = pure none := by
 cases t <;> first | (simp [isTupE] at h; done) | (simp at h2; done) | rfl
theorem sub_ok {o e : Expr} {p : Pos} {env : PySem.Env} (h : plainIx e = true) (v : Value) : assign (.Subscript o e p) env v = (do
   let ov <- holding [v] (eval o env)
   let iv <- holding [v, ov] (eval e env)
   standAt p
   holding [v, ov, iv] (setItem ov iv v)
   release [v, ov, iv] []) := by
 cases e <;> first | rfl | (simp [plainIx] at h)
theorem sole_sub {o i v : Expr} {p : Pos} {line : Nat} {env : PySem.Env} : swapsWithSole [.Subscript o i p] v line env = pure false := sw_other (t := .Subscript o i p) rfl line env
def isLc : ME -> Bool
 | .lc _ _ _ _ _ _ => true
 | .lc2x _ _ _ _ _ _ _ _ => true
 | .lc2 _ _ _ _ _ _ _ _ _ _ => true
 | .lc3 st _ _ _ _ _ _ _ _ _ _ _ => !st
 | .dmc _ _ _ _ _ _ _ => true
 | _ => false
def astK (S : Sx) (i : Nat) (f : String) (v : Expr -> Bool) : Stmt -> Bool
 | .Assign [.Attribute (.Name x _) y _] ev _ => nmvK S i x && y == T f && v ev
 | _ => false
def adpK (S : Sx) (i : Nat) (f : String) (j : Nat) (v : Expr -> Bool) : Stmt -> Bool
 | .Assign [.Subscript (.Attribute (.Name x _) y _) (.Name z _) _] ev _ => nmvK S i x && y == T f && nmvK S j z && v ev
 | _ => false
def locOnly (S : Sx) (x : Str) : Bool := S.sc.names.lookup x == some .local
def asgK (S : Sx) (i : Nat) (lc : Bool) (k : Expr -> Bool) : Stmt -> Bool
 | .Assign [.Name x px] ev _ => nmK S i x && locB S x && k ev && (!(swL ev x px S.sc) || lc)
 | _ => false
def stfK (S : Sx) (j i : Nat) (k : Expr -> Bool) : Stmt -> Bool
 | .Assign [.Tuple [.Starred (.Name x px) q, .Name y py] kt pt] ev _ => nmK S j x && locB S x && nmK S i y && locB S y && k ev && !isTupE ev
 | _ => false
def kgetK (S : Sx) (g : String) (j : Nat) : Expr -> Bool
 | .Call (.Attribute (.Name y _) m apos) [.Name z _, ef] [] cpos => y == T g && glB S.sc y && !dbg y && m == T "get" && nmvK S j z && tupK [] ef && notStar ef && apos.endLine == cpos.line
 | _ => false
def lksK (S : Sx) (i : Nat) (g : String) (j : Nat) : Stmt -> Bool
 | .Assign [.Name x px] ev _ => nmK S i x && locB S x && kgetK S g j ev && !(swL ev x px S.sc)
 | _ => false
def swNoneB (sc : Scope) : Expr -> Expr -> Bool
 | .Tuple ts _ _, .Tuple vs _ _ => match swP sc ts vs with
  | some none => true
  | _ => false
 | _, v => !isTupE v
def unpK (S : Sx) (is : List Nat) (k : Expr -> Bool) : Stmt -> Bool
 | .Assign [t] ev _ => tgK S is true t && notStar t && !isName t && k ev && swNoneB S.sc t ev
 | _ => false
def unnK (S : Sx) (i : Nat) (is : List Nat) (k : Expr -> Bool) : Stmt -> Bool
 | .Assign [.Tuple [.Name x px, t2] kt pt] ev _ => nmK S i x && locB S x && tgK S is true t2 && notStar t2 && k ev && swNoneB S.sc (.Tuple [.Name x px, t2] kt pt) ev
 | _ => false
def starK (S : Sx) : List Nat -> Nat -> List Expr -> Bool
 | [], j, [.Starred (.Name x _) _] => nmK S j x && locB S x
 | i :: is, j, .Name x _ :: es => nmK S i x && locB S x && starK S is j es
 | _, _, _ => false
def stuK (S : Sx) (is : List Nat) (j : Nat) (k : Expr -> Bool) : Stmt -> Bool
 | .Assign [.Tuple es kt pt] ev _ => starK S is j es && k ev && swNoneB S.sc (.Tuple es kt pt) ev
 | _ => false
def parK (S : Sx) (i j : Nat) (a b : Expr -> Bool) : Stmt -> Bool
 | .Assign [.Tuple [.Name x px, .Name y py] kt pt] (.Tuple [ea, eb] k2 pt2) _ => nmK S i x && nmK S j y && i != j && locOnly S x && locOnly S y && a ea && notStar ea && b eb && notStar eb &&
  (match swP S.sc [.Name x px, .Name y py] [ea, eb] with
   | some (some r) => decide (r = [x, y])
   | _ => false)
 | _ => false
def isNilE : Expr -> Bool
 | .List [] _ => true
 | _ => false
def parEK (S : Sx) (i j : Nat) (a : Expr -> Bool) : Stmt -> Bool
 | .Assign [.Tuple [.Name x px, .Name y py] kt pt] (.Tuple [ea, .List [] p3] k2 pt2) _ => nmK S i x && nmK S j y && i != j && locOnly S x && locOnly S y && a ea && notStar ea &&
  (match swP S.sc [.Name x px, .Name y py] [ea, .List [] p3] with
   | some (some r) => decide (r = [x, y])
   | _ => false)
 | _ => false
def parOK (S : Sx) (i j : Nat) (a : Expr -> Bool) : Stmt -> Bool
 | .Assign [.Tuple [.Name x px, .Name y py] kt pt] (.Tuple [ea, .Dict [] [] p3] k2 pt2) _ => nmK S i x && nmK S j y && i != j && locOnly S x && locOnly S y && a ea && notStar ea &&
  (match swP S.sc [.Name x px, .Name y py] [ea, .Dict [] [] p3] with
   | some (some r) => decide (r = [x, y])
   | _ => false)
 | _ => false
def par0K (S : Sx) (i j : Nat) (a : Expr -> Bool) : Stmt -> Bool
 | .Assign [.Tuple [.Name x px, .Name y py] kt pt] (.Tuple [.Dict [] [] p3, ea] k2 pt2) _ => nmK S i x && nmK S j y && i != j && locOnly S x && locOnly S y && a ea && notStar ea &&
  (match swP S.sc [.Name x px, .Name y py] [.Dict [] [] p3, ea] with
   | some (some r) => decide (r = [x, y])
   | _ => false)
 | _ => false
def parTK (S : Sx) (i j : Nat) (a b : Expr -> Bool) : Stmt -> Bool
 | .Assign [.Tuple [.Name x px, .Name y py] kt pt] (.Tuple [ea, eb] k2 pt2) _ => nmK S i x && nmK S j y && i != j && locOnly S x && locOnly S y && a ea && notStar ea && b eb && notStar eb &&
  (match swP S.sc [.Name x px, .Name y py] [ea, eb] with
   | some (some r) => decide (r = [x, y])
   | _ => false)
 | _ => false
def parUK (S : Sx) (i j : Nat) (a b : Expr -> Bool) : Stmt -> Bool
 | .Assign [t] (.Tuple [ea, eb] k2 pt2) _ => tgK S [i, j] true t && notStar t && !isName t && i != j && a ea && notStar ea && b eb && notStar eb && swNoneB S.sc t (.Tuple [ea, eb] k2 pt2)
 | _ => false
def parCK (S : Sx) (i j : Nat) (a : Expr -> Bool) (n : Int) : Stmt -> Bool
 | .Assign [.Tuple [.Name x px, .Name y py] kt pt] (.Tuple [ea, .Constant (.int m) k3 p3] k2 pt2) _ => nmK S i x && nmK S j y && i != j && locOnly S x && locOnly S y && a ea && notStar ea && m == n &&
  (match swP S.sc [.Name x px, .Name y py] [ea, .Constant (.int m) k3 p3] with
   | some (some r) => decide (r = [x, y])
   | _ => false)
 | _ => false
def par3K (S : Sx) (i j l : Nat) (a b c : Expr -> Bool) : Stmt -> Bool
 | .Assign [.Tuple [.Name x px, .Name y py, .Name z pz] kt pt] (.Tuple [ea, eb, ec] k2 pt2) _ => nmK S i x && nmK S j y && nmK S l z && i != j && i != l && j != l && locOnly S x && locOnly S y && locOnly S z && a ea && notStar ea && b eb && notStar eb && c ec && notStar ec &&
  (match swP S.sc [.Name x px, .Name y py, .Name z pz] [ea, eb, ec] with
   | some (some r) => decide (r = [x, y, z])
   | _ => false)
 | _ => false
def stoK (S : Sx) (i : Nat) (k v : Expr -> Bool) : Stmt -> Bool
 | .Assign [.Subscript (.Name x px) ei _] ev _ => varK S i (.Name x px) && k ei && v ev && plainIx ei
 | _ => false
def dstK (S : Sx) (i : Nat) (k : String) (v : Expr -> Bool) : Stmt -> Bool
 | .Assign [.Subscript xo (.Constant (.str s) _ _) _] ev _ => varK S i xo && s == T k && v ev
 | _ => false
def dptK (S : Sx) (i : Nat) (k v : Expr -> Bool) : Stmt -> Bool
 | .Assign [.Subscript (.Name x px) ei _] ev _ => varK S i (.Name x px) && k ei && v ev && plainIx ei
 | _ => false
def extK (S : Sx) (i : Nat) (v : Expr -> Bool) : Stmt -> Bool
 | .Expr (.Call (.Attribute (.Name x px) m apos) [ev] [] cpos) _ => varK S i (.Name x px) && m == T "extend" && apos.endLine == cpos.line && v ev && notStar ev
 | _ => false
def updK (S : Sx) (i : Nat) (v : Expr -> Bool) : Stmt -> Bool
 | .Expr (.Call (.Attribute (.Name x px) m apos) [ev] [] cpos) _ => varK S i (.Name x px) && m == T "update" && apos.endLine == cpos.line && v ev && notStar ev
 | _ => false
def augK (S : Sx) (i : Nat) (op : Operator) (v : Expr -> Bool) : Stmt -> Bool
 | .AugAssign (.Name x _) o ev _ => nmK S i x && locB S x && decide (o = op) && (decide (op = .Add) || decide (op = .Sub)) && v ev
 | _ => false
def appK (S : Sx) (i : Nat) (v : Expr -> Bool) : Stmt -> Bool
 | .Expr (.Call (.Attribute (.Name x px) m apos) [ev] [] cpos) _ => varK S i (.Name x px) && m == ("append" : Str) && apos.endLine == cpos.line && v ev && notStar ev
 | _ => false
def expK (v : Expr -> Bool) : Stmt -> Bool
 | .Expr ev _ => v ev && (compSc ev).isNone
 | _ => false
def retK (v : Expr -> Bool) : Stmt -> Bool
 | .Return (some ev) _ => v ev
 | _ => false
def pasK : Stmt -> Bool
 | .Pass _ => true
 | .Expr (.Constant (.str _) _ _) _ => true
 | _ => false
def iteSK (c : Expr -> Bool) (a b : List Stmt -> Bool) : Stmt -> Bool
 | .If ec t f _ => c ec && a t && b f
 | _ => false
def frK (S : Sx) (tg : List Nat) (pair : Bool) (w : Expr -> Expr -> Bool) (b : List Stmt -> Bool) : Stmt -> Bool
 | .For tgE iter body [] _ => w tgE iter && notSet iter && tgK S tg pair tgE && b body
 | _ => false
def frnK (S : Sx) (i : Nat) (is : List Nat) (w : Expr -> Expr -> Bool) (b : List Stmt -> Bool) : Stmt -> Bool
 | .For (.Tuple [.Name x px, t2] kt pt) iter body [] _ => w (.Tuple [.Name x px, t2] kt pt) iter && notSet iter && nmK S i x && locB S x && tgK S is true t2 && notStar t2 && b body
 | _ => false
def for2K0 (S : Sx) (x j : Nat) (v : Expr -> Bool) (b : List Stmt -> Bool) : Stmt -> Bool
 | .For (.Name n pn) (.Tuple [ea, .Name y py] kt tp) body [] _ => nmK S x n && locB S n && v ea && notStar ea && varK S j (.Name y py) && b body
 | _ => false
def whlK (c : Expr -> Bool) (b : List Stmt -> Bool) : Stmt -> Bool
 | .While ec body [] _ => c ec && b body
 | _ => false
def raiK (S : Sx) (cls : String) (ks : List (Expr -> Bool)) : Stmt -> Bool
 | .Raise (some (.Call (.Name x _) es [] _)) none _ => x == T cls && glB S.sc x && !dbg x && eachK ks es && !es.isEmpty
 | _ => false
def traK (S : Sx) (i : Nat) (cs : List String) (b su : List Stmt -> Bool) : Stmt -> Bool
 | .Try body [.ExceptHandler (some (.Tuple es _ _)) (some n) (st0 :: sts) _] [] [] _ => S.cf.isNone && decide (cs.length = 2) && clsK S cs es && nmK S i n && locOnly S n && b body && su (st0 :: sts)
 | .Try body [.ExceptHandler (some (.Name x p)) (some n) (st0 :: sts) _] [] [] _ => S.cf.isNone && decide (cs.length = 1) && clsK S cs [.Name x p] && nmK S i n && locOnly S n && b body && su (st0 :: sts)
 | _ => false
def troK (S : Sx) (cs : List String) (b su : List Stmt -> Bool) : Stmt -> Bool
 | .Try body [.ExceptHandler (some (.Name x p)) none (st0 :: sts) _] [] [] _ => S.cf.isNone && decide (cs.length = 1) && clsK S cs [.Name x p] && b body && su (st0 :: sts)
 | _ => false
def swpK (S : Sx) (i : Nat) (k l v : Expr -> Bool) : Stmt -> Bool
 | .Assign [.Tuple [.Subscript (.Name x px) ea t1, .Subscript (.Name y py) eb t2] kt tp] ev _ => varK S i (.Name x px) && varK S i (.Name y py) && k ea && plainIx ea && l eb && plainIx eb && v ev && swNoneB S.sc (.Tuple [.Subscript (.Name x px) ea t1, .Subscript (.Name y py) eb t2] kt tp) ev
 | _ => false
def Sx.heat (S : Sx) : Sx := { S with hot := true, ask := false, lam := false }
def coldS (S : Sx) (k : Stmt -> Bool) : Stmt -> Bool := fun e => !S.hot && k e
mutual
def cs : MS -> Sx -> Stmt -> Bool
 | .asg i e, S => asgK S i (isLc e) (ck e S).v
 | .lks i g j, S => fun _ => false
 | .stf j i e, S => fun _ => false
 | .unp is e, S => coldS S (unpK S is (ck e S).v)
 | .unn i is e, S => fun _ => false
 | .stu is j e, S => fun _ => false
 | .par i j a b, S => fun _ => false
 | .parL i j a b, S => fun _ => false
 | .parE i j a, S => fun _ => false
 | .parO i j a, S => fun _ => false
 | .par0 i j a, S => fun _ => false
 | .parT i j a b, S => coldS S fun st => parTK S i j (ck a S).v (ck b S).v st || parUK S i j (ck a S).v (ck b S).v st
 | .tdp i k e, S => dptK S i (ck k S).v (ck e S).v
 | .parC i j a n, S => fun _ => false
 | .par3 i j l a b c, S => fun _ => false
 | .sto i k e, S => stoK S i (ck k S).v (ck e S).v
 | .aug i op e, S => fun _ => false
 | .app i e, S => appK S i (ck e S).v
 | .dst i k e, S => fun _ => false
 | .dpt i k e, S => fun _ => false
 | .ast i f _ e, S => fun _ => false
 | .adp i f j e, S => fun _ => false
 | .ext i e, S => fun _ => false
 | .upd i e, S => fun _ => false
 | .exp e, S => fun _ => false
 | .ret e, S => retK (ck e S).v
 | .retN, S => fun _ => false
 | .ite c t f, S => iteSK (ck c S).t (css t S) (css f S)
 | .fr tg pair it b, S => coldS S (frK S tg pair (ck it S).w (css b S))
 | .frn i is it b, S => fun _ => false
 | .for2 x j a b, S => fun _ => false
 | .whl c b, S => fun _ => false
 | .rai x es, S => fun _ => false
 | .tra i xs b su, S => fun _ => false
 | .tro xs b su, S => fun _ => false
 | .swp i k l e, S => fun _ => false
 | .nev, _ => fun _ => true
 | .pas, S => fun _ => false
 | .brk, S => fun _ => false
 | .cnt, S => fun _ => false
def css : List MS -> Sx -> List Stmt -> Bool
 | [], S => fun sts => sts.isEmpty
 | m :: ms, S => fun sts => match sts with
  | st :: sts => cs m S st && css ms S sts
  | [] => false
end
section
variable {X : Cx} {W : WX} {S : Sx} {G : Gm}
theorem coldS_ok (C : Cok X W S G) {k : Stmt -> Bool} {e : Stmt} (h : coldS S k e = true) : X.calm = true /\ k e = true := by
 unfold coldS at h
 rw [Bool.and_eq_true, Bool.not_eq_true'] at h
 exact ⟨C.cm h.1, h.2⟩
theorem locOnly_ok (C : Cok X W S G) {x : Str} (h : locOnly S x = true) : X.env.scope.names.lookup x = some .local := by
 rw [C.hs]
 simpa [locOnly] using h
theorem loc_ok (C : Cok X W S G) {x : Str} (h : locB S x = true) : Loc X.env.scope x /\ (X.fn x = true \/ X.env.scope.names.lookup x = some .local) := by
 obtain ⟨l1, l2⟩ := locB_ok h
 rw [C.hs]
 exact ⟨l1, l2.imp (C.hf x) id⟩
theorem lc_parts (C : Cok X W S G) (hcalm : X.calm = true) {own : List (String × Nat)} {tg : List Nat} {pair : Bool} {it : ME} {c : Option ME} {x : ME} {e : Expr} (h : lcK S own tg pair (ck it S).w (fun sc => ckT c (S.blk sc)) (fun sc => (ck x (S.blk sc)).v) e = true) :
  ∃ elt tgE iter ifs scope pos, e = .ListComp elt [⟨tgE, iter, ifs, 0⟩] scope pos /\ PIs X W tgE iter (den G it).w /\ BlkOk X.N X.env.scope scope (own.map fun p => (T p.1, p.2)) /\ (∀ i ∈ tg, i ∈ own.map (·.2)) /\ Blk X W scope tgE tg pair ifs (denT G c) elt (den G x).v /\ ∀ x, foldedSetIterable iter X.env x = pure x := by
 unfold lcK at h
 split at h
 . simp only [Bool.and_eq_true, decide_eq_true_eq] at h
   obtain ⟨⟨⟨⟨⟨⟨⟨h0, h1⟩, h2⟩, h3⟩, h4⟩, h5⟩, h6⟩, h7⟩ := h
   subst h0
   have bo := blk_ok C h3
   exact ⟨_, _, _, _, _, _, rfl, (snd it X W S C).2.2 _ _ h1, bo, by simpa using h4, ⟨fun s H Ca cl fp => tg_ok (C.blk bo.kind s H Ca cl fp) hcalm h5, fun s H Ca cl fp => pts_blk hcalm (sndT c _ _ (C.blk bo.kind s H Ca cl fp) h6), fun s H Ca cl fp => (snd x _ _ _ (C.blk bo.kind s H Ca cl fp)).1 _ h7, tg_pr h5⟩, notSet_ok h2 _⟩
 . cases h
theorem var_ok (C : Cok X W S G) {i : Nat} {e : Expr} (h : varK S i e = true) : PV X W e (varC i) := (snd (G := G) (.var i) X W S C).1 e h
theorem Cok.tr {W' : WX} {pn : List (Addr × Obj)} {xe : Value -> Shared -> Prop} (C : Cok X W S G) (tk : Takes (X.tr pn xe) W') : Cok (X.tr pn xe) W' S G :=
 ⟨C.hN, C.hs, C.hf, C.kd, ⟨C.ok.nd, C.ok.un, C.ok.gd, C.ok.bn, C.ok.gl, tk, C.ok.xc, C.ok.sub, C.ok.fld, C.ok.fns, C.ok.fks, C.ok.kn, C.ok.kt, C.ok.mts, C.ok.atr, C.ok.tb⟩, C.cm, C.hm, C.st, C.ask, C.lam⟩
mutual
theorem sndS (XF : Xt) : ∀ (m : MS) (X : Cx) (W : WX) (S : Sx), Cok X W S G -> PassesOwn (model X.prog X.w) X.A X.env X.xe -> ∀ st, cs m S st = true -> PV1 X W st (sen G XF m)
 | .lks i g j, X, W, S, C, own, st, h => (show False from Bool.false_ne_true h).elim
 | .asg i e, X, W, S, C, own, st, h => by
  replace h : asgK S i (isLc e) (ck e S).v st = true := h
  unfold asgK at h
  split at h
  . rename_i x px ev pos
    simp only [Bool.and_eq_true, Bool.or_eq_true, Bool.not_eq_true'] at h
    obtain ⟨⟨⟨h1, h2⟩, h3⟩, h4⟩ := h
    obtain ⟨l1, l2⟩ := loc_ok C h2
    have hsw := sw_ok ev x px pos.line X.env C.kd
    rw [C.hs] at hsw
    cases hv : swL ev x px S.sc with
    | false =>
     rw [hv] at hsw
     exact pz_asg C.ok.nd (nmK_ok C h1) l1 ((snd e X W S C).1 _ h3) hsw l2
    | true =>
     rw [hv] at hsw h4
     rcases h4 with h4 | h4
     . cases h4
     . have hl : X.env.scope.names.lookup x = some .local := by
        rw [C.hs]
        unfold swL at hv
        split at hv
        . cases hv
        . simp only [Bool.and_eq_true] at hv
          simpa using hv.1.1
       cases e <;> first | (simp [isLc] at h4; done) | skip
       rotate_left
       rotate_left
       rotate_left
       rotate_left
       . exact (show False from Bool.false_ne_true h3).elim
       rotate_left
       . exact (show False from Bool.false_ne_true h3).elim
       . exact (show False from Bool.false_ne_true h3).elim
       . exact (show False from Bool.false_ne_true h3).elim
       rename_i own' tg pair it c xx
       obtain ⟨hcalm, h3⟩ := cold_ok C h3
       obtain ⟨elt, tgE, iter, ifs, scope, lpos, rfl, q1, q2, q3, q4, q5⟩ := lc_parts C hcalm (show lcK _ _ _ _ _ _ _ _ = true from h3)
       have hmap : (own'.map fun p => (T p.1, p.2)).map (·.2) = own'.map (·.2) := by rw [List.map_map]; rfl
       have := pz_asgLc hcalm C.ok.nd (nmK_ok C h1) hl hsw q1 q2 (is := tg) (by rw [hmap]; exact q3) q4 q5
       rw [hmap] at this
       exact this
  . cases h
 | .unp is e, X, W, S, C, own, st, h => by
  obtain ⟨hcalm, h⟩ := coldS_ok C (k := unpK S is (ck e S).v) h
  unfold unpK at h
  split at h
  . rename_i t ev pos
    simp only [Bool.and_eq_true, Bool.not_eq_true'] at h
    obtain ⟨⟨⟨⟨h1, h2⟩, h3⟩, h4⟩, h5⟩ := h
    refine pz_unp (tg_ok C hcalm h1) ((snd e X W S C).1 _ h4) (sw_other h3 _ _) ?_ (by rw [assignEach_ok h2]; rfl)
    unfold swNoneB at h5
    split at h5
    . split at h5
      . rename_i hp
        exact swP_ok C.kd (by rw [C.hs]; exact hp)
      . cases h5
    . exact sw_noTup (by simpa using h5)
  . cases h
 | .unn i is e, X, W, S, C, own, st, h => (show False from Bool.false_ne_true h).elim
 | .stf j i e, X, W, S, C, own, st, h => (show False from Bool.false_ne_true h).elim
 | .stu is j e, X, W, S, C, own, st, h => (show False from Bool.false_ne_true h).elim
 | .par i j a b, X, W, S, C, own, st, h => (show False from Bool.false_ne_true h).elim
 | .parL i j a b, X, W, S, C, own, st, h => (show False from Bool.false_ne_true h).elim
 | .parE i j a, X, W, S, C, own, st, h => (show False from Bool.false_ne_true h).elim
 | .parO i j a, X, W, S, C, own, st, h => (show False from Bool.false_ne_true h).elim
 | .par0 i j a, X, W, S, C, own, st, h => (show False from Bool.false_ne_true h).elim
 | .parT i j a b, X, W, S, C, own, st, h => by
  obtain ⟨hcalm, h⟩ := coldS_ok C (k := fun st => parTK S i j (ck a S).v (ck b S).v st || parUK S i j (ck a S).v (ck b S).v st) h
  rcases Bool.or_eq_true_iff.mp h with h | h
  . unfold parTK at h
    split at h
    . simp only [Bool.and_eq_true] at h
      obtain ⟨⟨⟨⟨⟨⟨⟨⟨⟨h1, h2⟩, h3⟩, h4⟩, h5⟩, h6⟩, h7⟩, h8⟩, h9⟩, h10⟩ := h
      split at h10
      . rename_i r hp
        have hr : r = _ := of_decide_eq_true h10
        subst hr
        exact pz_parT hcalm C.ok.nd (nmK_ok C h1) (nmK_ok C h2) (by simpa using h3) (locOnly_ok C h4) (locOnly_ok C h5) ((snd a X W S C).1 _ h6) ((snd b X W S C).1 _ h8) (star_ok h7 _ _) (star_ok h9 _ _) (swP_ok C.kd (by rw [C.hs]; exact hp))
      . cases h10
    . cases h
  . unfold parUK at h
    split at h
    . rename_i t ea eb k2 pt2 pos q1 q2
      simp only [Bool.and_eq_true, Bool.not_eq_true'] at h
      obtain ⟨⟨⟨⟨⟨⟨⟨⟨h1, h2⟩, h3⟩, h4⟩, h5⟩, h6⟩, h7⟩, h8⟩, h9⟩ := h
      refine pz_unpT (by simpa using h4) (tg_ok C hcalm h1) ((snd a X W S C).1 _ h5) ((snd b X W S C).1 _ h7) (star_ok h6 _ _) (star_ok h8 _ _) rfl ?_ (by rw [assignEach_ok h2]; rfl)
      cases t with
      | Tuple ts kk pp =>
       unfold swNoneB at h9
       dsimp only at h9
       split at h9
       . rename_i hp
         exact swP_ok C.kd (by rw [C.hs]; exact hp)
       . cases h9
      | _ => simp [swNoneB, isTupE] at h9
    . cases h
 | .tdp i k e, X, W, S, C, own, st, h => by
  replace h : dptK S i (ck k S).v (ck e S).v st = true := h
  unfold dptK at h
  split at h
  . simp only [Bool.and_eq_true] at h
    obtain ⟨⟨⟨h1, h2⟩, h3⟩, h4⟩ := h
    exact pz_tdp C.ok.un (var_ok C h1) ((snd k X W S C).1 _ h2) ((snd e X W S C).1 _ h3) (sw_other (t := .Subscript _ _ _) rfl _ _)
  . cases h
 | .parC i j a n, X, W, S, C, own, st, h => (show False from Bool.false_ne_true h).elim
 | .par3 i j l a b c, X, W, S, C, own, st, h => (show False from Bool.false_ne_true h).elim
 | .sto i k e, X, W, S, C, own, st, h => by
  replace h : stoK S i (ck k S).v (ck e S).v st = true := h
  unfold stoK at h
  split at h
  . simp only [Bool.and_eq_true] at h
    obtain ⟨⟨⟨h1, h2⟩, h3⟩, h4⟩ := h
    exact pz_sto (var_ok C h1) ((snd k X W S C).1 _ h2) ((snd e X W S C).1 _ h3) (sub_ok h4) sole_sub (sw_noTgt rfl rfl) rfl
  . cases h
 | .aug i op e, X, W, S, C, own, st, h => (show False from Bool.false_ne_true h).elim
 | .app i e, X, W, S, C, own, st, h => by
  replace h : appK S i (ck e S).v st = true := h
  unfold appK at h
  split at h
  . simp only [Bool.and_eq_true] at h
    obtain ⟨⟨⟨⟨h1, h2⟩, h3⟩, h4⟩, h5⟩ := h
    have h2 := eq_of_beq h2
    subst h2
    exact pz_app (var_ok C h1) ((snd e X W S C).1 _ h4) (sw_none rfl _ _ _) rfl h3 (star_ok h5 _ _)
  . cases h
 | .dst i k e, X, W, S, C, own, st, h => (show False from Bool.false_ne_true h).elim
 | .dpt i k e, X, W, S, C, own, st, h => (show False from Bool.false_ne_true h).elim
 | .ast i f ow e, X, W, S, C, own, st, h => (show False from Bool.false_ne_true h).elim
 | .adp i f j e, X, W, S, C, own, st, h => (show False from Bool.false_ne_true h).elim
 | .ext i e, X, W, S, C, own, st, h => (show False from Bool.false_ne_true h).elim
 | .upd i e, X, W, S, C, own, st, h => (show False from Bool.false_ne_true h).elim
 | .exp e, X, W, S, C, own, st, h => (show False from Bool.false_ne_true h).elim
 | .ret e, X, W, S, C, own, st, h => by
  replace h : retK (ck e S).v st = true := h
  unfold retK at h
  split at h
  . exact pz_ret ((snd e X W S C).1 _ h)
  . cases h
 | .retN, X, W, S, C, own, st, h => (show False from Bool.false_ne_true h).elim
 | .ite c t f, X, W, S, C, own, st, h => by
  replace h : iteSK (ck c S).t (css t S) (css f S) st = true := h
  unfold iteSK at h
  split at h
  . simp only [Bool.and_eq_true] at h
    exact pz_ite ((snd c X W S C).2.1 _ h.1.1).1 (sndSs XF t X W S C own _ h.1.2) (sndSs XF f X W S C own _ h.2)
  . cases h
 | .fr tg pair it b, X, W, S, C, own, st, h => by
  obtain ⟨hcalm, h⟩ := coldS_ok C (k := frK S tg pair (ck it S).w (css b S)) h
  unfold frK at h
  split at h
  . simp only [Bool.and_eq_true] at h
    obtain ⟨⟨⟨h1, h2⟩, h3⟩, h4⟩ := h
    exact pz_fr own hcalm ((snd it X W S C).2.2 _ _ h1) (tg_pr h3) (tg_ok C hcalm h3) (sndSs XF b X W S C own _ h4) (notSet_ok h2 _)
  . cases h
 | .frn i is it b, X, W, S, C, own, st, h => (show False from Bool.false_ne_true h).elim
 | .for2 x j a b, X, W, S, C, own, st, h => (show False from Bool.false_ne_true h).elim
 | .whl c b, X, W, S, C, own, st, h => (show False from Bool.false_ne_true h).elim
 | .rai x es, X, W, S, C, own, st, h => (show False from Bool.false_ne_true h).elim
 | .tra i xs b su, X, W, S, C, own, st, h => (show False from Bool.false_ne_true h).elim
 | .tro xs b su, X, W, S, C, own, st, h => (show False from Bool.false_ne_true h).elim
 | .swp i k l e, X, W, S, C, own, st, h => (show False from Bool.false_ne_true h).elim
 | .nev, X, W, S, C, own, st, h => ⟨fun pins s σ H D I q => by
   obtain ⟨_, _, _, _, _, a⟩ := q
   exact a.elim⟩
 | .pas, X, W, S, C, own, st, h => (show False from Bool.false_ne_true h).elim
 | .brk, X, W, S, C, own, st, h => (show False from Bool.false_ne_true h).elim
 | .cnt, X, W, S, C, own, st, h => (show False from Bool.false_ne_true h).elim
theorem sndSs (XF : Xt) : ∀ (ms : List MS) (X : Cx) (W : WX) (S : Sx), Cok X W S G -> PassesOwn (model X.prog X.w) X.A X.env X.xe -> ∀ sts, css ms S sts = true -> PVS X W sts (sens G XF ms)
 | [], X, W, S, C, own, sts, h => by
  cases sts with
  | nil => exact pz_nil
  | cons _ _ => cases h
 | m :: ms, X, W, S, C, own, sts, h => by
  cases sts with
  | nil => cases h
  | cons st sts =>
   have h : (cs m S st && css ms S sts) = true := h
   rw [Bool.and_eq_true] at h
   exact pz_cons (sndS XF m X W S C own st h.1) (sndSs XF ms X W S C own sts h.2)
end
end
end Ev
set_option maxRecDepth 100000
namespace Ev
open PySem PySem.Spec PyProof.Rows L2
section
variable {P : Program} {w : World} {K : PySem.W.Frag} {mg : Str -> Option Value} {base : Heap}
abbrev gcx (P : Program) (w : World) (K : PySem.W.Frag) (mg : Str -> Option Value) (base : Heap) (N : List Str) (qual : Str) (scope : Scope) (f : Addr) (cd : Value) (A : Around) (outer : List PySem.Env) (s : Shared) (H : Hp) (E : XK) : Cx := cxOf (L2.CX P w) P w K mg base N qual scope f cd A outer s H E
theorem fn_g {k : Nat} {x qual : Str} {st : Stmt} {f : Addr} {fd : FuncData} {N ps : List Str} {sp : Sp} (Fd : L2.Fun K x qual st f fd) (S : FnScope N ps (defScope st)) (len : ∀ vs H Q E, sp vs H Q E -> vs.length = ps.length)
  (body : ∀ (cdv : Value) (A : Around) (outer : List PySem.Env) (s : Shared) (H : Hp) (vs : List V) (Q : VK) (E : XK), (∃ oc od fd osl, K.lookup f = some ⟨oc, od, .func fd, osl⟩ /\ fd.code = cdv) -> Room k (A.deeper (envOfC qual (defScope st) s.heap.objs.size f cdv)) -> A.guards = some [] -> sp vs H Q E ->
   ∃ t, PSs (gcx P w K mg base N qual (defScope st) f cdv A outer s H E) (defBody st) t /\ t { nx := fun _ H' => Q .non H', rt := Q } (start N vs) H) :
  FnG P w K mg base (k + 1) f fd ps sp := by
 obtain ⟨oc, od, kV, doc, pm, an, cdv, ct, osl, rfl, lk, hcd⟩ := Fd.ex
 refine ⟨len, fun A outer s H args us vs Q E hr hgd e0 hb r hsp => ?_⟩
 have hvl := len _ _ _ _ hsp
 have inK : K.In s.heap := e0.mod.kin.keeps fun b o e => (e0.bs b o e).1
 have nolim : s.heap.NoLimit := e0.mod.nolimit.keeps fun b o e => (e0.bs b o e).1
 have kinds : ∀ y ∈ ps.zip us, (defScope st).names.lookup y.1 = some .local \/ ((defScope st).names.lookup y.1 = some .cell /\ ((cellsFrom (s.heap.objs.size + 1) (defScope st).names []).lookup y.1).isSome = true) := by
  rintro ⟨n, v⟩ hy
  exact (S.par n (List.of_mem_zip hy).1).imp id fun q => ⟨q, PySem.W.cellsFrom_some _ _ _ (.inl q)⟩
 refine codeAny_call_function hr.depth (inK _ _ lk) rfl S.co S.gen rfl (PySem.W.codeRec_of inK hcd) (hb _ _ _ _ (wpAny_newFunctionEnv_cells S.kind kinds fun env he s1 x => ?_))
 subst he
 refine ⟨nolim.keeps x.toInCall.keep, codeAny_func ?_⟩
 obtain ⟨t, ht, hq⟩ := body cdv A outer s H vs Q E ⟨_, _, _, _, lk, rfl⟩ (hr.deeper _) hgd hsp
 have J0 : Inv (gcx P w K mg base N qual (defScope st) f cdv A outer s H E) [] (start N vs) H s1 := inv_start S hr.hd e0 hvl r x
 refine wpAny_mono (ht.run [] s1 (start N vs) H _ J0 hq) (fun fl s' hs => ?_) fun e s' hs => hs
 cases fl with
 | brk => exact (show False from hs.choose_spec.choose_spec.2).elim
 | cont => exact (show False from hs.choose_spec.choose_spec.2).elim
 | ret u =>
  obtain ⟨v, σ', H', J, rv, q⟩ := hs
  exact ⟨v, H', J.os, J.bare, J.base, J.hok, rv, q⟩
 | next =>
  obtain ⟨σ', H', J, q⟩ := hs
  exact ⟨V.non, H', J.os, J.bare, J.base, J.hok, rfl, q⟩
end
section
variable {K : PySem.W.Frag}
theorem slOf_l (c : C) : slOf .l c.d = some (.mu true false c) := by
 cases c with
 | lst _ => rfl
 | dct kvs =>
  show (decKv (kvs.map encKv)).map (fun k => Sl.mu true false (.dct k)) = _
  rw [dec_enc]
  rfl
 | obj cls fs =>
  show (decFs (fs.map encF)).map (fun fs => Sl.mu true false (.obj cls fs)) = _
  rw [decFs_enc]
  rfl
 | tr t =>
  show (trO t.enc).map (fun t => Sl.mu true false (.tr t)) = _
  rw [trO_enc]
  rfl
theorem ofStr_inj {f g : String} (h : Str.ofString f = Str.ofString g) : f = g := by
 rw [Str.ofString_eq_toList, Str.ofString_eq_toList] at h
 have h := congrArg (fun s : Str => s.cps.toList) h
 simp only [List.toList_toArray] at h
 have h2 : f.toList = g.toList := (List.map_inj_right fun a b q => Char.ext (UInt32.toNat_inj.mp q)).mp h
 exact String.toList_inj.mp h2
theorem slOf_d (f : String) : slOf .d (dfnD f) = some (.fnc f) := by
 show fnO (Str.ofString f) = _
 have h : ∃ g : String, Str.ofString g = Str.ofString f := ⟨f, rfl⟩
 unfold fnO
 rw [dif_pos h, ofStr_inj h.choose_spec]
theorem start_slot {F H : Hp} {LS : List Addr} (L : Fr) (hb : L.b = cut H LS) : ∀ {ms : List Mo} {vs : List V} {ds : List D} {cs : List C} {e : Env}, ArgsOk K F H LS ms vs ds cs -> startE ms ds = some e -> (∀ i a, ms[i]? = some .l -> vs[i]? = some (.ref a) -> L.l i = some a) ->
  e.length = ms.length /\ vs.length = ms.length /\ (∀ i s, e[i]? = some s -> SlOk K L (cut H LS) F H i (vs[i]?) s) /\
   (∀ (i : Nat) (t k : Bool) (c : C) (a x : Addr), e[i]? = some (.mu t k c) -> vs[i]? = some (.ref a) -> x ∈ ft H a c -> x ∈ ftl H (lents ms vs) cs) /\
   ((ftl H (lents ms vs) cs).Nodup -> ∀ (i j : Nat) (t k : Bool) (c : C) (a : Addr) (t' k' : Bool) (c' : C) (b x : Addr), i ≠ j -> e[i]? = some (.mu t k c) -> vs[i]? = some (.ref a) -> x ∈ ft H a c -> e[j]? = some (.mu t' k' c') -> vs[j]? = some (.ref b) -> x ∉ ft H b c') := by
 intro ms vs ds cs e h
 induction h generalizing e L with
 | nil =>
  intro he _
  cases he
  exact ⟨rfl, rfl, fun i s h => by simp at h, fun i t k c a x h => by simp at h, fun _ i j t k c a t' k' c' b x _ h => by simp at h⟩
 | @f ms v vs d ds cs h t ih =>
  intro he hl
  unfold startE at he
  simp only [slOf, Option.bind_some] at he
  cases hs : startE ms ds with
  | none => rw [hs] at he; cases he
  | some e2 =>
   rw [hs] at he
   cases he
   obtain ⟨q1, q2, q3, q4, q5⟩ := ih ⟨fun i => L.l (i + 1), L.b, L.xa, fun i => L.t (i + 1)⟩ hb hs fun i a h1 h2 => hl (i + 1) a (by simpa using h1) (by simpa using h2)
   have el : lents (Mo.f :: ms) (v :: vs) = lents ms vs := by cases v <;> rfl
   refine ⟨by simp [q1], by simp [q2], fun i s hi => ?_, fun i t k c a x h1 h2 h3 => ?_, fun nd i j t k c a t' k' c' b x hij h1 h2 h3 h4 h5 => ?_⟩
   . cases i with
     | zero =>
      simp at hi
      subst hi
      exact ⟨v, rfl, h⟩
     | succ i =>
      have p1 := q3 i s (by simpa using hi)
      cases s <;> exact p1
   . cases i with
     | zero => cases h1
     | succ i =>
      rw [el]
      exact q4 i t k c a x (by simpa using h1) (by simpa using h2) h3
   . rw [el] at nd
     cases i with
     | zero => cases h1
     | succ i =>
      cases j with
      | zero => cases h4
      | succ j => exact q5 nd i j t k c a t' k' c' b x (fun z => hij (congrArg (· + 1) z)) (by simpa using h1) (by simpa using h2) h3 (by simpa using h4) (by simpa using h5)
 | @b ms v vs d ds cs h t ih =>
  intro he hl
  unfold startE at he
  simp only [slOf, Option.bind_some] at he
  cases hs : startE ms ds with
  | none => rw [hs] at he; cases he
  | some e2 =>
   rw [hs] at he
   cases he
   obtain ⟨q1, q2, q3, q4, q5⟩ := ih ⟨fun i => L.l (i + 1), L.b, L.xa, fun i => L.t (i + 1)⟩ hb hs fun i a h1 h2 => hl (i + 1) a (by simpa using h1) (by simpa using h2)
   have el : lents (Mo.b :: ms) (v :: vs) = lents ms vs := by cases v <;> rfl
   refine ⟨by simp [q1], by simp [q2], fun i s hi => ?_, fun i t k c a x h1 h2 h3 => ?_, fun nd i j t k c a t' k' c' b x hij h1 h2 h3 h4 h5 => ?_⟩
   . cases i with
     | zero =>
      simp at hi
      subst hi
      exact ⟨v, rfl, by rw [hb]; exact h⟩
     | succ i =>
      have p1 := q3 i s (by simpa using hi)
      cases s <;> exact p1
   . cases i with
     | zero => cases h1
     | succ i =>
      rw [el]
      exact q4 i t k c a x (by simpa using h1) (by simpa using h2) h3
   . rw [el] at nd
     cases i with
     | zero => cases h1
     | succ i =>
      cases j with
      | zero => cases h4
      | succ j => exact q5 nd i j t k c a t' k' c' b x (fun z => hij (congrArg (· + 1) z)) (by simpa using h1) (by simpa using h2) h3 (by simpa using h4) (by simpa using h5)
 | @d ms a f vs ds cs h t ih =>
  intro he hl
  unfold startE at he
  rw [slOf_d] at he
  simp only [Option.bind_some] at he
  cases hs : startE ms ds with
  | none => rw [hs] at he; cases he
  | some e2 =>
   rw [hs] at he
   cases he
   obtain ⟨q1, q2, q3, q4, q5⟩ := ih ⟨fun i => L.l (i + 1), L.b, L.xa, fun i => L.t (i + 1)⟩ hb hs fun i a h1 h2 => hl (i + 1) a (by simpa using h1) (by simpa using h2)
   have el : lents (Mo.d :: ms) (V.ref a :: vs) = lents ms vs := rfl
   refine ⟨by simp [q1], by simp [q2], fun i s hi => ?_, fun i t k c a x h1 h2 h3 => ?_, fun nd i j t k c a t' k' c' b x hij h1 h2 h3 h4 h5 => ?_⟩
   . cases i with
     | zero =>
      simp at hi
      subst hi
      exact ⟨a, rfl, h⟩
     | succ i =>
      have p1 := q3 i s (by simpa using hi)
      cases s <;> exact p1
   . cases i with
     | zero => cases h1
     | succ i =>
      rw [el]
      exact q4 i t k c a x (by simpa using h1) (by simpa using h2) h3
   . rw [el] at nd
     cases i with
     | zero => cases h1
     | succ i =>
      cases j with
      | zero => cases h4
      | succ j => exact q5 nd i j t k c a t' k' c' b x (fun z => hij (congrArg (· + 1) z)) (by simpa using h1) (by simpa using h2) h3 (by simpa using h4) (by simpa using h5)
 | @l ms a c vs ds cs h hm t ih =>
  intro he hl
  unfold startE at he
  rw [slOf_l] at he
  simp only [Option.bind_some] at he
  cases hs : startE ms ds with
  | none => rw [hs] at he; cases he
  | some e2 =>
   rw [hs] at he
   cases he
   obtain ⟨q1, q2, q3, q4, q5⟩ := ih ⟨fun i => L.l (i + 1), L.b, L.xa, fun i => L.t (i + 1)⟩ hb hs fun i a h1 h2 => hl (i + 1) a (by simpa using h1) (by simpa using h2)
   have el : ftl H (lents (Mo.l :: ms) (V.ref a :: vs)) (c :: cs) = ft H a c ++ ftl H (lents ms vs) cs := rfl
   refine ⟨by simp [q1], by simp [q2], fun i s hi => ?_, fun i t k c' a' x h1 h2 h3 => ?_, fun nd i j t k c1 a1 t' k' c' b x hij h1 h2 h3 h4 h5 => ?_⟩
   . cases i with
     | zero =>
      simp at hi
      subst hi
      exact ⟨a, rfl, h, fun _ => hl 0 a rfl rfl⟩
     | succ i =>
      have p1 := q3 i s (by simpa using hi)
      cases s <;> exact p1
   . rw [el]
     cases i with
     | zero =>
      cases h1
      cases h2
      exact List.mem_append_left _ h3
     | succ i => exact List.mem_append_right _ (q4 i t k c' a' x (by simpa using h1) (by simpa using h2) h3)
   . rw [el] at nd
     obtain ⟨n1, n2, n3⟩ := List.nodup_append.mp nd
     cases i with
     | zero =>
      cases h1
      cases h2
      cases j with
      | zero => exact absurd rfl hij
      | succ j => exact fun z => n3 x h3 x (q4 j t' k' c' b x (by simpa using h4) (by simpa using h5) z) rfl
     | succ i =>
      cases j with
      | zero =>
       cases h4
       cases h5
       exact fun z => n3 x z x (q4 i t k c1 a1 x (by simpa using h1) (by simpa using h2) h3) rfl
      | succ j => exact q5 n2 i j t k c1 a1 t' k' c' b x (fun z => hij (congrArg (· + 1) z)) (by simpa using h1) (by simpa using h2) h3 (by simpa using h4) (by simpa using h5)
def lentAt (vs : List V) (i : Nat) : Option Addr := match vs[i]? with
 | some (.ref a) => some a
 | _ => none
theorem lentAt_of {vs : List V} {i : Nat} {a : Addr} (h : vs[i]? = some (.ref a)) : lentAt vs i = some a := by unfold lentAt; rw [h]
theorem sg_start {N : List Str} {vs : List V} (i : Nat) : sg (start N vs) i = vs[i]? := by
 unfold sg L2.start List.getD
 by_cases h : i < vs.length
 . rw [List.getElem?_append_left (by simpa using h), List.getElem?_map, List.getElem?_eq_getElem h]
   rfl
 . rw [List.getElem?_append_right (by simpa using h), List.getElem?_eq_none_iff.mpr (show vs.length <= i by omega), List.getElem?_replicate]
   split <;> rfl
theorem rel_start {F H : Hp} {N : List Str} {ms : List Mo} {vs : List V} {ds : List D} {cs : List C} {e : Env} (fh : Same F H) (td : TD F) (tb : Tbs K H) (fl : Full F H) (nd : (ftl H (lents ms vs) cs).Nodup) (ha : ArgsOk K F H (ftl H (lents ms vs) cs) ms vs ds cs) (he : startE ms ds = some e) (hN : ms.length <= N.length) :
  Rel K ⟨lentAt vs, cut H (ftl H (lents ms vs) cs), none, fun _ _ => none⟩ (cut H (ftl H (lents ms vs) cs)) F H (start N vs) (e ++ List.replicate (N.length - e.length) .un) := by
 obtain ⟨q1, q2, q3, q4, q5⟩ := start_slot (H := H) ⟨lentAt vs, cut H (ftl H (lents ms vs) cs), none, fun _ _ => none⟩ rfl ha he fun i a _ h => lentAt_of h
 have muL : ∀ {i : Nat} {t k : Bool} {c : C}, (e ++ List.replicate (N.length - e.length) Sl.un)[i]? = some (.mu t k c) -> e[i]? = some (.mu t k c) := by
  intro i t k c h
  by_cases hi : i < e.length
  . rwa [List.getElem?_append_left hi] at h
  . rw [List.getElem?_append_right (by omega), List.getElem?_replicate] at h
    split at h <;> cases h
 refine ⟨fh, fun b o hb => ?_, ?_, fun i s hi => ?_, fun i j x hij m1 m2 => ?_, Same.refl _, td, tb, fl, cut_gt _ _, fun _ _ _ z => nomatch z⟩
 . exact cut_sub b o hb
 . unfold L2.start
   simp [q1, q2]
 . rw [sg_start]
   by_cases hl : i < e.length
   . rw [List.getElem?_append_left hl] at hi
     exact q3 i s hi
   . rw [List.getElem?_append_right (by omega), List.getElem?_replicate] at hi
     split at hi
     . cases hi; trivial
     . cases hi
 . obtain ⟨t, k, c, a, h1, h2, h3⟩ := m1
   obtain ⟨t', k', c', b, g1, g2, g3⟩ := m2
   rw [sg_start] at h2 g2
   exact q5 nd i j t k c a t' k' c' b x hij (muL h1) h2 h3 (muL g1) g2 g3
theorem lent_end {G F H : Hp} {σ : L2.St} {e : Env} {vs0 : List V} (r : Rel K ⟨lentAt vs0, G, none, fun _ _ => none⟩ G F H σ e) : ∀ {ms : List Mo} {vs : List V} {k : Nat} {cs : List C}, (∀ i, vs[i]? = vs0[k + i]?) -> vs.length = ms.length -> lentOf ms k e = some cs ->
  LentOk K G F H (lents ms vs) cs /\ (ftl H (lents ms vs) cs).Nodup /\ ∀ x ∈ ftl H (lents ms vs) cs, ∃ i, k <= i /\ hasF H σ e i x
 | [], vs, k, cs, hv, hl, h => by
  cases h
  exact ⟨.nil, List.nodup_nil, fun a ha => by simp [lents, ftl] at ha⟩
 | m :: ms, [], k, cs, hv, hl, h => by simp at hl
 | m :: ms, v :: vs, k, cs, hv, hl, h => by
  have hv' : ∀ i, vs[i]? = vs0[k + 1 + i]? := fun i => by
   have := hv (i + 1)
   rw [List.getElem?_cons_succ] at this
   rw [this]
   congr 1
   omega
  have hl' : vs.length = ms.length := by simpa using hl
  cases m with
  | d =>
   have h : lentOf ms (k + 1) e = some cs := h
   obtain ⟨q1, q2, q3⟩ := lent_end r hv' hl' h
   have el : lents (Mo.d :: ms) (v :: vs) = lents ms vs := by cases v <;> rfl
   rw [el]
   exact ⟨q1, q2, fun x hx => by
    obtain ⟨i, h1, h2⟩ := q3 x hx
    exact ⟨i, by omega, h2⟩⟩
  | f =>
   have h : lentOf ms (k + 1) e = some cs := h
   obtain ⟨q1, q2, q3⟩ := lent_end r hv' hl' h
   have el : lents (Mo.f :: ms) (v :: vs) = lents ms vs := by cases v <;> rfl
   rw [el]
   exact ⟨q1, q2, fun x hx => by
    obtain ⟨i, h1, h2⟩ := q3 x hx
    exact ⟨i, by omega, h2⟩⟩
  | b =>
   have h : lentOf ms (k + 1) e = some cs := h
   obtain ⟨q1, q2, q3⟩ := lent_end r hv' hl' h
   have el : lents (Mo.b :: ms) (v :: vs) = lents ms vs := by cases v <;> rfl
   rw [el]
   exact ⟨q1, q2, fun x hx => by
    obtain ⟨i, h1, h2⟩ := q3 x hx
    exact ⟨i, by omega, h2⟩⟩
  | l =>
   unfold lentOf at h
   split at h
   . rename_i c he
     cases hc : lentOf ms (k + 1) e with
     | none => rw [hc] at h; cases h
     | some cs2 =>
      rw [hc] at h
      cases h
      obtain ⟨q1, q2, q3⟩ := lent_end r hv' hl' hc
      obtain ⟨a, e1, ow, lk⟩ := r.sl k _ he
      have e2 : lentAt vs0 k = some a := lk (.inl rfl)
      have e3 := hv 0
      rw [List.getElem?_cons_zero, Nat.add_zero] at e3
      unfold lentAt at e2
      rw [<- e3] at e2
      cases v <;> simp only [reduceCtorEq, Option.some.injEq] at e2
      subst e2
      refine ⟨.cons ow q1, List.nodup_append.mpr ⟨ow.nd, q2, fun x hx y hy z => ?_⟩, fun x hx => ?_⟩
      . subst z
        obtain ⟨i, h1, h2⟩ := q3 x hy
        exact r.ap k i x (by omega) ⟨_, _, _, _, he, e1, hx⟩ h2
      . rcases List.mem_append.mp hx with hx | hx
        . exact ⟨k, Nat.le_refl _, _, _, _, _, he, e1, hx⟩
        . obtain ⟨i, h1, h2⟩ := q3 x hx
          exact ⟨i, by omega, h2⟩
   . cases h
end
def dfOk (BN : List String) (GL : List (String × D)) (KB : List KbE) (d : Df) (st : Stmt) : Bool :=
 decide ((defScope st).kind = .function) && !(defScope st).isCoroutine && !(defScope st).isGenerator && decide ((d.N.map T).Nodup) && decide ((d.N.map T).take d.ps.length = d.ps.map T) &&
 ((d.ps.map T).all fun x => (defScope st).names.lookup x == some .local || (defScope st).names.lookup x == some .cell) && ((defScope st).names.all fun y => y.2 != .free) &&
 decide (d.mo.length = d.ps.length) && decide (d.ps.length <= d.N.length) && css d.body ⟨d.N.map T, defScope st, none, BN, GL, KB, false, false, lamDefs.contains d.name⟩ (defBody st)
section
variable {P : Program} {w : World} {K : PySem.W.Frag} {mg : Str -> Option Value} {base : Heap} {BN : List String} {GL : List (String × D)} {KB : List KbE} {XF : Xt}
theorem dfOk_sc {d : Df} {st : Stmt} (h : dfOk BN GL KB d st = true) : FnScope (d.N.map T) (d.ps.map T) (defScope st) /\ d.mo.length = d.ps.length /\ d.ps.length <= d.N.length /\ css d.body ⟨d.N.map T, defScope st, none, BN, GL, KB, false, false, lamDefs.contains d.name⟩ (defBody st) = true := by
 simp only [dfOk, Bool.and_eq_true, decide_eq_true_eq, Bool.not_eq_true'] at h
 obtain ⟨⟨⟨⟨⟨⟨⟨⟨⟨h1, h2⟩, h3⟩, h4⟩, h5⟩, h6⟩, h7⟩, h8⟩, h9⟩, h10⟩ := h
 refine ⟨⟨h1, h2, h3, h4, by rw [List.length_map]; exact h5, fun x hx => ?_, fun y hy => ?_⟩, h8, h9, h10⟩
 . have := (List.all_eq_true.mp h6) x hx
   simpa using this
 . have := (List.all_eq_true.mp h7) y hy
   simpa using this
structure Names (K : PySem.W.Frag) (mg : Str -> Option Value) (BN : List String) (GL : List (String × D)) : Prop where
 bn : ∀ x ∈ BN, mg (T x) = none
 gl : ∀ p ∈ GL, ∃ u v, mg (T p.1) = some u /\ RelV v u /\ Dp K (fun _ => none) v p.2
 kt : ktB K = true
theorem kt_of {K : PySem.W.Frag} {h : Heap} (X : K.In h) (hk : ktB K = true) : ktB K = true := hk
structure TabsOk (K : PySem.W.Frag) (mg : Str -> Option Value) (base : Heap) : Prop where
 tb : ∀ p ∈ cds K, LamX.TabB base mg p.1 p.2.1
 un : ∀ p ∈ tabs K, ∀ q ∈ tabs K, p.1 = q.1 -> p.2 = q.2
 at' : ∀ n ∈ lamDefs, ∀ f oc od fd osl, mg (T n) = some (.ref f) -> K.lookup f = some ⟨oc, od, .func fd, osl⟩ -> ∃ c P, fd.code = .ref c /\ (c, P, lamQ n) ∈ cds K
structure Fns (P : Program) (w : World) (K : PySem.W.Frag) (mg : Str -> Option Value) (base : Heap) (KB : List KbE) (k : Nat) (G : Gm) : Prop where
 fns : ∀ f ms φ, G.fn f = some (ms, φ) -> ∃ a, mg (T f) = some (.ref a) /\ PySem.W.keepIn K (.ref a) = true /\ CalOk P w K mg base KB k f a ms φ
 fks : ∀ f ms φ, G.fk f = some (ms, φ) -> ∃ a, mg (T f) = some (.ref a) /\ PySem.W.keepIn K (.ref a) = true /\ CalKOk P w K mg base KB k f a ms φ
 kn : ∀ x ∈ G.kn, ∃ C, mg (T x) = some (.ref C)
 xc : ∀ x, G.xc x ≠ [] -> XcOk P w K mg base x (G.xc x)
 sub : ∀ c x b, G.sub c x = some b -> SubOk K mg c x b
 fld : ∀ c f, G.fld c f = true -> FldOk K mg c f
 fn1 : ∀ f ms φ, G.fn1 f = some (ms, φ) -> ∃ a, mg (T f) = some (.ref a) /\ PySem.W.keepIn K (.ref a) = true /\ CalOk P w K mg base KB (k - 1) f a ms φ
 fk1 : ∀ f ms φ, G.fk1 f = some (ms, φ) -> ∃ a, mg (T f) = some (.ref a) /\ PySem.W.keepIn K (.ref a) = true /\ CalKOk P w K mg base KB (k - 1) f a ms φ
 fls : ∀ f ms φ, G.fl f = some (ms, φ) -> ∃ a, mg (T f) = some (.ref a) /\ PySem.W.keepIn K (.ref a) = true /\ CalOk P w K mg base KB (k - 2) f a ms φ
 fkls : ∀ f ms φ, G.fkl f = some (ms, φ) -> ∃ a, mg (T f) = some (.ref a) /\ PySem.W.keepIn K (.ref a) = true /\ CalKOk P w K mg base KB (k - 2) f a ms φ
 lms : ∀ h, (∃ t, G.lm h t ≠ .bad) -> 4 <= k /\ HdOk P w K mg base (k - 1) h (G.lm h)
 mts : ∀ c m ms φ, G.mt c m = some (ms, φ) -> MetOk P w K mg base (k - 1) c m ms φ
 mt1s : ∀ c m ms φ, G.mt1 c m = some (ms, φ) -> MetOk P w K mg base k c m ms φ
 atr : ∀ c f, G.atr c f = true -> ∃ C, OCls K mg c C /\ NoAttr K C (Str.ofString f)
 tb : ∀ g tbl, G.tb g = some tbl -> TbAt K w g tbl
theorem Fns.met {k : Nat} {G : Gm} (Fs : Fns P w K mg base KB k G) {A : Around} (h2 : 2 <= k) (hr : Room k A) : ∀ c m ms φ, G.mt c m = some (ms, φ) -> ∃ k', Room (k' + 1) A /\ MetOk P w K mg base k' c m ms φ := fun c m ms φ h => ⟨k - 1, by rw [show k - 1 + 1 = k by omega]; exact hr, Fs.mts c m ms φ h⟩
theorem df_body {d : Df} {st : Stmt} (TO : TabsOk K mg base) (Nm : Names K mg BN GL) (hd : dfOk BN GL KB d st = true) {k : Nat} (h2 : 2 <= k) {G : Gm} (Fs : Fns P w K mg base KB k G) {qual : Str} {f : Addr} (cdv : Value) (hqm : d.name ∈ lamDefs -> qual = T d.name /\ mg (T d.name) = some (.ref f)) (hcd : ∃ oc od fd osl, K.lookup f = some ⟨oc, od, .func fd, osl⟩ /\ fd.code = cdv) (A : Around) (outer : List PySem.Env) (s : Shared) (H : Hp) (vs : List V) (Q : VK) (E : XK)
  (hr : Room k (A.deeper (envOfC qual (defScope st) s.heap.objs.size f cdv))) (hgd : A.guards = some []) (sp : FSp K mg d.mo (runD G XF d) vs H Q E) :
  ∃ t, PSs (gcx P w K mg base (d.N.map T) qual (defScope st) f cdv A outer s H E) (defBody st) t /\ t { nx := fun _ H' => Q .non H', rt := Q } (start (d.N.map T) vs) H := by
 obtain ⟨S, hm, hN, hc⟩ := dfOk_sc hd
 have ok : Ok (gcx P w K mg base (d.N.map T) qual (defScope st) f cdv A outer s H E) (fun cls dd _ H' => E cls dd H') BN GL KB G :=
  ⟨S.nd, by have := hr.un; show (A.deeper _).units + 100 < cLine; omega, hgd, Nm.bn, Nm.gl, takes_of rfl rfl rfl rfl, fun _ x hx => ⟨hr.mono h2, Fs.xc x hx⟩, Fs.sub, Fs.fld, fun _ f ms φ hf => by
   obtain ⟨a, q1, q2, q3⟩ := Fs.fns f ms φ hf
   exact ⟨k, a, hr, q1, q2, q3⟩, fun _ f ms φ hf => by
   obtain ⟨a, q1, q2, q3⟩ := Fs.fks f ms φ hf
   exact ⟨k, a, hr, q1, q2, q3⟩, Fs.kn, Nm.kt, fun _ => Fs.met h2 hr, Fs.atr, Fs.tb⟩
 have CC : Cok (gcx P w K mg base (d.N.map T) qual (defScope st) f cdv A outer s H E) (fun cls dd _ H' => E cls dd H') ⟨d.N.map T, defScope st, none, BN, GL, KB, false, false, lamDefs.contains d.name⟩ G := by
  refine ⟨rfl, rfl, fun _ _ => rfl, S.kind, ok, fun _ => rfl, (fun z => by cases z), fun _ => ⟨rfl, rfl⟩, (fun z => by cases z), fun hl => ?_⟩
  have hl : d.name ∈ lamDefs := by
   have : lamDefs.contains d.name = true := hl
   simpa using this
  obtain ⟨hq, hmf⟩ := hqm hl
  obtain ⟨oc, od, fd, osl, e1, e2⟩ := hcd
  obtain ⟨c, P', e3, e4⟩ := TO.at' _ hl f oc od fd osl hmf e1
  have hmem : (P', lamQ d.name) ∈ tabs K := List.mem_map.mpr ⟨(c, P', lamQ d.name), e4, rfl⟩
  subst hq
  have eq : (gcx P w K mg base (d.N.map T) (T d.name) (defScope st) f cdv A outer s H E).env.qual ++ ("<lambda>" : Str) = lamQ d.name := by unfold lamQ; rfl
  refine ⟨⟨c, P', e2.symm.trans e3, TO.tb _ e4, by rw [eq]; exact hmem, fun p hp e => by rw [eq]; exact TO.un p hp _ hmem e⟩, fun h hb => ?_⟩
  obtain ⟨k4, Hd⟩ := Fs.lms h hb
  refine ⟨k - 2, by omega, ?_, ?_, Fs.fls, Fs.fkls⟩
  . rw [show k - 2 + 2 = k by omega]
    exact hr
  . rw [show k - 2 + 1 = k - 1 by omega]
    exact Hd
 have own : PassesOwn (model P w) (gcx P w K mg base (d.N.map T) qual (defScope st) f cdv A outer s H E).A (gcx P w K mg base (d.N.map T) qual (defScope st) f cdv A outer s H E).env (gcx P w K mg base (d.N.map T) qual (defScope st) f cdv A outer s H E).xe :=
  passes_of (X := gcx P w K mg base (d.N.map T) qual (defScope st) f cdv A outer s H E) (K := fun e s'' => L2.CX P w outer H s E e s'') rfl
 refine ⟨_, sndSs XF d.body _ _ _ CC own _ hc, ?_⟩
 obtain ⟨hl, F, ds, cs0, fh, td, tb, fll, nd, ha, q⟩ := sp
 unfold runD at q
 cases he : startE d.mo ds with
 | none => rw [he] at q; exact q.elim
 | some e =>
  rw [he] at q
  dsimp only at q
  have r := rel_start (N := d.N.map T) fh td tb fll nd ha he (by rw [List.length_map, hm]; exact hN)
  rw [List.length_map] at r
  refine ⟨⟨⟨lentAt vs, cut H (ftl H (lents d.mo vs) cs0), none, fun _ _ => none⟩, fun z => nomatch z⟩, cut H (ftl H (lents d.mo vs) cs0), F, _, r, ?_⟩
  have ends : ∀ {e1 : Env} {cs : List C} {σ' : L2.St} {F' H' : Hp}, lentOf d.mo 0 e1 = some cs -> Rel K ⟨lentAt vs, cut H (ftl H (lents d.mo vs) cs0), none, fun _ _ => none⟩ (cut H (ftl H (lents d.mo vs) cs0)) F' H' σ' e1 -> Step (cut H (ftl H (lents d.mo vs) cs0)) F F' ->
    Aft K (cut H (ftl H (lents d.mo vs) cs0)) F F' H' (lents d.mo vs) cs /\ ∀ x ∈ ftl H' (lents d.mo vs) cs, ∃ i, hasF H' σ' e1 i x := by
   intro e1 cs σ' F' H' hcs r1 st1
   obtain ⟨q1, q3, q2⟩ := lent_end r1 (fun i => by rw [Nat.zero_add]) hl hcs
   exact ⟨⟨q3, st1.s, r1.fh, r1.gh, st1.g, r1.td, q1, r1.nw.tb, r1.nw.fl⟩, fun x hx => by
    obtain ⟨i, _, h⟩ := q2 x hx
    exact ⟨i, h⟩⟩
  have ret : ∀ {rr : R} {e1 : Env}, (match fin d.mo rr e1 with
    | .bad => False
    | .ret d' cs => ∀ v F' H', Aft K (cut H (ftl H (lents d.mo vs) cs0)) F F' H' (lents d.mo vs) cs -> Dp K F' v d' -> Q v H'
    | .fresh c cs => ∀ p F' H', Aft K (cut H (ftl H (lents d.mo vs) cs0)) F F' H' (lents d.mo vs) cs -> Own K (cut H (ftl H (lents d.mo vs) cs0)) F' H' p c -> (∀ x ∈ ft H' p c, x ∉ ftl H' (lents d.mo vs) cs) -> Q (.ref p) H'
    | .exc x cs => ∀ cls dd F' H', Aft K (cut H (ftl H (lents d.mo vs) cs0)) F F' H' (lents d.mo vs) cs -> XOk K mg F' H' x cls dd -> E cls dd H') ->
    ∀ v σ' F' H', Rel K ⟨lentAt vs, cut H (ftl H (lents d.mo vs) cs0), none, fun _ _ => none⟩ (cut H (ftl H (lents d.mo vs) cs0)) F' H' σ' e1 -> Step (cut H (ftl H (lents d.mo vs) cs0)) F F' -> ROk K (cut H (ftl H (lents d.mo vs) cs0)) F' H' σ' e1 rr v -> Q v H' := by
   intro rr e1 hq v σ' F' H' r1 st1 p1
   unfold fin at hq
   cases hcs : lentOf d.mo 0 e1 with
   | none => rw [hcs] at hq; exact hq.elim
   | some cs =>
    rw [hcs] at hq
    obtain ⟨q1, q2⟩ := ends hcs r1 st1
    cases rr with
    | val d' => exact hq v F' H' q1 p1
    | slot i => exact hq.elim
    | fresh c =>
     obtain ⟨p, rfl, ow, n⟩ := p1
     refine hq p F' H' q1 ow fun x hx hm => ?_
     obtain ⟨i, hi⟩ := q2 x hm
     exact n i x hx hi
  cases hb : sens G XF d.body (e ++ List.replicate (d.N.length - e.length) .un) with
  | bad => rw [hb] at q; exact q.elim
  | exc x e1 =>
   rw [hb] at q
   dsimp only at q
   cases hcs : lentOf d.mo 0 e1 with
   | none => rw [hcs] at q; exact q.elim
   | some cs =>
    rw [hcs] at q
    intro cls dd σ' F' H' r1 st1 p1
    exact q cls dd F' H' (ends hcs r1 st1).1 p1
  | ok fl e1 =>
   rw [hb] at q
   cases fl with
   | nx =>
    intro σ' F' H' r1 st1
    exact ret (rr := .val .none) q .non σ' F' H' r1 st1 .non
   | rt rr => exact ret q
   | br => exact q.elim
   | ct => exact q.elim
structure DefOk (K : PySem.W.Frag) (mg : Str -> Option Value) (BN : List String) (GL : List (String × D)) (KB : List KbE) (d : Df) (st : Stmt) (f : Addr) (fd : FuncData) : Prop where
 fn : L2.Fun K (T d.name) (T d.name) st f fd
 at' : mg (T d.name) = some (.ref f)
 bd : ∃ ds dvs, Binds K fd (d.ps.map T) ds /\ Vals dvs ds /\ ∀ F, DpAll K F dvs d.df
 ok : dfOk BN GL KB d st = true
 kb : KbOk K KB d.name fd (d.ps.map T)
 mo : d.mo = d.mo.take (d.mo.length - d.df.length) ++ List.replicate d.df.length .b
 fa : FnAt K d.name f
theorem bd_of {K : PySem.W.Frag} {fd : FuncData} {ps : List Str} {d : Df} (h : Binds K fd ps []) (e : d.df = []) : ∃ ds dvs, Binds K fd ps ds /\ Vals dvs ds /\ ∀ F, DpAll K F dvs d.df := ⟨[], [], h, .nil, fun _ => by rw [e]; exact .nil⟩
theorem lents_app : ∀ (ms : List Mo) (vs : List V) (n : Nat) (ws : List V), vs.length = ms.length -> lents (ms ++ List.replicate n .b) (vs ++ ws) = lents ms vs
 | [], [], n, ws, _ => by
  show lents (List.replicate n .b) ws = []
  induction n generalizing ws with
  | zero => cases ws <;> rfl
  | succ n ih =>
   cases ws with
   | nil => rfl
   | cons w ws => exact ih ws
 | m :: ms, v :: vs, n, ws, h => by
  have ih := lents_app ms vs n ws (by simpa using h)
  cases m with
  | f => exact ih
  | d => exact ih
  | b => exact ih
  | l =>
   cases v with
   | ref a => exact congrArg (a :: ·) ih
   | _ => exact ih
 | [], _ :: _, _, _, h => by cases h
 | _ :: _, [], _, _, h => by cases h
theorem args_b {K : PySem.W.Frag} {F H : Hp} {ls : List Addr} : ∀ {ws : List V} {es : List D}, DpAll K F ws es -> ArgsOk K F H ls (List.replicate es.length .b) ws es []
 | [], [], _ => .nil
 | _ :: _, _ :: _, .cons h t => .b (.inl h) (args_b t)
theorem args_app {K : PySem.W.Frag} {F H : Hp} {ls : List Addr} : ∀ {ms : List Mo} {vs : List V} {ds : List D} {cs : List C} {ws : List V} {es : List D}, ArgsOk K F H ls ms vs ds cs -> DpAll K F ws es -> ArgsOk K F H ls (ms ++ List.replicate es.length .b) (vs ++ ws) (ds ++ es) cs
 | _, _, _, _, ws, es, .nil, h => by
  exact args_b h
 | _, _, _, _, _, _, .f a t, h => .f a (args_app t h)
 | _, _, _, _, _, _, .b a t, h => .b a (args_app t h)
 | _, _, _, _, _, _, .l a b t, h => .l a b (args_app t h)
 | _, _, _, _, _, _, .d a t, h => .d a (args_app t h)
theorem fsp_app {K : PySem.W.Frag} {mg : Str -> Option Value} {ms : List Mo} {φ : List D -> FRes} {df : List D} {dvs vs : List V} {H : Hp} {Q : VK} {E : XK} (hd : ∀ F, DpAll K F dvs df) (h : FSp K mg ms (fun ds => φ (ds ++ df)) vs H Q E) : FSp K mg (ms ++ List.replicate df.length .b) φ (vs ++ dvs) H Q E := by
 obtain ⟨hl, F, ds, cs0, fh, td, tb, fll, nd, ha, q⟩ := h
 have el := lents_app ms vs df.length dvs hl
 have hdl := dps_len (hd F)
 refine ⟨by rw [List.length_append, List.length_append, List.length_replicate, hl, hdl], F, ds ++ df, cs0, fh, td, tb, fll, by rw [el]; exact nd, by rw [el]; exact args_app ha (hd F), ?_⟩
 rw [el]
 exact q
theorem find_name {Tb : List Df} {f : String} {d : Df} (h : (Tb.find? fun d => d.name == f) = some d) : d ∈ Tb /\ d.name = f := by
 refine ⟨List.mem_of_find?_eq_some h, ?_⟩
 simpa using List.find?_some h
def hdOk (BN : List String) (GL : List (String × D)) (KB : List KbE) (d : Hd) (st : Stmt) : Bool :=
 decide ((defScope st).kind = .function) && !(defScope st).isCoroutine && !(defScope st).isGenerator && decide ((d.N.map T).Nodup) && decide ((d.N.map T).take 1 = [T d.par]) &&
 ((defScope st).names.lookup (T d.par) == some .local) && ((defScope st).names.all fun y => y.2 != .free) && decide (1 <= d.N.length) && !dbg (T d.par) &&
 css d.body ⟨d.N.map T, defScope st, none, BN, GL, KB, false, true, false⟩ (defBody st)
structure HdDef (K : PySem.W.Frag) (mg : Str -> Option Value) (BN : List String) (GL : List (String × D)) (KB : List KbE) (d : Hd) (st : Stmt) (f : Addr) (fd : FuncData) : Prop where
 fn : L2.Fun K (T d.name) (T d.name) st f fd
 at' : mg (T d.name) = some (.ref f)
 bd : Binds K fd [T d.par] []
 ok : hdOk BN GL KB d st = true
theorem hd_body {d : Hd} {st : Stmt} {f0 : Addr} {fd : FuncData} (Nm : Names K mg BN GL) (HD : HdDef K mg BN GL KB d st f0 fd) {k : Nat} (h2 : 2 <= k) {G : Gm} (Fs : Fns P w K mg base KB k G) : HdOk P w K mg base k d.name (fun t => lmOf G XF d t) := by
 obtain ⟨oc, od, kV, doc, pm, an, cdv, ct, osl, rfl, lk, hcd⟩ := HD.fn.ex
 have hok := HD.ok
 simp only [hdOk, Bool.and_eq_true, decide_eq_true_eq, beq_iff_eq, Bool.not_eq_true'] at hok
 obtain ⟨⟨⟨⟨⟨⟨⟨⟨⟨c1, c2⟩, c3⟩, c4⟩, c5⟩, c6⟩, c7⟩, c8⟩, c9⟩, c10⟩ := hok
 have S : FnScope (d.N.map T) [T d.par] (defScope st) := ⟨c1, c2, c3, c4, c5, fun x hx => by rw [List.mem_singleton.mp hx]; exact .inl c6, fun y hy => by
  have := (List.all_eq_true.mp c7) y hy
  simpa using this⟩
 have hN0 : (d.N.map T)[0]? = some (T d.par) := by
  have := congrArg (fun l : List Str => l[0]?) c5
  rw [List.getElem?_take] at this
  simpa using this
 obtain ⟨d1, d2, _⟩ := dbg_ok (x := T d.par) (by rw [c9]; rfl)
 refine ⟨f0, T d.par, d.N.map T, defArgs st, defBody st, defScope st, .none, kV, doc, pm, cdv, ct, oc, an, od, osl, HD.at', HD.fn.kp, lk, hcd, HD.bd, S, hN0, .inl c6, d1, d2, fun A outer s H F Q f t hr hgd hask hsp => ?_⟩
 have ok : Ok (cxOf C8.CX0 P w K mg base (d.N.map T) (T d.name) (defScope st) f0 cdv A outer s H C8.E0).nox W0 BN GL KB { G with ask := some ((f, F), t) } :=
  ⟨S.nd, by have := hr.un; show (A.deeper _).units + 100 < cLine; omega, hgd, Nm.bn, Nm.gl, takes0, fun _ x hx => ⟨hr.mono h2, Fs.xc x hx⟩, Fs.sub, Fs.fld, fun _ f ms φ hf => by
   obtain ⟨a, q1, q2, q3⟩ := Fs.fns f ms φ hf
   exact ⟨k, a, hr, q1, q2, q3⟩, fun _ f ms φ hf => by
   obtain ⟨a, q1, q2, q3⟩ := Fs.fks f ms φ hf
   exact ⟨k, a, hr, q1, q2, q3⟩, Fs.kn, Nm.kt, fun _ => Fs.met h2 hr, Fs.atr, Fs.tb⟩
 have CC : Cok (cxOf C8.CX0 P w K mg base (d.N.map T) (T d.name) (defScope st) f0 cdv A outer s H C8.E0).nox W0 ⟨d.N.map T, defScope st, none, BN, GL, KB, false, true, false⟩ { G with ask := some ((f, F), t) } :=
  ⟨rfl, rfl, fun _ _ => rfl, S.kind, ok, fun _ => rfl, (fun z => by cases z), fun _ => ⟨rfl, rfl⟩, (fun _ f' t' he => by cases he; exact hask), (fun z => by cases z)⟩
 refine ⟨_, sndSs XF d.body _ _ _ CC PassesOwn.never _ c10, ?_⟩
 obtain ⟨fh, td, tb, fl, q⟩ := hsp
 have hq : ∃ r, runH G XF d (f, F) t = r /\ (match r with
   | .ret d [] => ∀ v F' H', Aft K (cut H []) F F' H' [] [] -> Dp K F' v d -> Q v H'
   | .fresh c [] => ∀ p F' H', Aft K (cut H []) F F' H' [] [] -> Own K (cut H []) F' H' p c -> Q (.ref p) H'
   | _ => False) := by
  dsimp only at q
  by_cases hex : ∃ r, ∀ f, runH G XF d f t = r
  . have e : lmOf G XF d t = hex.choose := dif_pos hex
    rw [e] at q
    exact ⟨_, hex.choose_spec (f, F), q⟩
  . have e : lmOf G XF d t = .bad := dif_neg hex
    rw [e] at q
    exact q.elim
 obtain ⟨r, hr1, q⟩ := hq
 have rel : Rel K ⟨fun _ => none, cut H [], none, fun _ _ => none⟩ (cut H []) F H (start (d.N.map T) [.ref f]) (.th (f, F) :: List.replicate (d.N.length - 1) .un) := by
  have s0 : ∀ i, sg (start (d.N.map T) [.ref f]) i = ([V.ref f] : List V)[i]? := fun i => sg_start i
  have nomu : ∀ i, ¬ isMu (Sl.th (f, F) :: List.replicate (d.N.length - 1) .un) i := fun i ⟨t, k, c, h⟩ => by
   cases i with
   | zero => cases h
   | succ i =>
    rw [List.getElem?_cons_succ, List.getElem?_replicate] at h
    split at h <;> cases h
  refine ⟨fh, cut_sub, ?_, fun i s hi => ?_, fun i j a _ m _ => by obtain ⟨t, k, c, _, h, _⟩ := m; exact nomu i ⟨t, k, c, h⟩, Same.refl _, td, tb, fl, cut_gt _ _, fun _ _ _ z => nomatch z⟩
  . unfold L2.start
    simp
  . rw [s0]
    cases i with
    | zero => cases hi; exact ⟨rfl, Same.refl F⟩
    | succ i =>
     rw [List.getElem?_cons_succ, List.getElem?_replicate] at hi
     split at hi
     . cases hi; trivial
     . cases hi
 refine ⟨⟨⟨fun _ => none, cut H [], none, fun _ _ => none⟩, fun z => nomatch z⟩, cut H [], F, _, rel, ?_⟩
 have aft : ∀ {F' H' : Hp} {σ' : L2.St} {e' : Env}, Rel K ⟨fun _ => none, cut H [], none, fun _ _ => none⟩ (cut H []) F' H' σ' e' -> Step (cut H []) F F' -> Aft K (cut H []) F F' H' [] [] := fun rr st => ⟨List.nodup_nil, st.s, rr.fh, rr.gh, st.g, rr.td, .nil, rr.nw.tb, rr.nw.fl⟩
 subst hr1
 unfold runH at q
 cases hb : sens { G with ask := some ((f, F), t) } XF d.body (.th (f, F) :: List.replicate (d.N.length - 1) .un) with
 | bad => rw [hb] at q; exact q.elim
 | exc x e1 => rw [hb] at q; exact q.elim
 | ok fl e1 =>
  rw [hb] at q
  cases fl with
  | nx =>
   intro σ' F' H' r1 st1
   exact q .non F' H' (aft r1 st1) .non
  | rt rr =>
   cases rr with
   | val d' => exact fun v σ' F' H' r1 st1 p1 => q v F' H' (aft r1 st1) p1
   | slot i => exact q.elim
   | fresh c =>
    intro v σ' F' H' r1 st1 p1
    obtain ⟨p, rfl, ow, _⟩ := p1
    exact q p F' H' (aft r1 st1) ow
  | br => exact q.elim
  | ct => exact q.elim
structure MetDef (K : PySem.W.Frag) (mg : Str -> Option Value) (BN : List String) (GL : List (String × D)) (KB : List KbE) (cls : String) (d : Df) (C : Addr) (st : Stmt) (f : Addr) (fd : FuncData) (qual : Str) : Prop where
 oc : OCls K mg (Str.ofString cls) C
 me : Meth K C (Str.ofString d.name) f
 fn : L2.Fun K (T d.name) qual st f fd
 bd : Binds K fd (d.ps.map T) []
 ok : dfOk BN GL KB d st = true
 nl : d.name ∉ lamDefs
theorem all_fns {Tb : List Df} (TO : TabsOk K mg base) (Nm : Names K mg BN GL) (hh : ∀ d ∈ XF.hds, ∃ st f fd, HdDef K mg BN GL KB d st f fd) (h : ∀ d ∈ Tb, ∃ st f fd, DefOk K mg BN GL KB d st f fd)
  (xk : ∀ x, XF.xc x ≠ [] -> XcOk P w K mg base x (XF.xc x)) (sk : ∀ c x b, XF.sub c x = some b -> SubOk K mg c x b) (fk : ∀ c f, XF.fld c f = true -> FldOk K mg c f) (kk : ∀ x ∈ XF.kn, ∃ C, mg (T x) = some (.ref C)) (mh : ∀ p ∈ XF.mts, ∃ C st f fd q, MetDef K mg BN GL KB p.1 p.2 C st f fd q) (ak : ∀ c f, XF.atr c f = true -> ∃ C, OCls K mg c C /\ NoAttr K C (Str.ofString f)) (bk : ∀ g tbl, XF.tb g = some tbl -> TbAt K w g tbl) : ∀ k : Nat, Fns P w K mg base KB (k + 2) (gm Tb XF k)
 | 0 => ⟨fun f ms φ hf => (by cases hf), fun f ms φ hf => (by cases hf), kk, xk, sk, fk, fun f ms φ hf => (by cases hf), fun f ms φ hf => (by cases hf), fun f ms φ hf => (by cases hf), fun f ms φ hf => (by cases hf), fun h ⟨t, z⟩ => absurd rfl z, fun c m ms φ hf => (by cases hf), fun c m ms φ hf => (by cases hf), ak, bk⟩
 | k + 1 => ⟨fun f ms φ hf => (by
  have hf : (Tb.find? fun d => d.name == f).map (fun d => (d.mo.take (d.mo.length - d.df.length), fun ds => runD (gm Tb XF k) XF d (ds ++ d.df))) = some (ms, φ) := hf
  cases hd : Tb.find? fun d => d.name == f with
  | none => rw [hd] at hf; cases hf
  | some d =>
   rw [hd] at hf
   cases hf
   obtain ⟨hm, rfl⟩ := find_name hd
   obtain ⟨st, a, fd, D⟩ := h d hm
   obtain ⟨S, hl, hN, _⟩ := dfOk_sc D.ok
   obtain ⟨dds, dvs, hb, hdv, hdp⟩ := D.bd
   refine ⟨a, D.at', D.fn.kp, D.fa, fd, d.ps.map T, dds, dvs, hb, hdv, ?_⟩
   have F0 := fn_g (P := P) (w := w) (base := base) (k := k + 2) (sp := FSp K mg d.mo (runD (gm Tb XF k) XF d)) D.fn S (fun vs H Q E hs => by rw [hs.1, List.length_map, hl]) fun cdv A outer s H vs Q E hc hr hgd hs => df_body TO Nm D.ok (by omega) (all_fns TO Nm hh h xk sk fk kk mh ak bk k) cdv (fun _ => ⟨rfl, D.at'⟩) hc A outer s H vs Q E hr hgd hs
   refine F0.weaken fun vs H Q E hs => ?_
   obtain ⟨vs0, rfl, hs⟩ := hs
   rw [D.mo]
   exact fsp_app hdp hs), fun f ms φ hf => (by
  have hf : (Tb.find? fun d => d.name == f).map (fun d => (d.mo, runD (gm Tb XF k) XF d)) = some (ms, φ) := hf
  cases hd : Tb.find? fun d => d.name == f with
  | none => rw [hd] at hf; cases hf
  | some d =>
   rw [hd] at hf
   cases hf
   obtain ⟨hm, rfl⟩ := find_name hd
   obtain ⟨st, a, fd, D⟩ := h d hm
   obtain ⟨S, hl, hN, _⟩ := dfOk_sc D.ok
   exact ⟨a, D.at', D.fn.kp, fd, d.ps.map T, fn_g (P := P) (w := w) (base := base) (k := k + 2) (sp := FSp K mg d.mo (runD (gm Tb XF k) XF d)) D.fn S (fun vs H Q E hs => by rw [hs.1, List.length_map, hl]) fun cdv A outer s H vs Q E hc hr hgd hs => df_body TO Nm D.ok (by omega) (all_fns TO Nm hh h xk sk fk kk mh ak bk k) cdv (fun _ => ⟨rfl, D.at'⟩) hc A outer s H vs Q E hr hgd hs, D.kb⟩), kk, xk, sk, fk, (all_fns TO Nm hh h xk sk fk kk mh ak bk k).fns, (all_fns TO Nm hh h xk sk fk kk mh ak bk k).fks, (all_fns TO Nm hh h xk sk fk kk mh ak bk k).fn1, (all_fns TO Nm hh h xk sk fk kk mh ak bk k).fk1, fun n ⟨t, z⟩ => by
  have el : ∀ t, (gm Tb XF (k + 1)).lm n t = if k = 0 then .bad else match XF.hds.find? fun d => d.name == n with
   | some d => lmOf (gm Tb XF k) XF d t
   | none => .bad := fun _ => rfl
  have k0 : k ≠ 0 := fun e => by
   rw [el, if_pos e] at z
   exact z rfl
  cases hf : XF.hds.find? fun d => d.name == n with
  | none => rw [el, if_neg k0, hf] at z; exact absurd rfl z
  | some d =>
   have e2 : (gm Tb XF (k + 1)).lm n = fun t => lmOf (gm Tb XF k) XF d t := by
    funext t
    rw [el, if_neg k0, hf]
   have e3 : d.name = n := by simpa using List.find?_some hf
   obtain ⟨st, f, fd, HD⟩ := hh d (List.mem_of_find?_eq_some hf)
   refine ⟨by omega, ?_⟩
   rw [e2, <- e3]
   exact hd_body Nm HD (by omega) (all_fns TO Nm hh h xk sk fk kk mh ak bk k), (all_fns TO Nm hh h xk sk fk kk mh ak bk k).mt1s, fun c m ms φ hf => by
  have hf : (XF.mts.find? fun p => p.1 == c && p.2.name == m).map (fun p => (p.2.mo, runD (gm Tb XF k) XF p.2)) = some (ms, φ) := hf
  cases hd : XF.mts.find? fun p => p.1 == c && p.2.name == m with
  | none => rw [hd] at hf; cases hf
  | some p =>
   rw [hd] at hf
   cases hf
   have hn := List.find?_some hd
   rw [Bool.and_eq_true] at hn
   obtain ⟨n1, n2⟩ := hn
   have n1 := eq_of_beq n1
   have n2 := eq_of_beq n2
   obtain ⟨C, st, f, fd, q, D⟩ := mh p (List.mem_of_find?_eq_some hd)
   obtain ⟨S, hl, hN, _⟩ := dfOk_sc D.ok
   refine ⟨C, f, fd, p.2.ps.map T, by rw [<- n1]; exact D.oc, by rw [<- n2]; exact D.me, D.bd, ?_⟩
   exact fn_g (P := P) (w := w) (base := base) (k := k + 2) (sp := FSp K mg p.2.mo (runD (gm Tb XF k) XF p.2)) D.fn S (fun vs H Q E hs => by rw [hs.1, List.length_map, hl]) fun cdv A outer s H vs Q E hc hr hgd hs => df_body TO Nm D.ok (by omega) (all_fns TO Nm hh h xk sk fk kk mh ak bk k) cdv (fun z => absurd z D.nl) hc A outer s H vs Q E hr hgd hs, ak, bk⟩
end
end Ev
namespace Ev
open PySem PySem.Spec PyProof.Rows L2
def tabB (K : PySem.W.Frag) (LN : List String) : Bool :=
 (lamDefs.all fun n => if LN.contains n then (match cdOf K n with
  | some (_, P, _) => (K.lookup P).isNone
  | none => false) else match PySem.W.nsIn K mainGlobals (Str.ofString n) with
   | some none => true
   | _ => false) && decide (((cds K).map fun p => p.2.1).Nodup)
theorem nodup_key {α β : Type} {f : α -> β} : ∀ {l : List α}, (l.map f).Nodup -> ∀ a ∈ l, ∀ b ∈ l, f a = f b -> a = b
 | [], _, a, ha, _, _, _ => (nomatch ha)
 | x :: l, nd, a, ha, b, hb, e => by
  rw [List.map_cons, List.nodup_cons] at nd
  rcases List.mem_cons.mp ha with rfl | ma
  . rcases List.mem_cons.mp hb with rfl | mb
    . rfl
    . exact absurd (by rw [e]; exact List.mem_map_of_mem mb) nd.1
  . rcases List.mem_cons.mp hb with rfl | mb
    . exact absurd (by rw [<- e]; exact List.mem_map_of_mem ma) nd.1
    . exact nodup_key nd.2 a ma b mb e
theorem cdOf_inv {K : PySem.W.Frag} {n : String} {c P : Addr} {q : Str} (h : cdOf K n = some (c, P, q)) :
  ∃ f oc od fd osl e dd vs sl, PySem.W.nsIn K mainGlobals (Str.ofString n) = some (some (.ref f)) /\ K.lookup f = some ⟨oc, od, .func fd, osl⟩ /\ fd.code = .ref c /\ K.lookup c = some ⟨e, dd, .fields vs, sl⟩ /\ (vs[11]? : Option Value) = some (.ref P) /\ q = lamQ n := by
 unfold cdOf at h
 split at h <;> try cases h
 rename_i f h1
 split at h <;> try cases h
 rename_i oc od fd osl h2
 split at h <;> try cases h
 rename_i c' h3
 split at h <;> try cases h
 rename_i e dd vs sl h4
 split at h <;> try cases h
 rename_i P' h5
 exact ⟨f, oc, od, fd, osl, e, dd, vs, sl, h1, h2, h3, h4, h5, rfl⟩
def EmptyTab (mg : Str -> Option Value) (h : Heap) (x : Str) : Prop := ∃ a o fd c P, mg x = some (.ref a) /\ h.get? a = some o /\ o.data = .func fd /\ fd.code = .ref c /\ PySem.W.CodeHd h c P /\ (∃ oc vs, h.get? c = some oc /\ oc.data = .fields vs /\ vs[11]? = some (.ref P)) /\ h.get? P = some { cls := .none, data := .fields #[] }
structure TabsAt (K : PySem.W.Frag) (mg : Str -> Option Value) (h : Heap) : Prop where
 at_ : ∀ p ∈ cds K, h.get? p.2.1 = some { cls := .none, data := .fields #[] } /\ K.lookup p.2.1 = none /\ PySem.W.CodeHd h p.1 p.2.1
 un : ∀ p ∈ tabs K, ∀ q ∈ tabs K, p.1 = q.1 -> p.2 = q.2
 at' : ∀ n ∈ lamDefs, ∀ f oc od fd osl, mg (T n) = some (.ref f) -> K.lookup f = some ⟨oc, od, .func fd, osl⟩ -> ∃ c P, fd.code = .ref c /\ (c, P, lamQ n) ∈ cds K
theorem tabs_at {K : PySem.W.Frag} {mg : Str -> Option Value} {h : Heap} {LN : List String} (X : K.In h) (G : h.Ns mainGlobals mg) (hb : tabB K LN = true) (hE : ∀ n ∈ LN, EmptyTab mg h (T n)) : TabsAt K mg h := by
 unfold tabB at hb
 rw [Bool.and_eq_true, decide_eq_true_eq] at hb
 obtain ⟨h1, nd⟩ := hb
 have each : ∀ n ∈ lamDefs, (n ∈ LN /\ ∃ c P, cdOf K n = some (c, P, lamQ n) /\ K.lookup P = none) \/ PySem.W.nsIn K mainGlobals (Str.ofString n) = some none := fun n hn => by
  have q := List.all_eq_true.mp h1 n hn
  by_cases m : LN.contains n = true
  . rw [if_pos m] at q
    left
    split at q
    . rename_i c P r hc
      obtain ⟨_, _, _, _, _, _, _, _, _, _, _, _, _, _, e⟩ := cdOf_inv hc
      subst e
      refine ⟨by simpa using m, c, P, hc, by simpa using q⟩
    . cases q
  . rw [if_neg m] at q
    right
    split at q
    . assumption
    . cases q
 refine ⟨fun p hp => ?_, fun p hp q hq e => ?_, fun n hn f oc od fd osl hm hk => ?_⟩
 . obtain ⟨n, hn, e⟩ := List.mem_filterMap.mp hp
   rcases each n hn with ⟨m, c, P, e2, e3⟩ | z
   . rw [e] at e2
     cases e2
     obtain ⟨f, oc, od, fd, osl, e', dd, vs, sl, k1, k2, k3, k4, k5, _⟩ := cdOf_inv e
     obtain ⟨a, o, fd', c', P', g1, g2, g3, g4, g5, ⟨o6, v6, g6, g7, g8⟩, g9⟩ := hE n m
     rw [PySem.W.mg_of X G k1] at g1
     cases g1
     rw [X _ _ k2] at g2
     cases g2
     cases g3
     rw [k3] at g4
     cases g4
     rw [X _ _ k4] at g6
     cases g6
     cases g7
     rw [k5] at g8
     cases g8
     exact ⟨g9, e3, g5⟩
   . obtain ⟨_, _, _, _, _, _, _, _, _, k1, _⟩ := cdOf_inv (c := p.1) (P := p.2.1) (q := p.2.2) e
     rw [k1] at z
     cases z
 . obtain ⟨a, ha, rfl⟩ := List.mem_map.mp hp
   obtain ⟨b, hb, rfl⟩ := List.mem_map.mp hq
   rw [nodup_key nd a ha b hb e]
 . rcases each n hn with ⟨m, c, P, e2, e3⟩ | z
   . obtain ⟨f', oc', od', fd', osl', e', dd, vs, sl, k1, k2, k3, k4, k5, _⟩ := cdOf_inv e2
     have q := PySem.W.mg_of X G k1
     rw [show mg (T n) = mg (Str.ofString n) from rfl, q] at hm
     cases hm
     rw [k2] at hk
     cases hk
     exact ⟨c, P, k3, List.mem_filterMap.mpr ⟨n, hn, e2⟩⟩
   . have q := PySem.W.mg_none_of X G z
     rw [show mg (T n) = mg (Str.ofString n) from rfl, q] at hm
     cases hm
def Opens (K : PySem.W.Frag) (H : Hp) : Prop := (∀ p ∈ cds K, H p.2.1 = some (.tbl #[])) /\ ∀ b, H b = none \/ (b ∈ (cds K).map (fun p => p.2.1) /\ H b = some (.tbl #[])) \/ ∃ ob xs, H b = some (.frz ob (.lst xs))
theorem Opens.tbs {K : PySem.W.Frag} {H : Hp} (h : Opens K H) : Tbs K H := fun p hp => by
 obtain ⟨a, ha, rfl⟩ := List.mem_map.mp hp
 exact .nil (h.1 a ha)
theorem Opens.full {K : PySem.W.Frag} {F H : Hp} (h : Opens K H) : Full F H := fun a ob xs e _ => by
 rcases h.2 a with z | ⟨_, z⟩ | ⟨_, _, z⟩ <;> rw [e] at z <;> cases z
theorem law_g {P : Program} {w : World} {K : PySem.W.Frag} {mg mb : Str -> Option Value} {k : Nat} {fa a : Addr} {fd : FuncData} {x : Str} {sp : Sp} {s1 : Shared} {vs : List Value} {ns : List Int}
  (inK : K.In s1.heap) (hns : s1.heap.Ns mainGlobals mg) (hbn : s1.heap.Ns builtinsNs mb) (hbb : ∀ y : Str, y ≠ "__name__" -> mb y = bootBuiltins y) (hlim : s1.heap.NoLimit) (hgn : s1.gens = #[])
  (TA : TabsAt K mg s1.heap) (hbm : ∃ (bm : Addr) (ob : Obj), mg "__builtins__" = some (.ref bm) /\ bm ≠ builtinsNs /\ s1.heap.get? bm = some ob /\ ob.cls = .type "module" /\ ob.dict = some builtinsNs /\ ob.data = .plain)
  (obj : s1.heap.get? a = some { cls := .type "list", data := .seq vs.toArray }) (hi : IntsAre vs ns) (hl : ns.length <= sizeLine) (hr : Room k callerA)
  (Fn : ∀ base : Heap, K.In base -> base.Ns mainGlobals mg -> TabsOk K mg base -> FnG P w K mg base k fa fd [x] sp) (hbind : BindsTo s1 fd ⟨[.ref a], []⟩ [(x, .ref a)])
  (hsp : ∀ H : Hp, Opens K H -> SqL K H a (ns.map V.int) -> sp [.ref a] H (fun v _ => v = .bl true) fun _ _ _ => False) :
  codeAny (model P w) callerA (.call (.ref fa) ⟨[.ref a], []⟩) (fun r s' => r = .ok (.ret (.bool true)) /\ OldK s1.heap s'.heap /\ s'.os = s1.os /\ AllBare s'.gens) s1 := by
 have vints := vals_ints hi
 have tabAt : ∀ b, b ∈ (cds K).map (fun p => p.2.1) -> s1.heap.get? b = some { cls := .none, data := .fields #[] } /\ K.lookup b = none := fun b hb => by
  obtain ⟨p, hp, rfl⟩ := List.mem_map.mp hb
  exact ⟨(TA.at_ p hp).1, (TA.at_ p hp).2.1⟩
 have aNo : a ∉ (cds K).map (fun p => p.2.1) := fun z => by
  have q := (tabAt a z).1
  rw [obj] at q
  cases q
 have main : ∀ H : Hp, Opens K H -> SqL K H a (ns.map V.int) -> HOk P w H s1.heap -> (∀ b, H b ≠ none -> b ∉ (cds K).map (fun p => p.2.1) -> b = a) -> (H a ≠ none -> K.lookup a = none) ->
   codeAny (model P w) callerA (.call (.ref fa) ⟨[.ref a], []⟩) (fun r s' => r = .ok (.ret (.bool true)) /\ OldK s1.heap s'.heap /\ s'.os = s1.os /\ AllBare s'.gens) s1 := by
  intro H opn hseq hok onlyA notK
  have free : ∀ {b : Addr} {o : Obj}, s1.heap.get? b = some o -> (∀ xs n, o.data ≠ .seq xs n) -> o.data ≠ .fields #[] -> H b = none := by
   intro b o e d1 d2
   cases q : H b with
   | none => rfl
   | some u =>
    exfalso
    by_cases m : b ∈ (cds K).map (fun p => p.2.1)
    . have z := (tabAt b m).1
      rw [e] at z
      cases z
      exact d2 rfl
    . obtain rfl : b = a := onlyA b (by rw [q]; exact fun z => nomatch z) m
      rw [obj] at e
      cases e
      exact d1 _ _ rfl
  have freeD : ∀ {b : Addr} {o : Obj} {es : Array DictEntry} {ep : Nat}, s1.heap.get? b = some o -> o.data = .dict es ep -> H b = none := fun e d => free e (fun _ _ z => by rw [d] at z; cases z) fun z => by rw [d] at z; cases z
  have nsH : ∀ {b : Addr} {m : Str -> Option Value}, s1.heap.Ns b m -> (hidT s1.heap H).Ns b m := by
   rintro b m ⟨o, es, ep, e, d, r⟩
   exact ⟨o, es, ep, hidT_get e (freeD e d), d, r⟩
  have inB : K.In (hidT s1.heap H) := fun b o e => hidT_get (inK b o e) (by
   cases q : H b with
   | none => rfl
   | some u =>
    by_cases m : b ∈ (cds K).map (fun p => p.2.1)
    . rw [(tabAt b m).2] at e
      cases e
    . obtain rfl : b = a := onlyA b (by rw [q]; exact fun z => nomatch z) m
      rw [notK (by rw [q]; exact fun z => nomatch z)] at e
      cases e)
  have tabs0 : TabsOk K mg (hidT s1.heap H) := by
   refine ⟨fun p hp => ⟨?_, ?_, fun z => ?_⟩, TA.un, TA.at'⟩
   . obtain ⟨o, us, file, tf, flags, tg, inF, text, tt, e1, r1, r2, r3, r⟩ := (TA.at_ p hp).2.2
     refine ⟨o, us, file, tf, flags, tg, inF, text, tt, hidT_get e1 (free e1 (fun _ _ z => by rw [r2] at z; cases z) fun z => ?_), r1, r2, r3, r⟩
     rw [r2] at z
     cases z
     simp at r3
   . obtain ⟨bm, ob, b1, b2, b3, b4, b5, b6⟩ := hbm
     refine ⟨bm, ob, b1, b2, fun q => ?_, fun q => ?_, hidT_get b3 (free b3 (fun _ _ z => by rw [b6] at z; cases z) fun z => by rw [b6] at z; cases z), b4, b5, b6⟩
     . obtain ⟨o, es, ep, e, hd, _⟩ := hns
       rw [q, e] at b3
       cases b3
       rw [hd] at b6
       cases b6
     . have z := (TA.at_ p hp).1
       rw [<- q, b3] at z
       cases z
       cases b6
   . obtain ⟨o, es, ep, e, hd, _⟩ := hns
     rw [z, (TA.at_ p hp).1] at e
     cases e
     cases hd
  obtain ⟨mc, l1, l2⟩ := hlim
  have env0 : Env0 P w K mg (hidT s1.heap H) callerA [] s1 H :=
   ⟨rfl, ⟨inB, nsH hns, ⟨mb, nsH hbn, hbb⟩, ⟨mc, nsH l1, l2⟩⟩, fun b o e => of_hidT e, Nat.le_of_eq (hidT_size _ _), trivial, fun b hb => absurd (show b ∈ ([] : List Addr) from hb) List.not_mem_nil, hok, .of_eq hgn⟩
  refine codeAny_mono ((Fn _ inB (nsH hns) tabs0).run callerA [] s1 H ⟨[.ref a], []⟩ [.ref a] [.ref a] _ _ hr rfl env0 hbind (.cons rfl .nil) (hsp H opn hseq)) fun r s' h => ?_
  cases r with
  | error e =>
   obtain ⟨_, _, _, _, _, _, _, _, _, _, _, _, z⟩ := h
   exact z.elim
  | ok fl =>
   cases fl <;> first | exact (show False from h).elim | skip
   rename_i u
   obtain ⟨v, H', os, bare, un, hok', r', q⟩ := h
   obtain rfl : v = .bl true := q
   obtain rfl : u = Value.bool true := r'
   have grew : ∀ b, b ∈ (cds K).map (fun p => p.2.1) -> ∃ more : Array Value, s'.heap.get? b = some { cls := .none, data := .fields more } := fun b hb => by
    obtain ⟨p, hp, rfl⟩ := List.mem_map.mp hb
    obtain ⟨more, z⟩ := un.tbls p.2.1 #[] (opn.1 p hp)
    exact ⟨_, hok' p.2.1 _ z⟩
   have stays : ∀ b o, b ∉ (cds K).map (fun p => p.2.1) -> s1.heap.get? b = some o -> s'.heap.get? b = some o := fun b o m e => by
    cases q : H b with
    | none => exact un.keep b o e q (fun z => absurd (show b ∈ ([] : List Addr) from z) List.not_mem_nil) List.not_mem_nil
    | some u =>
     rcases opn.2 b with z | ⟨z, _⟩ | ⟨ob, xs, z⟩
     . rw [q] at z; cases z
     . exact absurd z m
     . obtain ⟨e1, _⟩ := hok b _ z
       obtain ⟨e2, _⟩ := hok' b _ (un.frzs b ob _ z)
       rw [e] at e1
       cases e1
       exact e2
   refine ⟨rfl, ⟨fun b o e => ?_, fun b o e => ?_⟩, os, bare⟩
   . by_cases m : b ∈ (cds K).map (fun p => p.2.1)
     . obtain ⟨more, hm⟩ := grew b m
       obtain ⟨p, hp, rfl⟩ := List.mem_map.mp m
       have z := (TA.at_ p hp).1
       rw [e] at z
       cases z
       exact .inr (.inl ⟨((TA.at_ p hp).2.2.tab e).isCodeTable, rfl, #[], more, rfl, by rw [Array.empty_append]; exact hm⟩)
     . exact .inl (stays b o m e)
   . by_cases m : b ∈ (cds K).map (fun p => p.2.1)
     . obtain ⟨more, hm⟩ := grew b m
       exact ⟨_, hm⟩
     . exact ⟨o, stays b o m e⟩
 have isT : ∀ p ∈ cds K, p.2.1 ∈ (cds K).map (fun p => p.2.1) := fun p hp => List.mem_map.mpr ⟨p, hp, rfl⟩
 cases hk : K.lookup a with
 | some o =>
  have e := inK a o hk
  rw [obj] at e
  cases e
  refine main (fun b => if b ∈ (cds K).map (fun p => p.2.1) then some (.tbl #[]) else none) ⟨fun p hp => if_pos (isT p hp), fun b => ?_⟩ (.inr ⟨_, vs.toArray, _, hk, rfl, rfl, rfl, by rw [List.size_toArray, hi.length]; exact hl, by simpa using vints⟩) (fun b u z => ?_) (fun b z m => absurd (if_neg m) z) fun z => absurd (if_neg aNo) z
  . by_cases m : b ∈ (cds K).map (fun p => p.2.1)
    . exact .inr (.inl ⟨m, if_pos m⟩)
    . exact .inl (if_neg m)
  . by_cases m : b ∈ (cds K).map (fun p => p.2.1)
    . cases (if_pos m).symm.trans z
      exact (tabAt b m).1
    . cases (if_neg m).symm.trans z
 | none =>
  have ne : ∀ p ∈ cds K, p.2.1 ≠ a := fun p hp z => aNo (by rw [<- z]; exact isT p hp)
  refine main (fun b => if b = a then some (.frz { cls := .type "list", data := .seq vs.toArray } (.lst (ns.map V.int))) else if b ∈ (cds K).map (fun p => p.2.1) then some (.tbl #[]) else none) ⟨fun p hp => (if_neg (ne p hp)).trans (if_pos (isT p hp)), fun b => ?_⟩ (.inl (.inr ⟨{ cls := .type "list", data := .seq vs.toArray }, if_pos rfl⟩)) (fun b u z => ?_) (fun b z m => ?_) fun _ => hk
  . by_cases hb : b = a
    . exact .inr (.inr ⟨_, _, if_pos hb⟩)
    . by_cases m : b ∈ (cds K).map (fun p => p.2.1)
      . exact .inr (.inl ⟨m, (if_neg hb).trans (if_pos m)⟩)
      . exact .inl ((if_neg hb).trans (if_neg m))
  . by_cases hb : b = a
    . have z2 := (if_pos hb).symm.trans z
      cases z2
      subst hb
      exact ⟨obj, by rw [List.length_map]; exact hl, vs, _, vints, obj⟩
    . have z2 := (if_neg hb).symm.trans z
      by_cases m : b ∈ (cds K).map (fun p => p.2.1)
      . cases (if_pos m).symm.trans z2
        exact (tabAt b m).1
      . cases (if_neg m).symm.trans z2
  . by_cases hb : b = a
    . exact hb
    . exact absurd ((if_neg hb).trans (if_neg m)) z
theorem empty_tab {q : Program} {loose : List Str} {mean : ExcName -> Option Value} {mg mb : Str -> Option Value} {h : Heap} (G : Top q loose mean mg mb h) {x : Str} (hr : ((recsOf q).any fun e => e.name == x) = true) : EmptyTab mg h x := by
 obtain ⟨d, hd, e⟩ := List.any_eq_true.mp hr
 obtain rfl : d.name = x := beq_iff_eq.mp e
 obtain ⟨a, o, fd, c, P, h1, h2, h3, h4, h5, h6⟩ := G.tab d hd
 have C := PySem.W.CodeHd.of h5 h6
 obtain ⟨⟨oc, vs, e1, _, e3, e4⟩, hP⟩ := h6
 exact ⟨a, o, fd, c, P, h1, h2, h3, h4, C, ⟨oc, vs, e1, e3, e4⟩, hP⟩
theorem walk_g {l : PySem.W.OpenLaw} {n k : Nat} {q : Program} {loose : List Str} {XP : (Str -> Option Value) -> Heap -> Prop} {YP : World -> Heap -> Prop} {d : DefRec} {K : Params -> PySem.W.Frag} {sp : World -> (Str -> Option Value) -> Sp} {x : Str} {LN : List String}
  (hn : l.most = some n) (hn2 : n <= sizeLine) (hdf : d.params.defaults = []) (hr : Room k callerA) (hY : ∀ (w : World) (h : Heap), YP w h -> (K w.params).In h)
  (hLN : (LN.all fun n => (recsOf q).any fun e => e.name == T n) = true) (htb : ∀ w : World, tabB (K w.params) LN = true)
  (Fn : ∀ (w : World) (mg : Str -> Option Value) (fa : Addr) (h : Heap), (K w.params).In h -> h.Ns mainGlobals mg -> mg d.name = some (.ref fa) ->
   ∃ fd : FuncData, Binds (K w.params) fd [x] [] /\ ∀ base : Heap, (K w.params).In base -> base.Ns mainGlobals mg -> TabsOk (K w.params) mg base -> FnG l.prog w (K w.params) mg base k fa fd [x] (sp w mg))
  (hsp : ∀ (w : World) (mg : Str -> Option Value) (H : Hp) (a : Addr) (ns : List Int), ns.length <= n -> Opens (K w.params) H -> SqL (K w.params) H a (ns.map V.int) -> sp w mg [.ref a] H (fun v _ => v = .bl true) fun _ _ _ => False) :
  PySem.W.WalkO q loose XP YP l.row.toRowW d [] (fun f vs => PySem.call f vs) := by
 refine Att.attach_call hn hdf fun w s0 s1 mg mb fa o pm cd doc a vs ns G Y ho hd hcd hmg hobj hints hlen hg => ?_
 have inK := hY w _ Y
 obtain ⟨fd, hb, hF⟩ := Fn w mg fa _ inK G.T.g hmg
 have TA := tabs_at inK G.T.g (htb w) fun n hn => empty_tab G.T (List.all_eq_true.mp hLN n hn)
 exact law_g inK G.T.g G.T.b G.T.builtins G.T.nolimit hg TA G.T.bmain hobj hints (Nat.le_trans hlen hn2) hr hF (hb s1 [.ref a] inK rfl) fun H only hS => hsp w mg H a ns hlen only hS
theorem dps_ints {K : PySem.W.Frag} {F : Hp} : ∀ ns : List Int, DpAll K F (ns.map V.int) (ns.map PyData.int)
 | [] => .nil
 | n :: ns => .cons (.int n) (dps_ints ns)
theorem law_sp {K : PySem.W.Frag} {mg : Str -> Option Value} {φ : List D -> FRes} {ns : List Int} (h : φ [.list (ns.map .int)] = .ret (.bool true) []) {H : Hp} {a : Addr} (hO : Opens K H) (hS : SqL K H a (ns.map V.int)) :
  FSp K mg [.b] φ [.ref a] H (fun v _ => v = .bl true) fun _ _ _ => False := by
 refine ⟨rfl, fun _ => none, [.list (ns.map .int)], [], fun b o z => (nomatch z), fun b o z => (nomatch z), hO.tbs, hO.full, List.nodup_nil, .b (.inr ⟨a, _, _, rfl, rfl, ?_, dps_ints ns⟩) .nil, ?_⟩
 . have keep : ∀ o, H a = some o -> (∀ ps, o ≠ .tbl ps) -> cut H (ftl H (lents [.b] [.ref a]) []) a = some o := fun o e n => cut_at e (by simp [lents, ftl]) n
   exact hS.imp (fun z => z.imp (fun e => keep _ e fun ps z => by cases z) fun ⟨q, e⟩ => ⟨q, keep _ e fun ps z => by cases z⟩) id
 . rw [h]
   intro v F' H' _ dv
   cases dv
   rfl
theorem walk_evO {l : PySem.W.OpenLaw} {n k : Nat} {q : Program} {loose : List Str} {XP : (Str -> Option Value) -> Heap -> Prop} {YP : World -> Heap -> Prop} {d : DefRec} {K : Params -> PySem.W.Frag} {Tb : List Df} {XF : Xt} {BN : List String} {GL : List (String × D)} {KB : List KbE} {x : String} {dl : Df} {LN : List String}
  (hn : l.most = some n) (hn2 : n <= sizeLine) (hdf : d.params.defaults = []) (hr : Room (k + 3) callerA) (hY : ∀ (w : World) (h : Heap), YP w h -> (K w.params).In h)
  (hl : (Tb.find? fun e => e.name == "law") = some dl) (hlaw : T "law" = d.name) (hmo : dl.mo = [.b]) (hps : dl.ps = [x]) (hdl : dl.df = [])
  (hLN : (LN.all fun n => (recsOf q).any fun e => e.name == T n) = true) (htb : ∀ w : World, tabB (K w.params) LN = true)
  (tb : ∀ (w : World) (mg : Str -> Option Value) (h : Heap), (K w.params).In h -> h.Ns mainGlobals mg -> Names (K w.params) mg BN GL /\ (∀ e ∈ Tb, ∃ st f fd, DefOk (K w.params) mg BN GL KB e st f fd) /\ (∀ base x, XF.xc x ≠ [] -> XcOk l.prog w (K w.params) mg base x (XF.xc x)) /\
   (∀ c x b, XF.sub c x = some b -> SubOk (K w.params) mg c x b) /\ (∀ c f, XF.fld c f = true -> FldOk (K w.params) mg c f) /\ (∀ x ∈ XF.kn, ∃ C, mg (T x) = some (.ref C)) /\ (∀ d ∈ XF.hds, ∃ st f fd, HdDef (K w.params) mg BN GL KB d st f fd) /\ (∀ p ∈ XF.mts, ∃ C st f fd q, MetDef (K w.params) mg BN GL KB p.1 p.2 C st f fd q) /\ ∀ c f, XF.atr c f = true -> ∃ C, OCls (K w.params) mg c C /\ NoAttr (K w.params) C (Str.ofString f))
  (ev : ∀ ns : List Int, ns.length <= n -> runD (gm Tb XF k) XF dl [.list (ns.map .int)] = .ret (.bool true) []) (bk : ∀ (w : World) (g : String) (tbl : List (Str × Te)), XF.tb g = some tbl -> TbAt (K w.params) w g tbl := by exact fun _ _ _ hp => nomatch (show none = some _ from hp)) :
  PySem.W.WalkO q loose XP YP l.row.toRowW d [] (fun f vs => PySem.call f vs) := by
 refine walk_g (K := K) (sp := fun w mg => FSp (K w.params) mg [.b] (runD (gm Tb XF k) XF dl)) (x := T x) hn hn2 hdf hr hY hLN htb (fun w mg fa h inK nsH hmg => ?_) fun w mg H a ns hlen hO hS => law_sp (ev ns hlen) hO hS
 obtain ⟨Nm, hT, xk, sk, fk, kk, hh, mh, ak⟩ := tb w mg h inK nsH
 obtain ⟨hm, hnm⟩ := find_name hl
 obtain ⟨st, f, fd, D⟩ := hT dl hm
 have ef : f = fa := by
  have := D.at'
  rw [hnm, hlaw, hmg] at this
  cases this
  rfl
 subst ef
 obtain ⟨S, hlen, _, _⟩ := dfOk_sc D.ok
 refine ⟨fd, ?_, fun base _ _ TO => ?_⟩
 . obtain ⟨dds, dvs, hb, hdv, hdp⟩ := D.bd
   have e := hdp fun _ => none
   rw [hdl] at e
   cases e
   cases hdv
   rw [hps] at hb
   exact hb
 . have := fn_g (P := l.prog) (w := w) (base := base) (k := k + 2) (sp := FSp (K w.params) mg dl.mo (runD (gm Tb XF k) XF dl)) D.fn S (fun vs H Q E hs => by rw [hs.1, List.length_map, hlen]) fun cdv A outer s H vs Q E hc hr hgd hs => df_body TO Nm D.ok (by omega) (all_fns TO Nm hh hT (xk base) sk fk kk mh ak (bk w) k) cdv (fun _ => ⟨rfl, D.at'⟩) hc A outer s H vs Q E hr hgd hs
   rw [hmo, hps] at this
   exact this
theorem walk_ev {l : PySem.W.OpenLaw} {n k : Nat} {q : Program} {loose : List Str} {XP : (Str -> Option Value) -> Heap -> Prop} {YP : World -> Heap -> Prop} {d : DefRec} {K : Params -> PySem.W.Frag} {Tb : List Df} {XF : Xt} {BN : List String} {GL : List (String × D)} {KB : List KbE} {x : String} {dl : Df} {LN : List String}
  (hn : l.most = some n) (hn2 : n <= sizeLine) (hdf : d.params.defaults = []) (hr : Room (k + 3) callerA) (hY : ∀ (w : World) (h : Heap), YP w h -> (K w.params).In h)
  (hl : (Tb.find? fun e => e.name == "law") = some dl) (hlaw : T "law" = d.name) (hmo : dl.mo = [.b]) (hps : dl.ps = [x]) (hdl : dl.df = [])
  (hLN : (LN.all fun n => (recsOf q).any fun e => e.name == T n) = true) (htb : ∀ w : World, tabB (K w.params) LN = true)
  (tb : ∀ (w : World) (mg : Str -> Option Value) (h : Heap), (K w.params).In h -> h.Ns mainGlobals mg -> Names (K w.params) mg BN GL /\ (∀ e ∈ Tb, ∃ st f fd, DefOk (K w.params) mg BN GL KB e st f fd) /\ (∀ base x, XF.xc x ≠ [] -> XcOk l.prog w (K w.params) mg base x (XF.xc x)) /\
   (∀ c x b, XF.sub c x = some b -> SubOk (K w.params) mg c x b) /\ (∀ c f, XF.fld c f = true -> FldOk (K w.params) mg c f) /\ (∀ x ∈ XF.kn, ∃ C, mg (T x) = some (.ref C)) /\ ∀ d ∈ XF.hds, ∃ st f fd, HdDef (K w.params) mg BN GL KB d st f fd)
  (ev : ∀ ns : List Int, ns.length <= n -> runD (gm Tb XF k) XF dl [.list (ns.map .int)] = .ret (.bool true) []) (hm : XF.mts = [] := by rfl) (ha : XF.atr = fun _ _ => false := by rfl) (bk : ∀ (w : World) (g : String) (tbl : List (Str × Te)), XF.tb g = some tbl -> TbAt (K w.params) w g tbl := by exact fun _ _ _ hp => nomatch (show none = some _ from hp)) :
  PySem.W.WalkO q loose XP YP l.row.toRowW d [] (fun f vs => PySem.call f vs) :=
 walk_evO hn hn2 hdf hr hY hl hlaw hmo hps hdl hLN htb (fun w mg h inK nsH => by
  obtain ⟨Nm, hT, xk, sk, fk, kk, hh⟩ := tb w mg h inK nsH
  exact ⟨Nm, hT, xk, sk, fk, kk, hh, fun p hp => (by rw [hm] at hp; cases hp), fun c f h => by rw [ha] at h; cases h⟩) ev bk
end Ev
set_option maxRecDepth 10000
namespace Ev
open PySem
section
variable {G : Gm} {X : Xt} {e : Env} {a b c : ME} {i j l : Nat} {es kes : List ME} {k : String} {s : MS} {ss t f : List MS} {tg : List Nat} {pair : Bool} {va vb vc : Vc} {vs : List Vc}
@[simp] theorem z_var : (den G (.var i)).v e = varC i e := rfl
@[simp] theorem z_con {d : D} : (den G (.con d)).v e = .ok (.val d) e := rfl
@[simp] theorem z_glo {x : String} {d : D} : (den G (.glo x d)).v e = .ok (.val d) e := rfl
@[simp] theorem z_tup : (den G (.tup es)).v e = (vEs (dens G es) e).bind fun ds e1 => .ok (.val (.tuple ds)) e1 := rfl
@[simp] theorem z_lst : (den G (.lst es)).v e = (vEs (dens G es) e).bind fun ds e1 => .ok (.fresh (.lst ds)) e1 := rfl
@[simp] theorem z_bin {op : Operator} : (den G (.bin op a b)).v e = (v2 (den G a).v (den G b).v e).bind fun p e2 => ofO (bop op p.1 p.2) e2 := rfl
@[simp] theorem z_neg : (den G (.neg a)).v e = (vD (den G a).v e).bind fun d e1 => (match d with | .int i => .ok (.val (.int (-i))) e1 | _ => .bad : Res R) := rfl
@[simp] theorem z_cmp {op : CmpOp} : (den G (.cmp op a b)).v e = ((den G (.cmp op a b)).t e).bind fun k e1 => .ok (.val (.bool k)) e1 := rfl
@[simp] theorem z_cmpT {op : CmpOp} : (den G (.cmp op a b)).t e = (v2 (den G a).v (den G b).v e).bind fun p e2 => ofO (cop op p.1 p.2) e2 := rfl
@[simp] theorem z_chn {op op' : CmpOp} : (den G (.chn op op' a b c)).v e = ((den G (.chn op op' a b c)).t e).bind fun k e1 => .ok (.val (.bool k)) e1 := rfl
@[simp] theorem z_chnT {op op' : CmpOp} : (den G (.chn op op' a b c)).t e = (v2 (den G a).v (den G b).v e).bind fun p e2 => (ofO (if isL p.2 = true then none else cop op p.1 p.2) e2).bind fun k e3 => if k = true then (vD (den G c).v e3).bind fun z e4 => ofO (cop op' p.2 z) e4 else .ok false e3 := rfl
@[simp] theorem z_and : (den G (.and a b)).v e = (vD (den G a).v e).bind fun d e1 => (ofO (bolD d) e1).bind fun k e2 => if k = true then (den G b).v e2 else .ok (.val (.bool false)) e2 := rfl
@[simp] theorem z_andT : (den G (.and a b)).t e = ((den G a).t e).bind fun k e1 => if k = true then (den G b).t e1 else .ok false e1 := rfl
@[simp] theorem z_or : (den G (.or a b)).v e = (vD (den G a).v e).bind fun d e1 => (ofO (bolD d) e1).bind fun k e2 => if k = true then .ok (.val (.bool true)) e2 else (den G b).v e2 := rfl
@[simp] theorem z_orT : (den G (.or a b)).t e = ((den G a).t e).bind fun k e1 => if k = true then .ok true e1 else (den G b).t e1 := rfl
@[simp] theorem z_not : (den G (.not a)).v e = (vD (den G a).v e).bind fun d e1 => (ofO (truD d) e1).bind fun k e2 => .ok (.val (.bool (!k))) e2 := rfl
@[simp] theorem z_notT : (den G (.not a)).t e = ((den G a).t e).bind fun k e1 => .ok (!k) e1 := rfl
@[simp] theorem z_ite : (den G (.ite c a b)).v e = ((den G c).t e).bind fun k e1 => if k = true then (den G a).v e1 else (den G b).v e1 := rfl
@[simp] theorem z_idx : (den G (.idx a b)).v e = (v2 (den G a).v (den G b).v e).bind fun p e2 => (ofO (iop p.1 p.2) e2).bind fun d e3 => .ok (.val d) e3 := rfl
@[simp] theorem z_sli {lo hi : Option ME} : (den G (.sli a lo hi)).v e = (vN (den G a).v e).bind fun r e1 => (optC (denO G lo) e1).bind fun x e2 => (optC (denO G hi) e2).bind fun y e3 => (ofO (rd e3 r) e3).bind fun d e4 => ofO (sop d x y) e4 := rfl
@[simp] theorem z_optN : optC (denO G none) e = .ok none e := rfl
@[simp] theorem z_optS : optC (denO G (some a)) e = (vD (den G a).v e).bind fun d e1 => (ofO (intD d) e1).bind fun i e2 => .ok (some i) e2 := rfl
@[simp] theorem z_rev : (den G (.rev a)).v e = (vD (den G a).v e).bind fun d e1 => ofO (revD d) e1 := rfl
@[simp] theorem z_sx : (den G (.sx a b)).v e = (vD (den G a).v e).bind fun d e1 => (ofO (intsT d) e1).bind fun ns e2 => (vD (den G b).v e2).bind fun d' e3 => (ofO (intsT d') e3).bind fun ms e4 =>
 (ofO (if ns.length + ms.length < 64 then some (PyData.tuple ((symI ns ms).map .int)) else none) e4).bind fun d e5 => .ok (.val d) e5 := rfl
@[simp] theorem z_ssl : (den G (.ssl a)).v e = (vD (den G a).v e).bind fun d e1 => ofO (sslD d) e1 := rfl
@[simp] theorem z_isi {ty : String} : (den G (.isi a ty)).v e = (vD (den G a).v e).bind fun d e1 => (ofO (isK d ty) e1).bind fun k e2 => .ok (.val (.bool k)) e2 := rfl
@[simp] theorem z_bif {q : Bi} : (den G (.bif q es)).v e = (vNs (dens G es) e).bind fun rs e1 => (ofO (rdAll e1 rs) e1).bind fun ds e2 => ofO (bi q ds) e2 := rfl
@[simp] theorem z_cal : (den G (.cal k es)).v e = if (G.fn k).isSome = true then (vNs (dens G es) e).bind fun rs e1 => callD G k rs e1 else .bad := rfl
@[simp] theorem z_cak {ks : List String} {perm : List Nat} {dl : List (Option Int)} : (den G (.cak k ks perm dl es kes)).v e = if (G.fk k).isSome = true then (vNs (dens G es ++ dens G kes) e).bind fun rs e1 => (ofO (pick perm (rs ++ dl.map fun d => R.val (dfD d))) e1).bind fun qs e2 => callO (G.fk k) qs e2 else .bad := rfl
@[simp] theorem z_callO {rs : List R} {ms : List Mo} {φ : List D -> FRes} : callO (some (ms, φ)) rs e = (match escAll ms rs e with
  | some (qs, e2) => (match readAll e2 ms qs with
   | some (ds, ls) => if apart ls ms qs = true /\ uniq ls = true then behind ls e2 (φ ds) else .bad
   | none => .bad : Res R)
  | none => .bad) := rfl
@[simp] theorem z_call {rs : List R} : callD G k rs e = (match G.fn k with
 | some (ms, φ) => (match escAll ms rs e with
  | some (qs, e2) => (match readAll e2 ms qs with
   | some (ds, ls) => if apart ls ms qs = true /\ uniq ls = true then behind ls e2 (φ ds) else .bad
   | none => .bad : Res R)
  | none => .bad)
 | none => .bad) := rfl
@[simp] theorem z_lcx {own : List (String × Nat)} : (den G (.lcx own tg pair a b)).v e = ((den G a).w e).bind fun p e1 => (lcRunX (own.map (·.2)) (lcTurnX (own.map (·.2)) tg pair (den G b).v) p e1).bind fun ds e2 => .ok (.fresh (.lst ds)) e2 := rfl
@[simp] theorem z_lc2x {own : List (String × Nat)} {tg1 : List Nat} {pair1 : Bool} : (den G (.lc2x own tg pair a tg1 pair1 b c)).v e = ((den G a).w e).bind fun p e1 => (lc2RunX (own.map (·.2)) (lc2TurnX (own.map (·.2)) tg pair (wF (den G b).v) tg1 (lcTurn tg1 tg1 pair1 none (den G c).v)) p e1).bind fun ds e2 => .ok (.fresh (.lst ds)) e2 := rfl
@[simp] theorem z_lc {own : List (String × Nat)} {oc : Option ME} : (den G (.lc own tg pair a oc b)).v e = ((den G a).w e).bind fun p e1 => (lcRun (own.map (·.2)) (lcTurn (own.map (·.2)) tg pair (denT G oc) (den G b).v) p e1).bind fun ds e2 => .ok (.fresh (.lst ds)) e2 := rfl
noncomputable def askS : Option Sl -> Option (Th × AskR) -> Env -> Res R
 | some (.th f), some (g, t), e => @ite _ (f = g) (Classical.propDecidable _) (match t with
   | .val d => .ok (.val d) e
   | .exc x => .exc x e) .bad
 | _, _, _ => .bad
def lamR (e : Env) : FRes -> Res R
 | .ret d [] => .ok (.val d) e
 | .fresh c [] => .ok (.fresh c) e
 | _ => .bad
def lamS (G : Gm) (h : String) (e : Env) : Option AskR -> Res R
 | some t => lamR e (G.lm h t)
 | none => .bad
@[simp] theorem z_asked {d : D} {e' : Env} : asked (.ok (.val d) e' : Res R) = some (.val d) := rfl
@[simp] theorem z_askedx {x : Xn} {e' : Env} : asked (.exc x e' : Res R) = some (.exc x) := rfl
@[simp] theorem z_lamS {h : String} {t : AskR} : lamS G h e (some t) = lamR e (G.lm h t) := rfl
@[simp] theorem z_lamR {d : D} : lamR e (.ret d []) = .ok (.val d) e := rfl
@[simp] theorem z_lamF {c : C} : lamR e (.fresh c []) = .ok (.fresh c) e := rfl
@[simp] theorem z_dg : (den G (.dg i k)).v e = dgC i k e := rfl
@[simp] theorem z_dct {ks : List String} : (den G (.dct ks es)).v e = (vEs (dens G es) e).bind fun ds e1 => .ok (.fresh (.dct (((ks.map Str.ofString).map Sum.inr).zip ds))) e1 := rfl
@[simp] theorem z_dix : (den G (.dix i a)).v e = (ofO (dctS e[i]?) e).bind fun _ e0 => (vD (den G a).v e0).bind fun kd e1 => (ofO (keyO kd) e1).bind fun q e2 => (ofO (dctS e2[i]?) e2).bind fun kvs e3 => (ofO (keyD kvs q) e3).bind fun d e4 => .ok (.val d) e4 := rfl
@[simp] theorem z_din {n : Bool} : (den G (.din n a i)).v e = ((den G (.din n a i)).t e).bind fun k e1 => .ok (.val (.bool k)) e1 := rfl
@[simp] theorem z_dinT {n : Bool} : (den G (.din n a i)).t e = (vD (den G a).v e).bind fun kd e1 => (ofO (keyO kd) e1).bind fun q e2 => (ofO (dctS e2[i]?) e2).bind fun kvs e3 => .ok ((keyD kvs q).isSome != n) e3 := rfl
@[simp] theorem z_dgt1 : (den G (.dgt i a none)).v e = (ofO (dctS e[i]?) e).bind fun _ e0 => (vD (den G a).v e0).bind fun kd e1 => (ofO (keyO kd) e1).bind fun q e2 => (ofO (dctS e2[i]?) e2).bind fun kvs e3 => .ok (.val ((keyD kvs q).getD .none)) e3 := rfl
@[simp] theorem z_dgt2 : (den G (.dgt i a (some b))).v e = (ofO (dctS e[i]?) e).bind fun _ e0 => (vE (den G a).v e0).bind fun kd e1 => (ofO (keyO kd) e1).bind fun q e2 => (vE (den G b).v e2).bind fun y e3 => (ofO (dctS e3[i]?) e3).bind fun kvs e4 => .ok (.val ((keyD kvs q).getD y)) e4 := rfl
@[simp] theorem z_stp {n : Int} : (den G (.stp a n)).v e = (vD (den G a).v e).bind fun d e1 => (ofO (stpD n d) e1).bind fun r e2 => .ok r e2 := rfl
@[simp] theorem z_tde : (den G .tde).v e = .ok (.fresh (.tr (.d []))) e := rfl
@[simp] theorem z_tdx : (den G (.tdx i a)).v e = (ofO (tdS e[i]?) e).bind fun _ e0 => (vD (den G a).v e0).bind fun kd e1 => (ofO (keyT kd) e1).bind fun q e2 => (ofO (tdS e2[i]?) e2).bind fun kvs e3 => (ofO (atT kvs q) e3).bind fun d e4 => .ok (.val d) e4 := rfl
@[simp] theorem z_tdi {n : Bool} : (den G (.tdi n a i)).v e = ((den G (.tdi n a i)).t e).bind fun k e1 => .ok (.val (.bool k)) e1 := rfl
@[simp] theorem z_tdiT {n : Bool} : (den G (.tdi n a i)).t e = (vD (den G a).v e).bind fun kd e1 => (ofO (keyT kd) e1).bind fun q e2 => (ofO (tdS e2[i]?) e2).bind fun kvs e3 => .ok ((atT kvs q).isSome != n) e3 := rfl
@[simp] theorem z_tdg : (den G (.tdg i a b)).v e = (ofO (tdS e[i]?) e).bind fun _ e0 => (vE (den G a).v e0).bind fun kd e1 => (ofO (keyT kd) e1).bind fun q e2 => (vE (den G b).v e2).bind fun y e3 => (ofO (tdS e3[i]?) e3).bind fun kvs e4 => .ok (.val ((atT kvs q).getD y)) e4 := rfl
@[simp] theorem z_tdl : (den G (.tdl i)).v e = (ofO (tdS e[i]?) e).bind fun kvs e1 => if kvs.length <= big then .ok (.val (.int kvs.length)) e1 else .bad := rfl
@[simp] theorem z_tdk : (den G (.tdk i)).v e = (ofO (tdS e[i]?) e).bind fun kvs e1 => (ofO (if kvs.length <= big then bi .sorted [.list (keysT kvs)] else none) e1).bind fun r e2 => .ok r e2 := rfl
@[simp] theorem z_tdSm {p q : Bool} {kvs : List (List Int × D)} : tdS (some (.mu p q (.tr (.d kvs)))) = some kvs := rfl
@[simp] theorem z_tdSb {kvs : List (List Int × D)} : tdS (some (.bt (.d kvs))) = some kvs := rfl
@[simp] theorem z_tdM {p : Bool} {kvs : List (List Int × D)} : tdM (some (.mu p false (.tr (.d kvs)))) = some (p, kvs) := rfl
@[simp] theorem z_keyT {ds : List D} : keyT (.tuple ds) = intsL ds := rfl
@[simp] theorem z_dmk : (den G (.dmk a)).v e = (vD (den G a).v e).bind fun d e1 => (ofO (seqO d) e1).bind fun ds e2 => (ofO (pairsD ds) e2).bind fun kvs e3 => .ok (.fresh (.dct (mergeG [] kvs))) e3 := rfl
@[simp] theorem z_inx : (den G (.inx a b)).v e = (vN (den G a).v e).bind fun r e1 => (ofO (lsqO e1 r) e1).bind fun k e2 => (vN (den G b).v e2).bind fun q e3 => (ofO (rd e3 r) e3).bind fun x e4 => (ofO (rd e4 q) e4).bind fun y e5 => (ofO (idxD k x y) e5).bind fun n e6 => .ok (.val (.int (n : Nat))) e6 := rfl
@[simp] theorem z_lcn : (den G (.cnt a b)).v e = (vN (den G a).v e).bind fun r e1 => (ofO (lstO e1 r) e1).bind fun _ e2 => (vN (den G b).v e2).bind fun q e3 => (ofO (rd e3 r) e3).bind fun x e4 => (ofO (rd e4 q) e4).bind fun y e5 => (ofO (cntD x y) e5).bind fun n e6 => .ok (.val (.int (n : Nat))) e6 := rfl
@[simp] theorem z_pop0 : (den G (.pop i none)).v e = (ofO (muLs e[i]?) e).bind fun p e1 => (ofO p.2[p.2.length - 1]? e1).bind fun d e2 => .ok (.val d) (e2.set i (.mu p.1 false (.lst p.2.dropLast))) := rfl
@[simp] theorem z_pop1 : (den G (.pop i (some a))).v e = (ofO (muLs e[i]?) e).bind fun _ e0 => (vD (den G a).v e0).bind fun kd e1 => (ofO (intD kd) e1).bind fun n e2 => (ofO (muLs e2[i]?) e2).bind fun p e3 => (ofO (if p.2.length <= big then L2.ixN p.2.length n else none) e3).bind fun j e4 => (ofO p.2[j]? e4).bind fun d e5 => .ok (.val d) (e5.set i (.mu p.1 false (.lst (p.2.eraseIdx j)))) := rfl
@[simp] theorem z_lsi : (den G (.lsi a)).v e = (vD (den G a).v e).bind fun d e1 => (ofO (lsiD d) e1).bind fun n e2 => .ok (.val (.int n)) e2 := rfl
@[simp] theorem z_joi : (den G (.joi k a)).v e = (vD (den G a).v e).bind fun d e1 => (ofO (joiD (Str.ofString k) d) e1).bind fun x e2 => .ok (.val x) e2 := rfl
@[simp] theorem z_spl : (den G (.spl a k)).v e = (vD (den G a).v e).bind fun d e1 => (ofO (splD (Str.ofString k) d) e1).bind fun ys e2 => .ok (.fresh (.lst ys)) e2 := rfl
@[simp] theorem z_fmt : (den G (.fmt a)).v e = (vD (den G a).v e).bind fun d e1 => (ofO (fmtD d) e1).bind fun x e2 => .ok (.val x) e2 := rfl
@[simp] theorem z_fst : (den G (.fst es)).v e = (fstGo (dens G es) Str.empty e).bind fun x e1 => .ok (.val (.str x)) e1 := rfl
@[simp] theorem z_fst0 {s : Str} : fstGo (dens G []) s e = .ok s e := rfl
@[simp] theorem z_fst1 {s : Str} : fstGo (dens G (a :: es)) s e = (vE (den G a).v e).bind fun d e1 => (ofO (catS s d) e1).bind fun s' e2 => fstGo (dens G es) s' e2 := rfl
@[simp] theorem z_dctS {p q : Bool} {kvs : List (Ky × D)} : dctS (some (.mu p q (.dct kvs))) = some kvs := rfl
@[simp] theorem z_dctM {p : Bool} {kvs : List (Ky × D)} : dctM (some (.mu p false (.dct kvs))) = some (p, kvs) := rfl
@[simp] theorem z_muLs {p : Bool} {ds : List D} : muLs (some (.mu p false (.lst ds))) = some (p, ds) := rfl
@[simp] theorem z_keyI {n : Int} : keyO (.int n) = some (.inl n) := rfl
@[simp] theorem z_keyS {s : Str} : keyO (.str s) = some (.inr s) := rfl
@[simp] theorem z_seqL {ds : List D} : seqO (.list ds) = some ds := rfl
@[simp] theorem z_seqT {ds : List D} : seqO (.tuple ds) = some ds := rfl
@[simp] theorem z_fz : (den G (.fz a)).v e = (vE (den G a).v e).bind fun d e1 => .ok (.val d) e1 := rfl
def slXis (G : Gm) (i : Nat) (cs : List String) (e : Env) : Option Sl -> Res R
 | some (.xc x) => (match anyX G x.cls cs with
  | some b => .ok (.val (.bool b)) e
  | none => .bad)
 | _ => .bad
def slXat (G : Gm) (i : Nat) (f : String) (e : Env) : Option Sl -> Res R
 | some (.xc x) => if G.fld x.cls f = false then .bad else (match x.fs.lookup (Str.ofString f) with
  | some d => .ok (.val d) e
  | none => .bad)
 | _ => .bad
@[simp] theorem z_xis {cs : List String} {tup : Bool} : (den G (.xis i cs tup)).v e = slXis G i cs e e[i]? := by
 show xisC G i cs e = _
 unfold xisC
 cases e[i]? with
 | none => rfl
 | some s => cases s <;> rfl
@[simp] theorem z_xat : (den G (.xat i k)).v e = slXat G i k e e[i]? := by
 show xatC G i k e = _
 unfold xatC
 cases e[i]? with
 | none => rfl
 | some s => cases s <;> rfl
@[simp] theorem z_slXis {cs : List String} {x : Xn} : slXis G i cs e (some (.xc x)) = (match anyX G x.cls cs with
  | some b => .ok (.val (.bool b)) e
  | none => .bad : Res R) := rfl
@[simp] theorem z_slXat {x : Xn} : slXat G i k e (some (.xc x)) = (if G.fld x.cls k = false then .bad else (match x.fs.lookup (Str.ofString k) with
  | some d => .ok (.val d) e
  | none => .bad : Res R)) := rfl
@[simp] theorem z_rt1 {q : Bool} : (den G (.rt1 q a)).v e = (vD (den G a).v e).bind fun d e1 => ofO (rtR q (.int 0) d) e1 := rfl
@[simp] theorem z_rt3 {i j c : Int} {n : Nat} : (den G (.rt3 i j c n)).v e = .ok (.fresh (.lst (rng3D i c n))) e := rfl
@[simp] theorem z_rt2 {q : Bool} : (den G (.rt2 q a b)).v e = (v2 (den G a).v (den G b).v e).bind fun p e1 => ofO (rtR q p.1 p.2) e1 := rfl
def slAt (G : Gm) (k : String) (e : Env) : Option (Str × Fc) -> Res R
 | some (c, .val d) => if G.atr c k = true then .ok (.val d) e else .bad
 | _ => .bad
@[simp] theorem z_att : (den G (.att i k)).v e = slAt G k e (atO e[i]? (Str.ofString k)) := by
 show attC G i k e = _
 unfold attC slAt
 cases atO e[i]? (Str.ofString k) with
 | none => rfl
 | some p =>
  obtain ⟨c, f⟩ := p
  cases f <;> rfl
@[simp] theorem z_slAt {cl : Str} {d : D} : slAt G k e (some (cl, .val d)) = if G.atr cl k = true then .ok (.val d) e else .bad := rfl
@[simp] theorem z_atO {t l : Bool} {cl f : Str} {fs : List (Str × Fc)} : atO (some (.mu t l (.obj cl fs))) f = (fs.lookup f).map fun x => (cl, x) := rfl
def slAd (G : Gm) (k : String) : Option (Str × Fc) -> Option (List (Ky × D))
 | some (c, .dct kvs) => if G.atr c k = true then some kvs else none
 | _ => none
@[simp] theorem z_adx {j : Nat} : (den G (.adx i k j)).v e = (ofO (slAd G k (atO e[i]? (Str.ofString k))) e).bind fun kvs e0 => (ofO ((nmD e0 j).bind keyO) e0).bind fun q e1 => (ofO (keyD kvs q) e1).bind fun d e2 => .ok (.val d) e2 := by
 show adxC G i k j e = _
 unfold adxC adO slAd
 cases atO e[i]? (Str.ofString k) with
 | none => rfl
 | some p =>
  obtain ⟨c, f⟩ := p
  cases f <;> rfl
@[simp] theorem z_slAd {cl : Str} {kvs : List (Ky × D)} : slAd G k (some (cl, .dct kvs)) = if G.atr cl k = true then some kvs else none := rfl
def nmS : Option Sl -> Option D
 | some (.fz d) => some d
 | some (.bo d) => if isL d = true then none else some d
 | _ => none
@[simp] theorem z_nmSf {d : D} : nmS (some (.fz d)) = some d := rfl
@[simp] theorem z_nmSs {x : Str} : nmS (some (.bo (.str x))) = some (.str x) := rfl
@[simp] theorem z_nmSi {n : Int} : nmS (some (.bo (.int n))) = some (.int n) := rfl
@[simp] theorem z_nmSt {ds : List D} : nmS (some (.bo (.tuple ds))) = some (.tuple ds) := rfl
def callX (o : Option (List Mo × (List D -> FRes))) (rs : List R) (e : Env) : Res R := callO o rs e
@[simp] theorem z_clsO {t : Bool} {cl : Str} {fs : List (Str × Fc)} : clsO (some (.mu t false (.obj cl fs))) = some (cl, fs) := rfl
@[simp] theorem z_mca {cls m : String} : (den G (.mca cls m i es)).v e = (ofO (clsO e[i]?) e).bind fun p e0 => if p.1 = Str.ofString cls /\ (p.2.lookup (Str.ofString m)).isSome = false /\ (G.mt cls m).isSome = true then (vNs (dens G es) e0).bind fun rs e1 => callO (G.mt cls m) (.slot i :: rs) e1 else .bad := rfl
def mkR : ORes -> Res R
 | .ok (.val .none) c e3 => .ok (.fresh c) e3
 | .exc x e3 => .exc x e3
 | _ => .bad
def mkA (cls : String) (rs : List R) (e : Env) : Option (List Mo × (List D -> FRes)) -> Res R
 | some (.l :: ms, φ) => (match escAll ms rs e with
  | some (qs, e2) => mkR (callN ms φ (.obj (Str.ofString cls) []) qs e2)
  | none => .bad)
 | _ => .bad
def outR : ORes -> Res R
 | .ok r _ e2 => .ok r e2
 | .exc x e2 => .exc x e2
 | .bad => .bad
@[simp] theorem z_dd1 : (den G (.dd1 a b)).v e = (vE (den G a).v e).bind fun kd e1 => (ofO (keyO kd) e1).bind fun q e2 => (vE (den G b).v e2).bind fun d e3 => .ok (.fresh (.dct [(q, d)])) e3 := rfl
@[simp] theorem z_dls : (den G (.dls i)).v e = (ofO (dctS e[i]?) e).bind fun kvs e1 => .ok (.fresh (.lst (kvs.map fun p => kyD p.1))) e1 := rfl
theorem z_tlk {own : List (String × Nat)} {oc : Option ME} {x : ME} : (den G (.tlk own tg i oc x)).v e = tlkC (own.map (·.2)) tg i (denT G oc) (den G x).v e := rfl
@[simp] theorem z_upd : sen G X (.upd i a) e = (ofO (dctM e[i]?) e).bind fun _ e0 => ((den G a).v e0).bind fun r e1 => (ofO (freshK r) e1).bind fun ys e2 => (ofO (dctM e2[i]?) e2).bind fun p e3 => if p.2.length + ys.length <= big then .ok .nx (e3.set i (.mu p.1 false (.dct (mergeG p.2 ys)))) else .bad := rfl
@[simp] theorem z_freshK {kvs : List (Ky × D)} : freshK (.fresh (.dct kvs)) = some kvs := rfl
@[simp] theorem z_bckR {d : D} {c : C} : bckB e (.ret d [c]) = .ok (.val d) e := rfl
@[simp] theorem z_bckF {d c : C} : bckB e (.fresh d [c]) = .ok (.fresh d) e := rfl
@[simp] theorem z_bckX {x : Xn} {c : C} : bckB e (.exc x [c]) = .exc x e := rfl
@[simp] theorem z_wzps : (den G (.zps a b)).w e = zpsW (den G a).v (den G b).v e := rfl
@[simp] theorem dfD_some {n : Int} : dfD (some n) = .int n := rfl
@[simp] theorem dfD_none : dfD none = .tuple [] := rfl
def clvS (G : Gm) (cs : List Vc) (e : Env) : Option Sl -> Res R
 | some (.fnc f) => if (G.fn f).isSome = true then (vNs cs e).bind fun rs e1 => callD G f rs e1 else .bad
 | _ => .bad
@[simp] theorem z_clvS {cs : List Vc} {f : String} : clvS G cs e (some (.fnc f)) = if (G.fn f).isSome = true then (vNs cs e).bind fun rs e1 => callD G f rs e1 else .bad := rfl
@[simp] theorem z_clv : (den G (.clv i es)).v e = clvS G (dens G es) e e[i]? := by
 show clvC G i (dens G es) e = _
 unfold clvC
 cases e[i]? with
 | none => rfl
 | some s => cases s <;> rfl
@[simp] theorem z_tclv : (den G (.clv i es)).t e = (vD (den G (.clv i es)).v e).bind fun d e1 => ofO (truD d) e1 := rfl
def cdfS (G : Gm) (cs : List Vc) (gs : List String) (e : Env) : Option (List Mo × (List D -> FRes)) -> Res R
 | some (ms, φ) => if ms.drop cs.length = gs.map (fun _ => Mo.d) /\ (gs.all fun g => (G.fn g).isSome) = true then (vNs cs e).bind fun rs e1 => callO (some (ms.take cs.length, fun ds => φ (ds ++ gs.map dfnD))) rs e1 else .bad
 | none => .bad
@[simp] theorem z_cdfS {cs : List Vc} {gs : List String} {ms : List Mo} {φ : List D -> FRes} : cdfS G cs gs e (some (ms, φ)) = if ms.drop cs.length = gs.map (fun _ => Mo.d) /\ (gs.all fun g => (G.fn g).isSome) = true then (vNs cs e).bind fun rs e1 => callO (some (ms.take cs.length, fun ds => φ (ds ++ gs.map dfnD))) rs e1 else .bad := rfl
@[simp] theorem z_cdf {gs : List String} : (den G (.cdf k es gs)).v e = cdfS G (dens G es) gs e (G.fn k) := by
 show cdfC G k (dens G es) gs e = _
 unfold cdfC
 cases G.fn k <;> rfl
@[simp] theorem z_tcdf {gs : List String} : (den G (.cdf k es gs)).t e = (vD (den G (.cdf k es gs)).v e).bind fun d e1 => ofO (truD d) e1 := rfl
@[simp] theorem len_dens : ∀ {es : List ME}, (dens G es).length = es.length
 | [] => rfl
 | _ :: es => congrArg (· + 1) (len_dens (es := es))
@[simp] theorem z_tvar : (den G (.var i)).t e = (vD (varC i) e).bind fun d e1 => ofO (truD d) e1 := rfl
@[simp] theorem z_tisi {ty : String} : (den G (.isi a ty)).t e = (vD (den G (.isi a ty)).v e).bind fun d e1 => ofO (truD d) e1 := rfl
@[simp] theorem z_tbif {q : Bi} : (den G (.bif q es)).t e = (vD (den G (.bif q es)).v e).bind fun d e1 => ofO (truD d) e1 := rfl
@[simp] theorem z_tcal : (den G (.cal k es)).t e = (vD (den G (.cal k es)).v e).bind fun d e1 => ofO (truD d) e1 := rfl
@[simp] theorem z_tcak {ks : List String} {perm : List Nat} {dl : List (Option Int)} : (den G (.cak k ks perm dl es kes)).t e = (vD (den G (.cak k ks perm dl es kes)).v e).bind fun d e1 => ofO (truD d) e1 := rfl
@[simp] theorem z_txis {cs : List String} {tup : Bool} : (den G (.xis i cs tup)).t e = (vD (den G (.xis i cs tup)).v e).bind fun d e1 => ofO (truD d) e1 := rfl
@[simp] theorem z_wrg1 : (den G (.rg1 a)).w e = (vD (den G a).v e).bind fun d e1 => (ofO (intD d) e1).bind fun j e2 => if -(big : Int) <= j /\ j <= big then .ok (.vals (rngD 0 j.toNat)) e2 else .bad := rfl
@[simp] theorem z_wen : (den G (.en a)).w e = (vN (den G a).v e).bind fun r e1 => srcOf true e1 r := rfl
@[simp] theorem z_wvar : (den G (.var i)).w e = (vN (varC i) e).bind fun r e1 => srcOf false e1 r := rfl
@[simp] theorem z_wfz : (den G (.fz a)).w e = (vN (den G (.fz a)).v e).bind fun r e1 => srcOf false e1 r := rfl
@[simp] theorem z_vN : vN va e = (va e).bind fun r e1 => setl e1 r := rfl
@[simp] theorem z_vD : vD va e = (va e).bind fun r e1 => ofO (rd e1 r) e1 := rfl
@[simp] theorem z_vE : vE va e = (va e).bind fun r e1 => esc e1 r := rfl
@[simp] theorem z_v2 : v2 va vb e = (vN va e).bind fun r e1 => (vN vb e1).bind fun q e2 => (ofO (rd e2 r) e2).bind fun x e3 => (ofO (rd e3 q) e3).bind fun y e4 => .ok (x, y) e4 := rfl
@[simp] theorem z_vEs0 : vEs (dens G []) e = .ok [] e := rfl
@[simp] theorem z_vEs1 : vEs (dens G (a :: es)) e = (vE (den G a).v e).bind fun d e1 => (vEs (dens G es) e1).bind fun ds e2 => .ok (d :: ds) e2 := rfl
@[simp] theorem z_vNs0 : vNs (dens G []) e = .ok [] e := rfl
@[simp] theorem z_vNs1 : vNs (dens G (a :: es)) e = (vN (den G a).v e).bind fun d e1 => (vNs (dens G es) e1).bind fun ds e2 => .ok (d :: ds) e2 := rfl
@[simp] theorem z_vNa0 : vNs (dens G [] ++ dens G es) e = vNs (dens G es) e := rfl
@[simp] theorem z_nil : sens G X [] e = .ok .nx e := rfl
@[simp] theorem z_cons : sens G X (s :: ss) e = (sen G X s e).bind fun f e1 => (match f with | .nx => sens G X ss e1 | f => .ok f e1 : Res Fl) := rfl
@[simp] theorem z_asg : sen G X (.asg i a) e = ((den G a).v e).bind fun r e1 => (escS r e1).bind fun r e2 => fl (setV i r e2) := by
 show ((((den G a).v e).bind escS).bind fun r e2 => fl (setV i r e2)) = _
 cases (den G a).v e <;> rfl
@[simp] theorem z_unp : sen G X (.unp tg a) e = (vE (den G a).v e).bind fun d e1 => fl (putT tg true d e1) := rfl
@[simp] theorem z_stu {is : List Nat} : sen G X (.stu is j a) e = (vE (den G a).v e).bind fun d e1 => (ofO (seqO d) e1).bind fun ds e2 => if is.length <= ds.length /\ ds.length <= 16384 /\ is.contains j = false then match putAll is (ds.take is.length) e2 with
  | some e3 => fl (setV j (.fresh (.lst (ds.drop is.length))) e3)
  | none => .bad
 else .bad := rfl
@[simp] theorem z_unn : sen G X (.unn i tg a) e = (vE (den G a).v e).bind fun d e1 => fl ((pr2O d).bind fun p => (putAll [i] [p.1] e1).bind fun e2 => putT tg true p.2 e2) := rfl
@[simp] theorem pr2O_ab {d1 d2 : D} : pr2O (.tuple [d1, d2]) = some (d1, d2) := rfl
@[simp] theorem z_par : sen G X (.par i j a b) e = (vEs (dens G [a, b]) e).bind fun ds e1 => if i = j then .bad else fl (putAll [i, j] ds e1) := rfl
@[simp] theorem z_parC {n : Int} : sen G X (.parC i j a n) e = ((den G a).v e).bind fun r e1 => if i = j then .bad else match setV i r e1 with
 | some e2 => fl (setV j (.val (.int n)) e2)
 | none => .bad := rfl
@[simp] theorem z_parE : sen G X (.parE i j a) e = ((den G a).v e).bind fun r e1 => if i = j then .bad else match setV i r e1 with
 | some e2 => fl (setV j (.fresh (.lst [])) e2)
 | none => .bad := rfl
@[simp] theorem z_parO : sen G X (.parO i j a) e = ((den G a).v e).bind fun r e1 => if i = j then .bad else match setV i r e1 with
 | some e2 => fl (setV j (.fresh (.dct [])) e2)
 | none => .bad := rfl
@[simp] theorem z_parT : sen G X (.parT i j a b) e = ((den G a).v e).bind fun r e1 => match r with
 | .fresh (.tr (.d kvs)) => ((den G b).v e1).bind fun q e2 => if i = j then .bad else match setV j q e2 with
  | some e3 => fl (setV i (.fresh (.tr (.d kvs))) e3)
  | none => .bad
 | _ => .bad := rfl
@[simp] theorem z_par0 : sen G X (.par0 i j a) e = ((den G a).v e).bind fun r e1 => if i = j then .bad else match setV j r e1 with
 | some e2 => fl (setV i (.fresh (.tr (.d []))) e2)
 | none => .bad := rfl
@[simp] theorem z_tdp : sen G X (.tdp i a b) e = (vE (den G b).v e).bind fun d e1 => (ofO (tdM e1[i]?) e1).bind fun _ e2 => (vE (den G a).v e2).bind fun kd e3 => (ofO (keyT kd) e3).bind fun q e4 => (ofO (tdM e4[i]?) e4).bind fun p e5 => if p.2.length < big then .ok .nx (e5.set i (.mu p.1 false (.tr (.d (putT2 p.2 q d))))) else .bad := rfl
@[simp] theorem z_parL : sen G X (.parL i j a b) e = (vE (den G a).v e).bind fun d e1 => ((den G b).v e1).bind fun r e2 => if i = j then .bad else match setV j r e2 with
 | none => .bad
 | some e3 => fl (setV i (.val d) e3) := rfl
@[simp] theorem z_par3 : sen G X (.par3 i j l a b c) e = (vEs (dens G [a, b, c]) e).bind fun ds e1 => if i = j \/ i = l \/ j = l then .bad else fl (putAll [i, j, l] ds e1) := rfl
@[simp] theorem z_dst : sen G X (.dst i k a) e = (vE (den G a).v e).bind fun d e1 => (ofO (muO e1[i]?) e1).bind fun p e2 => (ofO (dctO p.2) e2).bind fun kvs e3 => (ofO (putD kvs (.inr (Str.ofString k)) d) e3).bind fun q e4 => .ok .nx (e4.set i (.mu p.1 false (.dct q))) := rfl
@[simp] theorem z_sto : sen G X (.sto i a b) e = (vE (den G b).v e).bind fun d e1 => (ofO (muO e1[i]?) e1).bind fun _ e2 => (vE (den G a).v e2).bind fun n e3 => (ofO (muO e3[i]?) e3).bind fun p e4 => (ofO (stoD p.2 n d) e4).bind fun c e5 => .ok .nx (e5.set i (.mu p.1 false c)) := rfl
@[simp] theorem z_app : sen G X (.app i a) e = (ofO (muL e[i]?) e).bind fun _ e0 => (vE (den G a).v e0).bind fun d e1 => (ofO (muL e1[i]?) e1).bind fun p e2 => if p.2.length < big then .ok .nx (e2.set i (.mu p.1 false (.lst (p.2 ++ [d])))) else .bad := rfl
@[simp] theorem z_dpt : sen G X (.dpt i a b) e = (vE (den G b).v e).bind fun d e1 => (ofO (dctM e1[i]?) e1).bind fun _ e2 => (vE (den G a).v e2).bind fun kd e3 => (ofO (keyO kd) e3).bind fun q e4 => (ofO (dctM e4[i]?) e4).bind fun p e5 => if p.2.length < big then .ok .nx (e5.set i (.mu p.1 false (.dct (putG p.2 q d)))) else .bad := rfl
@[simp] theorem z_ext : sen G X (.ext i a) e = (ofO (muL e[i]?) e).bind fun _ e0 => ((den G a).v e0).bind fun r e1 => (ofO (freshL r) e1).bind fun ys e2 => (ofO (muL e2[i]?) e2).bind fun p e3 => if p.2.length + ys.length <= big then .ok .nx (e3.set i (.mu p.1 false (.lst (p.2 ++ ys)))) else .bad := rfl
@[simp] theorem z_objM {t : Bool} {cl : Str} {fs : List (Str × Fc)} : objM (some (.mu t false (.obj cl fs))) = some (t, cl, fs) := rfl
@[simp] theorem z_fcV {d : D} : fcR false (.val d) = some (.val d) := rfl
@[simp] theorem z_fcL {ds : List D} : fcR false (.fresh (.lst ds)) = some (.val (.list ds)) := rfl
@[simp] theorem z_fcM {ds : List D} : fcR true (.fresh (.lst ds)) = some (.lst ds) := rfl
@[simp] theorem z_fcD {kvs : List (Ky × D)} : fcR true (.fresh (.dct kvs)) = some (.dct kvs) := rfl
@[simp] theorem z_ast {ow : Bool} : sen G X (.ast i k ow a) e = ((den G a).v e).bind fun r e1 => (ofO (fcR ow r) e1).bind fun x e2 => (ofO (objM e2[i]?) e2).bind fun p e3 => if p.2.2.length < 900 /\ G.atr p.2.1 k = true then .ok .nx (e3.set i (.mu p.1 false (.obj p.2.1 (putFc (Str.ofString k) x p.2.2)))) else .bad := rfl
def adS (G : Gm) (k : String) : Option (Bool × Str × List (Str × Fc)) -> Option (Bool × Str × List (Str × Fc) × List (Ky × D))
 | some p => match p.2.2.lookup (Str.ofString k) with
  | some (.dct kvs) => if G.atr p.2.1 k = true then some (p.1, p.2.1, p.2.2, kvs) else none
  | _ => none
 | none => none
@[simp] theorem z_adp {j : Nat} : sen G X (.adp i k j a) e = (vE (den G a).v e).bind fun d e1 => (ofO (adS G k (objM e1[i]?)) e1).bind fun p e2 => (ofO ((nmD e2 j).bind keyO) e2).bind fun q e3 => if p.2.2.2.length < big then .ok .nx (e3.set i (.mu p.1 false (.obj p.2.1 (putFc (Str.ofString k) (.dct (putG p.2.2.2 q d)) p.2.2.1)))) else .bad := by
 show adpS G i k j (den G a).v e = _
 unfold adpS
 congr 1
 funext d e1
 congr 1
 unfold adM adS
 cases objM e1[i]? with
 | none => rfl
 | some p => rfl
@[simp] theorem z_freL {ds : List D} : freshL (.fresh (.lst ds)) = some ds := rfl
@[simp] theorem z_exp : sen G X (.exp a) e = ((den G a).v e).bind fun _ e1 => .ok .nx e1 := rfl
@[simp] theorem z_ret : sen G X (.ret a) e = ((den G a).v e).bind fun r e1 => (match r with
 | .slot i => (match e1[i]? with
  | some (.mu false false c) => .ok (.rt (.fresh c)) (e1.set i .un)
  | _ => .bad)
 | r => .ok (.rt r) e1 : Res Fl) := rfl
@[simp] theorem z_retN : sen G X .retN e = .ok (.rt (.val .none)) e := rfl
@[simp] theorem z_if : sen G X (.ite a t f) e = ((den G a).t e).bind fun k e1 => if k = true then sens G X t e1 else sens G X f e1 := rfl
@[simp] theorem z_frn {is : List Nat} : sen G X (.frn i is a t) e = ((den G a).w e).bind fun p e1 => frRun (frTurnP (put2 i is) (sens G X t)) p e1 := rfl
@[simp] theorem z_fr : sen G X (.fr tg pair a t) e = ((den G a).w e).bind fun p e1 => frRun (frTurn tg pair (sens G X t)) p e1 := rfl
@[simp] theorem z_for2 {x j : Nat} : sen G X (.for2 x j a t) e = ((den G a).v e).bind fun r e1 => if x = j then .bad else
 (ofO (setV x r e1) e1).bind fun e2 _ => (ofO (lockE j e2) e2).bind fun e3 _ => (unl1 j e2 (sens G X t e3)).bind (for2K x j (sens G X t)) := rfl
@[simp] theorem z_whl : sen G X (.whl a t) e = whGo (den G a).t (sens G X t) 1000000 e := rfl
@[simp] theorem z_rai : sen G X (.rai k es) e = if G.xc k = [] then .bad else (vEs (dens G es) e).bind fun ds e1 => if ds.length = (G.xc k).length /\ 0 < (G.xc k).length /\ (G.xc k).length <= 9 then .exc ⟨Str.ofString k, ((G.xc k).zip ds).reverse⟩ e1 else .bad := rfl
@[simp] theorem z_tra {cs : List String} : sen G X (.tra i cs t f) e = (if noXc e = true /\ (cs.all fun x => G.kn.contains x) = true then (match sens G X t e with
  | .bad => .bad
  | .ok f e1 => .ok f e1
  | .exc x e1 => (match anyX G x.cls cs with
   | none => .bad
   | some false => .exc x e1
   | some true => (match e1[i]? with
    | some .un => (match sens G X f (e1.set i (.xc x)) with
     | .ok f e2 => if noXc (e2.set i .un) = true /\ flOk i f = true /\ i < e2.length then .ok f (e2.set i .un) else .bad
     | _ => .bad)
    | _ => .bad))) else .bad : Res Fl) := rfl
@[simp] theorem z_tro {cs : List String} : sen G X (.tro cs t f) e = (if noXc e = true /\ (cs.all fun x => G.kn.contains x) = true then (match sens G X t e with
  | .bad => .bad
  | .ok f e1 => .ok f e1
  | .exc x e1 => (match anyX G x.cls cs with
   | none => .bad
   | some false => .exc x e1
   | some true => (match sens G X f e1 with
    | .ok f e2 => .ok f e2
    | _ => .bad))) else .bad : Res Fl) := rfl
@[simp] theorem z_swp : sen G X (.swp i a b c) e = (vE (den G c).v e).bind fun d e1 => (ofO (twoD d) e1).bind fun p e2 => stoC i (den G a).v p.1 (stoC i (den G b).v p.2 fun e => .ok .nx e) e2 := rfl
@[simp] theorem z_stoC {va : Vc} {d : D} {fk : Env -> Res Fl} : stoC i va d fk e = (ofO (muO e[i]?) e).bind fun _ e2 => (vE va e2).bind fun n e3 => (ofO (muO e3[i]?) e3).bind fun p e4 => (ofO (stoD p.2 n d) e4).bind fun c e5 => fk (e5.set i (.mu p.1 false c)) := rfl
@[simp] theorem z_anyX0 {c : Str} : anyX G c [] = some false := rfl
@[simp] theorem z_anyX1 {c : Str} {x : String} {xs : List String} : anyX G c (x :: xs) = (match G.sub c x, anyX G c xs with
  | some b, some d => some (b || d)
  | _, _ => none) := rfl
@[simp] theorem z_nev : sen G X .nev e = .bad := rfl
@[simp] theorem z_pas : sen G X .pas e = .ok .nx e := rfl
@[simp] theorem z_brk : sen G X .brk e = .ok .br e := rfl
@[simp] theorem z_cnt : sen G X .cnt e = .ok .ct e := rfl
def slR (i : Nat) (e : Env) : Option Sl -> Res R
 | some (.fz d) => .ok (.val d) e
 | some (.bo d) => if isL d = true then .ok (.slot i) e else .ok (.val d) e
 | some (.mu _ _ _) => .ok (.slot i) e
 | some (.bt _) => .ok (.slot i) e
 | _ => .bad
@[simp] theorem z_varC : varC i e = slR i e e[i]? := by
 unfold varC
 cases e[i]? with
 | none => rfl
 | some s => cases s <;> rfl
@[simp] theorem z_slF {d : D} : slR i e (some (.fz d)) = .ok (.val d) e := rfl
@[simp] theorem z_slM {p q : Bool} {c : C} : slR i e (some (.mu p q c)) = .ok (.slot i) e := rfl
@[simp] theorem z_slBi {n : Int} : slR i e (some (.bo (.int n))) = .ok (.val (.int n)) e := rfl
@[simp] theorem z_slBb {n : Bool} : slR i e (some (.bo (.bool n))) = .ok (.val (.bool n)) e := rfl
@[simp] theorem z_slBs {n : Str} : slR i e (some (.bo (.str n))) = .ok (.val (.str n)) e := rfl
@[simp] theorem z_slBn : slR i e (some (.bo .none)) = .ok (.val .none) e := rfl
@[simp] theorem z_slBt {n : List D} : slR i e (some (.bo (.tuple n))) = .ok (.val (.tuple n)) e := rfl
@[simp] theorem z_slBl {n : List D} : slR i e (some (.bo (.list n))) = .ok (.slot i) e := rfl
@[simp] theorem z_slBd {n : List (D × D)} : slR i e (some (.bo (.dict n))) = .ok (.val (.dict n)) e := rfl
def slD : Option Sl -> Option D
 | some (.mu _ _ (.lst ds)) => some (.list ds)
 | some (.bo d) => some d
 | _ => none
@[simp] theorem z_rdV {d : D} : rd e (.val d) = some d := rfl
@[simp] theorem z_rdF {ds : List D} : rd e (.fresh (.lst ds)) = some (.list ds) := rfl
@[simp] theorem z_rdS : rd e (.slot i) = slD e[i]? := by
 show (match e[i]? with
  | some (.mu _ _ (.lst ds)) => some (.list ds)
  | some (.bo d) => some d
  | _ => none : Option D) = _
 cases e[i]? with
 | none => rfl
 | some s =>
  cases s <;> first | rfl | (rename_i c; cases c <;> rfl)
@[simp] theorem z_slDm {p q : Bool} {ds : List D} : slD (some (.mu p q (.lst ds))) = some (.list ds) := rfl
@[simp] theorem z_slDb {d : D} : slD (some (.bo d)) = some d := rfl
@[simp] theorem z_setV {d : D} : setl e (.val d) = .ok (.val d) e := rfl
@[simp] theorem z_setS : setl e (.slot i) = .ok (.slot i) e := rfl
@[simp] theorem z_setF {ds : List D} : setl e (.fresh (.lst ds)) = .ok (.val (.list ds)) e := rfl
@[simp] theorem z_escV {d : D} : esc e (.val d) = .ok d e := rfl
@[simp] theorem z_escF {ds : List D} : esc e (.fresh (.lst ds)) = .ok (.list ds) e := rfl
def slE (i : Nat) (e : Env) : Option Sl -> Res D
 | some (.mu false false (.lst ds)) => .ok (.list ds) (e.set i (.fz (.list ds)))
 | _ => .bad
@[simp] theorem z_escS : esc e (.slot i) = slE i e e[i]? := by
 show (match e[i]? with
  | some (.mu false false (.lst ds)) => .ok (.list ds) (e.set i (.fz (.list ds)))
  | _ => .bad : Res D) = _
 cases e[i]? with
 | none => rfl
 | some s =>
  cases s <;> first | rfl | (rename_i p q c; cases p <;> cases q <;> cases c <;> rfl)
@[simp] theorem z_slE {ds : List D} : slE i e (some (.mu false false (.lst ds))) = .ok (.list ds) (e.set i (.fz (.list ds))) := rfl
@[simp] theorem z_eV {d : D} : escS (.val d) e = .ok (.val d) e := rfl
@[simp] theorem z_eF {q : C} : escS (.fresh q) e = .ok (.fresh q) e := rfl
@[simp] theorem z_eS : escS (.slot i) e = (esc e (.slot i)).bind fun d e2 => .ok (.val d) e2 := rfl
@[simp] theorem z_bolD {q : Bool} : bolD (.bool q) = some q := rfl
@[simp] theorem z_truB {q : Bool} : truD (.bool q) = some q := rfl
@[simp] theorem z_truI {n : Int} : truD (.int n) = some (n != 0) := rfl
@[simp] theorem z_intD {n : Int} : intD (.int n) = some n := rfl
@[simp] theorem z_fl {e1 : Env} : fl (some e1) = .ok .nx e1 := rfl
@[simp] theorem z_put0 : putAll [] [] e = some e := rfl
def slP (o : Option Sl) (q : Option Env) : Option Env := match o with
 | some .un => q
 | some (.fz _) => q
 | some (.bo _) => q
 | some (.xc _) => q
 | some (.th _) => q
 | some (.fns _) => q
 | some (.fnc _) => q
 | some (.bt _) => q
 | some (.mu false false _) => q
 | _ => none
@[simp] theorem z_put1 {d : D} {ds : List D} {is : List Nat} : putAll (i :: is) (d :: ds) e = slP e[i]? (putAll is ds (e.set i (.fz d))) := by
 show (match e[i]? with
  | some (.mu _ true _) => none
  | some (.mu true _ _) => none
  | some _ => putAll is ds (e.set i (.fz d))
  | none => none) = _
 cases e[i]? with
 | none => rfl
 | some s =>
  cases s <;> first | rfl | (rename_i p q c; cases p <;> cases q <;> rfl)
@[simp] theorem z_slPu {q : Option Env} : slP (some .un) q = q := rfl
@[simp] theorem z_slPf {q : Option Env} {d : D} : slP (some (.fz d)) q = q := rfl
@[simp] theorem z_slPb {q : Option Env} {d : D} : slP (some (.bo d)) q = q := rfl
@[simp] theorem z_slPt {q : Option Env} {f : Th} : slP (some (.th f)) q = q := rfl
@[simp] theorem z_slPn {q : Option Env} {f : List String} : slP (some (.fns f)) q = q := rfl
@[simp] theorem z_slPc {q : Option Env} {f : String} : slP (some (.fnc f)) q = q := rfl
@[simp] theorem z_slPbt {q : Option Env} {u : Ot} : slP (some (.bt u)) q = q := rfl
@[simp] theorem z_slPm {q : Option Env} {c : C} : slP (some (.mu false false c)) q = q := rfl
def setR (i : Nat) (e : Env) : R -> Option Env
 | .val d => some (e.set i (.fz d))
 | .fresh c => some (e.set i (.mu false false c))
 | .slot _ => none
@[simp] theorem z_setVr {r : R} : setV i r e = slP e[i]? (setR i e r) := by
 show (match e[i]? with
  | some (.mu _ true _) => none
  | some (.mu true _ _) => none
  | some _ => (match r with
   | .val d => some (e.set i (.fz d))
   | .fresh c => some (e.set i (.mu false false c))
   | .slot _ => none)
  | none => none : Option Env) = _
 cases e[i]? with
 | none => rfl
 | some s => cases s <;> first | (cases r <;> rfl) | (rename_i p q c; cases p <;> cases q <;> cases r <;> rfl)
@[simp] theorem z_sRv {d : D} : setR i e (.val d) = some (e.set i (.fz d)) := rfl
@[simp] theorem z_sRf {c : C} : setR i e (.fresh c) = some (e.set i (.mu false false c)) := rfl
@[simp] theorem z_muO {p : Bool} {c : C} : muO (some (.mu p false c)) = some (p, c) := rfl
@[simp] theorem z_muL {p : Bool} {ds : List D} : muL (some (.mu p false (.lst ds))) = some (p, ds) := rfl
@[simp] theorem z_putT {d : D} : putT [i] false d e = putAll [i] [d] e := rfl
@[simp] theorem z_rdA0 : rdAll e [] = some [] := rfl
@[simp] theorem z_rdA1 {r : R} {rs : List R} : rdAll e (r :: rs) = (rd e r).bind fun d => (rdAll e rs).map (d :: ·) := rfl
def slG (i : Nat) (k : String) (e : Env) : Option Sl -> Res R
 | some (.mu _ _ (.dct kvs)) => (ofO (keyD kvs (.inr (Str.ofString k))) e).bind fun d e1 => .ok (.val d) e1
 | _ => .bad
@[simp] theorem z_dgC : dgC i k e = slG i k e e[i]? := by
 show (match e[i]? with
  | some (.mu _ _ (.dct kvs)) => (ofO (keyD kvs (.inr (Str.ofString k))) e).bind fun d e1 => .ok (.val d) e1
  | _ => .bad : Res R) = _
 cases e[i]? with
 | none => rfl
 | some s =>
  cases s <;> first | rfl | (rename_i c; cases c <;> rfl)
@[simp] theorem z_slG {p q : Bool} {kvs : List (Ky × D)} : slG i k e (some (.mu p q (.dct kvs))) = (ofO (keyD kvs (.inr (Str.ofString k))) e).bind fun d e1 => .ok (.val d) e1 := rfl
@[simp] theorem z_escA0 : escAll [] [] e = some ([], e) := rfl
@[simp] theorem z_escAb {ms : List Mo} {r : R} {rs : List R} : escAll (.b :: ms) (r :: rs) e = (escAll ms rs e).map fun q => (r :: q.1, q.2) := rfl
@[simp] theorem z_escAl {ms : List Mo} {r : R} {rs : List R} : escAll (.l :: ms) (r :: rs) e = (escAll ms rs e).map fun q => (r :: q.1, q.2) := rfl
@[simp] theorem z_rA0 : readAll e [] [] = some ([], []) := rfl
@[simp] theorem z_rAb {ms : List Mo} {r : R} {rs : List R} : readAll e (.b :: ms) (r :: rs) = (rd e r).bind fun d => (readAll e ms rs).map fun q => (d :: q.1, q.2) := rfl
def slL (i : Nat) (q : Option (List D × List Nat)) : Option Sl -> Option (List D × List Nat)
 | some (.mu _ false c) => q.map fun (z : List D × List Nat) => (c.d :: z.1, i :: z.2)
 | _ => none
@[simp] theorem z_rAl {ms : List Mo} {rs : List R} : readAll e (.l :: ms) (.slot i :: rs) = slL i (readAll e ms rs) e[i]? := by
 show (match e[i]? with
  | some (.mu _ false c) => (readAll e ms rs).map fun (q : List D × List Nat) => (c.d :: q.1, i :: q.2)
  | _ => none : Option (List D × List Nat)) = _
 cases e[i]? with
 | none => rfl
 | some s =>
  cases s <;> first | rfl | (rename_i p q c; cases q <;> rfl)
@[simp] theorem z_slL {p : Bool} {c : C} {q : Option (List D × List Nat)} : slL i q (some (.mu p false c)) = q.map fun (z : List D × List Nat) => (c.d :: z.1, i :: z.2) := rfl
@[simp] theorem z_ap0 {ls : List Nat} : apart ls [] [] = true := rfl
@[simp] theorem z_apBv {ls : List Nat} {ms : List Mo} {d : D} {rs : List R} : apart ls (.b :: ms) (.val d :: rs) = apart ls ms rs := rfl
@[simp] theorem z_apBs {ls : List Nat} {ms : List Mo} {rs : List R} : apart ls (.b :: ms) (.slot i :: rs) = (!ls.contains i && apart ls ms rs) := rfl
@[simp] theorem z_apL {ls : List Nat} {ms : List Mo} {r : R} {rs : List R} : apart ls (.l :: ms) (r :: rs) = apart ls ms rs := by cases r <;> rfl
@[simp] theorem z_un0 : uniq [] = true := rfl
@[simp] theorem z_un1 {n : Nat} {ns : List Nat} : uniq (n :: ns) = (!ns.contains n && uniq ns) := rfl
@[simp] theorem z_beR {ls : List Nat} {d : D} {cs : List C} : behind ls e (.ret d cs) = (ofO (putBack ls cs e) e).bind fun e' _ => .ok (.val d) e' := by
 show (match putBack ls cs e with
  | some e' => .ok (.val d) e'
  | none => .bad : Res R) = _
 cases putBack ls cs e <;> rfl
@[simp] theorem z_beF {ls : List Nat} {c : C} {cs : List C} : behind ls e (.fresh c cs) = (ofO (putBack ls cs e) e).bind fun e' _ => .ok (.fresh c) e' := by
 show (match putBack ls cs e with
  | some e' => .ok (.fresh c) e'
  | none => .bad : Res R) = _
 cases putBack ls cs e <;> rfl
@[simp] theorem z_beX {ls : List Nat} {x : Xn} {cs : List C} : behind ls e (.exc x cs) = (match putBack ls cs e with
  | some e' => .exc x e'
  | none => .bad : Res R) := rfl
@[simp] theorem z_pk0 {α : Type} {l : List α} : pick [] l = some [] := rfl
@[simp] theorem z_pk1 {α : Type} {l : List α} {is : List Nat} : pick (i :: is) l = (l[i]?).bind fun a => (pick is l).map (a :: ·) := rfl
@[simp] theorem z_vNa1 : vNs (dens G (a :: es) ++ dens G kes) e = (vN (den G a).v e).bind fun d e1 => (vNs (dens G es ++ dens G kes) e1).bind fun ds e2 => .ok (d :: ds) e2 := rfl
@[simp] theorem z_pb0 : putBack [] [] e = some e := rfl
def slK (i : Nat) (f : Bool -> Option Env) : Option Sl -> Option Env
 | some (.mu t false _) => f t
 | _ => none
@[simp] theorem z_pb1 {is : List Nat} {c : C} {cs : List C} : putBack (i :: is) (c :: cs) e = slK i (fun t => putBack is cs (e.set i (.mu t false c))) e[i]? := by
 show (match e[i]? with
  | some (.mu t false _) => putBack is cs (e.set i (.mu t false c))
  | _ => none) = _
 cases e[i]? with
 | none => rfl
 | some s =>
  cases s <;> first | rfl | (rename_i p q c; cases q <;> rfl)
@[simp] theorem z_slK {p : Bool} {c : C} {q : Bool -> Option Env} : slK i q (some (.mu p false c)) = q p := rfl
@[simp] theorem z_fin {ms : List Mo} {r : R} : fin ms r e = (match lentOf ms 0 e with
 | none => .bad
 | some cs => (match r with
  | .val d => .ret d cs
  | .fresh c => .fresh c cs
  | .slot _ => .bad : FRes)) := rfl
@[simp] theorem z_len0 {n : Nat} : lentOf [] n e = some [] := rfl
@[simp] theorem z_lenB {n : Nat} {ms : List Mo} : lentOf (.b :: ms) n e = lentOf ms (n + 1) e := rfl
@[simp] theorem z_lenF {n : Nat} {ms : List Mo} : lentOf (.f :: ms) n e = lentOf ms (n + 1) e := rfl
def slZ (q : Option (List C)) : Option Sl -> Option (List C)
 | some (.mu true false c) => q.map (c :: ·)
 | _ => none
@[simp] theorem z_lenL {n : Nat} {ms : List Mo} : lentOf (.l :: ms) n e = slZ (lentOf ms (n + 1) e) e[n]? := by
 show (match e[n]? with
  | some (.mu true false c) => (lentOf ms (n + 1) e).map (c :: ·)
  | _ => none) = _
 cases e[n]? with
 | none => rfl
 | some s =>
  cases s <;> first | rfl | (rename_i p q c; cases p <;> cases q <;> rfl)
@[simp] theorem z_slZ {c : C} {q : Option (List C)} : slZ q (some (.mu true false c)) = q.map (c :: ·) := rfl
theorem z_run {d : Df} {ds : List D} {e0 : Env} (h : startE d.mo ds = some e0) : runD G X d ds = (match sens G X d.body (e0 ++ List.replicate (d.N.length - e0.length) .un) with
  | .bad => .bad
  | .ok (.rt r) e1 => fin d.mo r e1
  | .ok .nx e1 => fin d.mo (.val .none) e1
  | .ok _ _ => .bad
  | .exc x e1 => match lentOf d.mo 0 e1 with
   | some cs => .exc x cs
   | none => .bad : FRes) := by
 unfold runD
 rw [h]
 all_goals rfl
end
end Ev
namespace Ev
open PySem
theorem kt_none_int : L2.kitB "NoneType" "int" = some false := by decide +kernel
@[simp] theorem kd_none_int : isK .none "int" = some false := kt_none_int
theorem kt_none_bool : L2.kitB "NoneType" "bool" = some false := by decide +kernel
@[simp] theorem kd_none_bool : isK .none "bool" = some false := kt_none_bool
theorem kt_none_str : L2.kitB "NoneType" "str" = some false := by decide +kernel
@[simp] theorem kd_none_str : isK .none "str" = some false := kt_none_str
theorem kt_none_tuple : L2.kitB "NoneType" "tuple" = some false := by decide +kernel
@[simp] theorem kd_none_tuple : isK .none "tuple" = some false := kt_none_tuple
theorem kt_none_list : L2.kitB "NoneType" "list" = some false := by decide +kernel
@[simp] theorem kd_none_list : isK .none "list" = some false := kt_none_list
theorem kt_none_dict : L2.kitB "NoneType" "dict" = some false := by decide +kernel
@[simp] theorem kd_none_dict : isK .none "dict" = some false := kt_none_dict
theorem kt_bool_int : L2.kitB "bool" "int" = some true := by decide +kernel
@[simp] theorem kd_bool_int {x : Bool} : isK (.bool x) "int" = some true := kt_bool_int
theorem kt_bool_bool : L2.kitB "bool" "bool" = some true := by decide +kernel
@[simp] theorem kd_bool_bool {x : Bool} : isK (.bool x) "bool" = some true := kt_bool_bool
theorem kt_bool_str : L2.kitB "bool" "str" = some false := by decide +kernel
@[simp] theorem kd_bool_str {x : Bool} : isK (.bool x) "str" = some false := kt_bool_str
theorem kt_bool_tuple : L2.kitB "bool" "tuple" = some false := by decide +kernel
@[simp] theorem kd_bool_tuple {x : Bool} : isK (.bool x) "tuple" = some false := kt_bool_tuple
theorem kt_bool_list : L2.kitB "bool" "list" = some false := by decide +kernel
@[simp] theorem kd_bool_list {x : Bool} : isK (.bool x) "list" = some false := kt_bool_list
theorem kt_bool_dict : L2.kitB "bool" "dict" = some false := by decide +kernel
@[simp] theorem kd_bool_dict {x : Bool} : isK (.bool x) "dict" = some false := kt_bool_dict
theorem kt_int_int : L2.kitB "int" "int" = some true := by decide +kernel
@[simp] theorem kd_int_int {x : Int} : isK (.int x) "int" = some true := kt_int_int
theorem kt_int_bool : L2.kitB "int" "bool" = some false := by decide +kernel
@[simp] theorem kd_int_bool {x : Int} : isK (.int x) "bool" = some false := kt_int_bool
theorem kt_int_str : L2.kitB "int" "str" = some false := by decide +kernel
@[simp] theorem kd_int_str {x : Int} : isK (.int x) "str" = some false := kt_int_str
theorem kt_int_tuple : L2.kitB "int" "tuple" = some false := by decide +kernel
@[simp] theorem kd_int_tuple {x : Int} : isK (.int x) "tuple" = some false := kt_int_tuple
theorem kt_int_list : L2.kitB "int" "list" = some false := by decide +kernel
@[simp] theorem kd_int_list {x : Int} : isK (.int x) "list" = some false := kt_int_list
theorem kt_int_dict : L2.kitB "int" "dict" = some false := by decide +kernel
@[simp] theorem kd_int_dict {x : Int} : isK (.int x) "dict" = some false := kt_int_dict
theorem kt_str_int : L2.kitB "str" "int" = some false := by decide +kernel
@[simp] theorem kd_str_int {x : Str} : isK (.str x) "int" = some false := kt_str_int
theorem kt_str_bool : L2.kitB "str" "bool" = some false := by decide +kernel
@[simp] theorem kd_str_bool {x : Str} : isK (.str x) "bool" = some false := kt_str_bool
theorem kt_str_str : L2.kitB "str" "str" = some true := by decide +kernel
@[simp] theorem kd_str_str {x : Str} : isK (.str x) "str" = some true := kt_str_str
theorem kt_str_tuple : L2.kitB "str" "tuple" = some false := by decide +kernel
@[simp] theorem kd_str_tuple {x : Str} : isK (.str x) "tuple" = some false := kt_str_tuple
theorem kt_str_list : L2.kitB "str" "list" = some false := by decide +kernel
@[simp] theorem kd_str_list {x : Str} : isK (.str x) "list" = some false := kt_str_list
theorem kt_str_dict : L2.kitB "str" "dict" = some false := by decide +kernel
@[simp] theorem kd_str_dict {x : Str} : isK (.str x) "dict" = some false := kt_str_dict
theorem kt_list_int : L2.kitB "list" "int" = some false := by decide +kernel
@[simp] theorem kd_list_int {x : List D} : isK (.list x) "int" = some false := kt_list_int
theorem kt_list_bool : L2.kitB "list" "bool" = some false := by decide +kernel
@[simp] theorem kd_list_bool {x : List D} : isK (.list x) "bool" = some false := kt_list_bool
theorem kt_list_str : L2.kitB "list" "str" = some false := by decide +kernel
@[simp] theorem kd_list_str {x : List D} : isK (.list x) "str" = some false := kt_list_str
theorem kt_list_tuple : L2.kitB "list" "tuple" = some false := by decide +kernel
@[simp] theorem kd_list_tuple {x : List D} : isK (.list x) "tuple" = some false := kt_list_tuple
theorem kt_list_list : L2.kitB "list" "list" = some true := by decide +kernel
@[simp] theorem kd_list_list {x : List D} : isK (.list x) "list" = some true := kt_list_list
theorem kt_list_dict : L2.kitB "list" "dict" = some false := by decide +kernel
@[simp] theorem kd_list_dict {x : List D} : isK (.list x) "dict" = some false := kt_list_dict
theorem kt_tuple_int : L2.kitB "tuple" "int" = some false := by decide +kernel
@[simp] theorem kd_tuple_int {x : List D} : isK (.tuple x) "int" = some false := kt_tuple_int
theorem kt_tuple_bool : L2.kitB "tuple" "bool" = some false := by decide +kernel
@[simp] theorem kd_tuple_bool {x : List D} : isK (.tuple x) "bool" = some false := kt_tuple_bool
theorem kt_tuple_str : L2.kitB "tuple" "str" = some false := by decide +kernel
@[simp] theorem kd_tuple_str {x : List D} : isK (.tuple x) "str" = some false := kt_tuple_str
theorem kt_tuple_tuple : L2.kitB "tuple" "tuple" = some true := by decide +kernel
@[simp] theorem kd_tuple_tuple {x : List D} : isK (.tuple x) "tuple" = some true := kt_tuple_tuple
theorem kt_tuple_list : L2.kitB "tuple" "list" = some false := by decide +kernel
@[simp] theorem kd_tuple_list {x : List D} : isK (.tuple x) "list" = some false := kt_tuple_list
theorem kt_tuple_dict : L2.kitB "tuple" "dict" = some false := by decide +kernel
@[simp] theorem kd_tuple_dict {x : List D} : isK (.tuple x) "dict" = some false := kt_tuple_dict
theorem kt_dict_int : L2.kitB "dict" "int" = some false := by decide +kernel
@[simp] theorem kd_dict_int {x : List (D × D)} : isK (.dict x) "int" = some false := kt_dict_int
theorem kt_dict_bool : L2.kitB "dict" "bool" = some false := by decide +kernel
@[simp] theorem kd_dict_bool {x : List (D × D)} : isK (.dict x) "bool" = some false := kt_dict_bool
theorem kt_dict_str : L2.kitB "dict" "str" = some false := by decide +kernel
@[simp] theorem kd_dict_str {x : List (D × D)} : isK (.dict x) "str" = some false := kt_dict_str
theorem kt_dict_tuple : L2.kitB "dict" "tuple" = some false := by decide +kernel
@[simp] theorem kd_dict_tuple {x : List (D × D)} : isK (.dict x) "tuple" = some false := kt_dict_tuple
theorem kt_dict_list : L2.kitB "dict" "list" = some false := by decide +kernel
@[simp] theorem kd_dict_list {x : List (D × D)} : isK (.dict x) "list" = some false := kt_dict_list
theorem kt_dict_dict : L2.kitB "dict" "dict" = some true := by decide +kernel
@[simp] theorem kd_dict_dict {x : List (D × D)} : isK (.dict x) "dict" = some true := kt_dict_dict
@[simp] theorem q_lt {a b : Int} : cop .Lt (.int a) (.int b) = some (decide (a < b)) := rfl
@[simp] theorem q_gt {a b : Int} : cop .Gt (.int a) (.int b) = some (decide (b < a)) := rfl
@[simp] theorem q_le {a b : Int} : cop .LtE (.int a) (.int b) = some (decide (a <= b)) := by
 show some (!decide (b < a)) = _
 congr 1
 by_cases h : a <= b
 . rw [decide_eq_true h, decide_eq_false (by omega)]; rfl
 . rw [decide_eq_false h, decide_eq_true (by omega)]; rfl
@[simp] theorem q_ge {a b : Int} : cop .GtE (.int a) (.int b) = some (decide (b <= a)) := by
 show some (!decide (a < b)) = _
 congr 1
 by_cases h : b <= a
 . rw [decide_eq_true h, decide_eq_false (by omega)]; rfl
 . rw [decide_eq_false h, decide_eq_true (by omega)]; rfl
@[simp] theorem o_add {a b : Int} : bop .Add (.int a) (.int b) = some (.val (.int (a + b))) := rfl
@[simp] theorem o_sub {a b : Int} : bop .Sub (.int a) (.int b) = some (.val (.int (a - b))) := rfl
theorem o_mul {a b : Int} (h : (-(2 ^ 64) < a /\ a < 2 ^ 64) \/ (-(2 ^ 64) < b /\ b < 2 ^ 64)) : bop .Mult (.int a) (.int b) = some (.val (.int (a * b))) := if_pos h
theorem o_div {a b : Int} (h : 0 < b) (h2 : b.natAbs.log2 < 9000) : bop .FloorDiv (.int a) (.int b) = some (.val (.int (a / b))) := if_pos ⟨h, h2⟩
theorem o_mod {a b : Int} (h : 0 < b) : bop .Mod (.int a) (.int b) = some (.val (.int (a % b))) := if_pos h
theorem o_pow {a b : Int} (h : 0 <= b /\ b <= 1000000 /\ a.natAbs < 2 ^ 64) : bop .Pow (.int a) (.int b) = some (.val (.int (a ^ b.toNat))) := if_pos h
theorem log2_lt {n k : Nat} (h : n < 2 ^ k) (hk : 0 < k) : n.log2 < k := by
 by_cases h0 : n = 0
 . subst h0
   rw [Nat.log2_zero]
   exact hk
 . exact (Nat.log2_lt h0).mpr h
theorem fr_inv {turn : D -> Sc} {ds : List D} (I : Nat -> Env -> Prop) (h : ∀ k d e, ds[k]? = some d -> I k e -> ∃ f e', turn d e = .ok f e' /\ (f = .nx \/ f = .ct) /\ I (k + 1) e') {e : Env} (h0 : I 0 e) : ∃ e', frGo turn ds e = .ok .nx e' /\ I ds.length e' := by
 induction ds generalizing e I with
 | nil => exact ⟨e, rfl, h0⟩
 | cons d ds ih =>
  obtain ⟨f, e1, h1, h2, h3⟩ := h 0 d e rfl h0
  obtain ⟨e2, h4, h5⟩ := ih (fun k => I (k + 1)) (fun k d' e' hk hI => h (k + 1) d' e' (by simpa using hk) hI) h3
  refine ⟨e2, ?_, by simpa using h5⟩
  unfold frGo
  rw [h1, bind_ok]
  rcases h2 with rfl | rfl <;> exact h4
theorem lc_inv {turn : D -> Env -> Res (Option D)} {ds : List D} (I : Nat -> Env -> List D -> Prop) (h : ∀ k d e acc, ds[k]? = some d -> I k e acc -> ∃ o e', turn d e = .ok o e' /\ I (k + 1) e' (acc ++ o.toList)) {e : Env} {acc : List D} (h0 : I 0 e acc) : ∃ r e', lcGo turn ds e = .ok r e' /\ I ds.length e' (acc ++ r) := by
 induction ds generalizing e I acc with
 | nil => exact ⟨[], e, rfl, by simpa using h0⟩
 | cons d ds ih =>
  obtain ⟨o, e1, h1, h3⟩ := h 0 d e acc rfl h0
  obtain ⟨r, e2, h4, h5⟩ := ih (fun k => I (k + 1)) (fun k d' e' a hk hI => h (k + 1) d' e' a (by simpa using hk) hI) h3
  refine ⟨consO o r, e2, ?_, ?_⟩
  . unfold lcGo
    rw [h1, bind_ok, h4, bind_ok]
  . cases o <;> simpa [consO] using h5
theorem gm_fn {Tb : List Df} {X : Xt} {k : Nat} {f : String} {d : Df} (h : (Tb.find? fun d => d.name == f) = some d) (hd : d.df = [] := by rfl) : (gm Tb X (k + 1)).fn f = some (d.mo, runD (gm Tb X k) X d) := by
 show ((Tb.find? fun d => d.name == f).map fun d => (d.mo.take (d.mo.length - d.df.length), fun ds => runD (gm Tb X k) X d (ds ++ d.df))) = _
 rw [h]
 show some (d.mo.take (d.mo.length - d.df.length), fun ds => runD (gm Tb X k) X d (ds ++ d.df)) = _
 rw [hd]
 simp
@[simp] theorem gm_atr {Tb : List Df} {X : Xt} {k : Nat} : (gm Tb X k).atr = X.atr := by cases k <;> rfl
@[simp] theorem gm_tb {Tb : List Df} {X : Xt} {k : Nat} : (gm Tb X k).tb = X.tb := by cases k <;> rfl
@[simp] theorem gm_xc {Tb : List Df} {X : Xt} {k : Nat} : (gm Tb X k).xc = X.xc := by cases k <;> rfl
@[simp] theorem gm_sub {Tb : List Df} {X : Xt} {k : Nat} : (gm Tb X k).sub = X.sub := by cases k <;> rfl
@[simp] theorem gm_fld {Tb : List Df} {X : Xt} {k : Nat} : (gm Tb X k).fld = X.fld := by cases k <;> rfl
@[simp] theorem gm_kn {Tb : List Df} {X : Xt} {k : Nat} : (gm Tb X k).kn = X.kn := by cases k <;> rfl
@[simp] theorem gm_lofn {Tb : List Df} {X : Xt} {k : Nat} : (gm Tb X (k + 3)).lo.fn = (gm Tb X (k + 1)).fn := rfl
@[simp] theorem gm_lofk {Tb : List Df} {X : Xt} {k : Nat} : (gm Tb X (k + 3)).lo.fk = (gm Tb X (k + 1)).fk := rfl
@[simp] theorem gm_loxc {Tb : List Df} {X : Xt} {k : Nat} : (gm Tb X k).lo.xc = X.xc := gm_xc
@[simp] theorem gm_losub {Tb : List Df} {X : Xt} {k : Nat} : (gm Tb X k).lo.sub = X.sub := gm_sub
@[simp] theorem gm_lofld {Tb : List Df} {X : Xt} {k : Nat} : (gm Tb X k).lo.fld = X.fld := gm_fld
@[simp] theorem gm_lokn {Tb : List Df} {X : Xt} {k : Nat} : (gm Tb X k).lo.kn = X.kn := gm_kn
@[simp] theorem z_offX {x : Xn} {e : Ev.Env} : offS (.exc x e) = .exc x e := rfl
section
variable {G : Gm} {own tg : List Nat} {pair : Bool} {oc : Option (Ev.Env -> Res Bool)} {x : Vc} {d : D} {ds : List D} {e e1 : Ev.Env} {i : Nat} {is : List Nat} {m : ME}
@[simp] theorem z_lcR {turn : D -> Ev.Env -> Res (Option D)} : lcRun own turn (.vals ds) e = (ofO (wipeE e own) e).bind fun e2 _ => if ds.length < big then (lcGo turn ds e2).bind fun ds e3 => .ok ds (backE e e3 own) else .bad := by
 show (match wipeE e own with
  | none => .bad
  | some e2 => if ds.length < big then (lcGo turn ds e2).bind fun ds e3 => .ok ds (backE e e3 own) else .bad : Res (List D)) = _
 cases wipeE e own <;> rfl
@[simp] theorem z_lcG0 {turn : D -> Ev.Env -> Res (Option D)} : lcGo turn [] e = .ok [] e := rfl
@[simp] theorem z_lcG1 {turn : D -> Ev.Env -> Res (Option D)} : lcGo turn (d :: ds) e = (turn d e).bind fun o e1 => (lcGo turn ds e1).bind fun r e2 => .ok (consO o r) e2 := rfl
@[simp] theorem endX_ok {α : Type} {f : Ev.Env -> Option Ev.Env} {a : α} {e : Ev.Env} : endX f (.ok a e) = (ofO (f e) e).bind fun e' _ => .ok a e' := by
 show (match f e with
  | some e' => Res.ok a e'
  | none => .bad) = _
 cases f e <;> rfl
@[simp] theorem endX_exc {α : Type} {f : Ev.Env -> Option Ev.Env} {y : Xn} {e : Ev.Env} : (endX f (.exc y e) : Res α) = match f e with
  | some e' => .exc y e'
  | none => .bad := rfl
@[simp] theorem z_lcRX {turn : D -> Ev.Env -> Res (Option D)} : lcRunX own turn (.vals ds) e = (ofO (wipeE e own) e).bind fun e2 _ => if ds.length < big then endX (fun e3 => some (backE e e3 own)) (lcGo turn ds e2) else .bad := by
 show (match wipeE e own with
  | none => .bad
  | some e2 => if ds.length < big then endX (fun e3 => some (backE e e3 own)) (lcGo turn ds e2) else .bad : Res (List D)) = _
 cases wipeE e own <;> rfl
@[simp] theorem z_lcTX : lcTurnX own tg pair x d e = (ofO (putT tg pair d e) e).bind fun s1 _ => endX (fun s => wipeE s own) ((vE x s1).bind fun d s3 => .ok (some d) s3) := by
 unfold lcTurnX
 cases putT tg pair d e with
 | none => rfl
 | some s1 =>
  show (match vE x s1 with
   | .bad => .bad
   | .ok d s3 => (match wipeE s3 own with
    | some s4 => .ok (some d) s4
    | none => .bad)
   | .exc y s3 => (match wipeE s3 own with
    | some s4 => .exc y s4
    | none => .bad) : Res (Option D)) = endX _ _
  cases vE x s1 <;> rfl
@[simp] theorem z_lc2RX {turn : D -> Ev.Env -> Res (List D)} : lc2RunX own turn (.vals ds) e = (ofO (wipeE e own) e).bind fun e2 _ => if ds.length < 1024 then endX (fun e3 => some (backE e e3 own)) (lc2Go turn ds e2) else .bad := by
 show (match wipeE e own with
  | none => .bad
  | some e2 => if ds.length < 1024 then endX (fun e3 => some (backE e e3 own)) (lc2Go turn ds e2) else .bad : Res (List D)) = _
 cases wipeE e own <;> rfl
@[simp] theorem z_lc2TX {w1 : Ev.Env -> Res Src} {tg1 : List Nat} {turn1 : D -> Ev.Env -> Res (Option D)} : lc2TurnX own tg pair w1 tg1 turn1 d e = (ofO (putT tg pair d e) e).bind fun s1 _ => endX (fun s => wipeE s own) ((w1 s1).bind fun p s3 => noX ((lcIn tg1 turn1 p s3).bind fun ds s4 => if ds.length < 1024 then .ok ds s4 else .bad)) := by
 unfold lc2TurnX
 cases putT tg pair d e with
 | none => rfl
 | some s1 =>
  simp only [ofO_some, bind_ok]
  cases w1 s1 with
  | bad => rfl
  | exc y s3 => rfl
  | ok p s3 =>
   dsimp only
   rw [bind_ok]
   cases lcIn tg1 turn1 p s3 with
   | bad => rfl
   | exc y s4 => rfl
   | ok ds s4 =>
    rw [bind_ok, bind_ok]
    by_cases c : ds.length < 1024
    . rw [if_pos c, if_pos c]
      have e2 : endX (fun s => wipeE s own) (noX (.ok ds s4)) = (match wipeE s4 own with
       | some e' => .ok ds e'
       | none => .bad) := rfl
      rw [e2]
      cases wipeE s4 own <;> rfl
    . rw [if_neg c, if_neg c]
      rfl
@[simp] theorem z_lcT : lcTurn own tg pair oc x d e = (ofO (putT tg pair d e) e).bind fun s1 _ => noX ((tstC oc s1).bind fun k s2 => if k = true then (vE x s2).bind fun d s3 => (ofO (wipeE s3 own) s3).bind fun s4 _ => .ok (some d) s4 else (ofO (wipeE s2 own) s2).bind fun s4 _ => .ok none s4) := by
 unfold lcTurn
 cases putT tg pair d e with
 | none => rfl
 | some s1 =>
  simp only [ofO_some, bind_ok]
  congr 2
  funext k s2
  split
  . congr 1
    funext d s3
    cases wipeE s3 own <;> rfl
  . cases wipeE s2 own <;> rfl
@[simp] theorem z_noX {α : Type} {a : α} : noX (.ok a e) = .ok a e := rfl
@[simp] theorem z_tst0 : tstC (denT G none) e = .ok true e := rfl
@[simp] theorem z_tst1 : tstC (denT G (some m)) e = (den G m).t e := rfl
@[simp] theorem z_con0 {r : List D} : consO none r = r := rfl
@[simp] theorem z_con1 {r : List D} : consO (some d) r = d :: r := rfl
def slW (o : Option Sl) (q : Option Ev.Env) : Option Ev.Env := match o with
 | some .un => q
 | some (.fz _) => q
 | some (.bo _) => q
 | some (.xc _) => q
 | some (.th _) => q
 | some (.fns _) => q
 | some (.fnc _) => q
 | some (.bt _) => q
 | _ => none
@[simp] theorem z_wi0 : wipeE e [] = some e := rfl
@[simp] theorem z_wi1 : wipeE e (i :: is) = slW e[i]? (wipeE (e.set i .un) is) := by
 show (match e[i]? with
  | some (.mu _ _ _) => none
  | some _ => wipeE (e.set i .un) is
  | none => none) = _
 cases e[i]? with
 | none => rfl
 | some s => cases s <;> rfl
@[simp] theorem z_slWu {q : Option Ev.Env} : slW (some .un) q = q := rfl
@[simp] theorem z_slWf {q : Option Ev.Env} : slW (some (.fz d)) q = q := rfl
@[simp] theorem z_slWb {q : Option Ev.Env} : slW (some (.bo d)) q = q := rfl
@[simp] theorem z_slWn {q : Option Ev.Env} {f : List String} : slW (some (.fns f)) q = q := rfl
@[simp] theorem z_slWc {q : Option Ev.Env} {f : String} : slW (some (.fnc f)) q = q := rfl
@[simp] theorem z_slWbt {q : Option Ev.Env} {u : Ot} : slW (some (.bt u)) q = q := rfl
@[simp] theorem z_ba0 : backE e1 e [] = e := rfl
@[simp] theorem z_ba1 : backE e1 e (i :: is) = backE e1 (e.set i (e1[i]?.getD .un)) is := rfl
@[simp] theorem z_srV : srcOf false e (.val d) = (ofO (itemsD d) e).bind fun ds e1 => .ok (.vals ds) e1 := rfl
@[simp] theorem z_seT : srcOf true e (.val (.tuple ds)) = .ok (.vals (enumD ds)) e := rfl
@[simp] theorem z_seL : srcOf true e (.val (.list ds)) = .ok (.vals (enumD ds)) e := rfl
@[simp] theorem z_itL : itemsD (.list ds) = some ds := rfl
@[simp] theorem z_itT : itemsD (.tuple ds) = some ds := rfl
def slS (i : Nat) (e : Ev.Env) : Option Sl -> Res Src
 | some (.bo (.list ds)) => .ok (.vals ds) e
 | some (.mu _ _ (.lst _)) => .ok (.slot i false) e
 | _ => .bad
@[simp] theorem z_srS : srcOf false e (.slot i) = slS i e e[i]? := by
 show (match e[i]? with
  | some (.bo (.list ds)) => .ok (.vals (if false = true then enumD ds else ds)) e
  | some (.mu _ _ (.lst _)) => .ok (.slot i false) e
  | _ => .bad : Res Src) = _
 cases e[i]? with
 | none => rfl
 | some s => cases s <;> first | rfl | (rename_i d; cases d <;> rfl)
@[simp] theorem z_slSb : slS i e (some (.bo (.list ds))) = .ok (.vals ds) e := rfl
@[simp] theorem z_slSm {p q : Bool} : slS i e (some (.mu p q (.lst ds))) = .ok (.slot i false) e := rfl
@[simp] theorem z_frV {turn : D -> Sc} : frRun turn (.vals ds) e = offS (frGo turn ds e) := rfl
@[simp] theorem z_off {f : Fl} : offS (.ok f e) = .ok (brk2nx f) e := rfl
@[simp] theorem z_b2n : brk2nx .nx = .nx := rfl
@[simp] theorem z_b2b : brk2nx .br = .nx := rfl
@[simp] theorem z_b2r {r : R} : brk2nx (.rt r) = .rt r := rfl
@[simp] theorem z_frTP {b : Sc} {i : Nat} {is : List Nat} : frTurnP (put2 i is) b d e = (ofO (put2 i is d e) e).bind fun e1 _ => b e1 := by
 unfold frTurnP
 cases put2 i is d e <;> rfl
@[simp] theorem z_put2 {i : Nat} {is : List Nat} {a b : D} : put2 i is (.tuple [a, b]) e = (putAll [i] [a] e).bind fun e2 => putT is true b e2 := rfl
@[simp] theorem z_frT {b : Sc} : frTurn tg pair b d e = (ofO (putT tg pair d e) e).bind fun e1 _ => b e1 := by
 unfold frTurn frTurnP
 cases putT tg pair d e <;> rfl
@[simp] theorem z_fg0 {turn : D -> Sc} : frGo turn [] e = .ok .nx e := rfl
@[simp] theorem z_putP {q : List D} : putT tg true (.tuple q) e = if q.length = tg.length then putAll tg q e else none := by
 cases tg <;> rfl
@[simp] theorem z_putL {q : List D} : putT tg true (.list q) e = if q.length = tg.length then putAll tg q e else none := by
 cases tg <;> rfl
@[simp] theorem z_tD0 {a : List D} : boolsD [] = some [] := rfl
@[simp] theorem z_tD1 {b : Bool} : boolsD (.bool b :: ds) = (boolsD ds).map (b :: ·) := rfl
@[simp] theorem z_bLenL : bi .len [.list ds] = some (.val (.int ds.length)) := rfl
@[simp] theorem z_bLenT : bi .len [.tuple ds] = some (.val (.int ds.length)) := rfl
@[simp] theorem z_bTupL : bi .tuple [.list ds] = some (.val (.tuple ds)) := rfl
@[simp] theorem z_bTupT : bi .tuple [.tuple ds] = some (.val (.tuple ds)) := rfl
@[simp] theorem z_bLisL : bi .list [.list ds] = some (.fresh (.lst ds)) := rfl
@[simp] theorem z_bLisT : bi .list [.tuple ds] = some (.fresh (.lst ds)) := rfl
@[simp] theorem z_bAll : bi .all [.list ds] = (boolsD ds).map fun bs => .val (.bool (bs.all id)) := rfl
@[simp] theorem z_bAny : bi .any [.list ds] = (boolsD ds).map fun bs => .val (.bool (bs.any id)) := rfl
@[simp] theorem z_ixL {n : Int} : iop (.list ds) (.int n) = L2.atI ds n := rfl
@[simp] theorem z_ixT {n : Int} : iop (.tuple ds) (.int n) = L2.atI ds n := rfl
@[simp] theorem z_eq {a b : D} : cop .Eq a b = eqD a b := rfl
@[simp] theorem z_ne {a b : D} : cop .NotEq a b = (eqD a b).map (!·) := rfl
end
theorem sh_int {i : Int} : shp (.int i) = true := by simp [shp, SeqAt.shaped, PyData.canLay0, PyData.depth]
theorem eq_of {a b : D} (ha : shp a = true) (hb : shp b = true) : eqD a b = some (PyData.eqv a b) := by
 unfold eqD
 split
 . rw [PyData.eqv]
   try rfl
 . exact if_pos ⟨ha, hb⟩
@[simp] theorem eq_str {a b : Str} : eqD (.str a) (.str b) = some (decide (a = b)) := rfl
@[simp] theorem eq_int {a b : Int} : eqD (.int a) (.int b) = some (decide (a = b)) := by
 rw [eq_of sh_int sh_int]
 rw [PyData.eqv]
 rfl
section
variable {G : Gm} {X : Xt} {e e1 : Ev.Env} {i j a b : Nat} {f g : String} {fs : List String} {d : D} {ds : List D} {m : ME}
def slFs : Option Sl -> Option (List String)
 | some (.fns fs) => some fs
 | _ => none
@[simp] theorem z_slFs : slFs (some (.fns fs)) = some fs := rfl
@[simp] theorem z_fnsI : fnsI i e = slFs e[i]? := by
 show (match e[i]? with
  | some (.fns fs) => some fs
  | _ => none) = _
 cases e[i]? with
 | none => rfl
 | some s => cases s <;> rfl
@[simp] theorem z_fln : (den G (.fln i)).v e = (ofO (slFs e[i]?) e).bind fun fs e1 => .ok (.val (.int fs.length)) e1 := by rw [<- z_fnsI]; rfl
@[simp] theorem z_fe0t : (den G (.fe0 i)).t e = (ofO (slFs e[i]?) e).bind fun fs e1 => .ok fs.isEmpty e1 := by rw [<- z_fnsI]; rfl
@[simp] theorem z_fe0v : (den G (.fe0 i)).v e = ((den G (.fe0 i)).t e).bind fun k e1 => .ok (.val (.bool k)) e1 := rfl
@[simp] theorem z_lsO : lstO' (.list ds) = some ds := rfl
@[simp] theorem z_fap : (den G (.fap a b i m)).v e = (ofO (slFs e[i]?) e).bind fun fs e0 => (vE (den G m).v e0).bind fun d e1 => (ofO (lstO' d) e1).bind fun ds e2 => if fs.length = ds.length /\ ds.length < big /\ a ≠ b then (ofO (wipeE e2 [a, b]) e2).bind fun e3 _ => (appsC G a b fs ds e3).bind fun rs e4 => .ok (.fresh (.lst rs)) (backE e2 e4 [a, b]) else .bad := by
 rw [<- z_fnsI]
 show (fapC G a b i (den G m).v) e = _
 unfold fapC
 cases fnsI i e with
 | none => rfl
 | some fs =>
  simp only [ofO_some, bind_ok]
  congr 1
  funext d e1
  congr 1
  funext ds e2
  split
  . cases wipeE e2 [a, b] <;> rfl
  . rfl
@[simp] theorem z_fap0 : appsC G a b [] [] e = .ok [] e := rfl
@[simp] theorem z_fap1 : appsC G a b (f :: fs) (d :: ds) e = noX ((callD G f [.val d] ((e.set a (.fnc f)).set b (.fz d))).bind fun r e1 => (esc e1 r).bind fun x e2 => (ofO (wipeE e2 [a, b]) e2).bind fun e3 _ => (appsC G a b fs ds e3).bind fun rs e4 => .ok (x :: rs) e4) := rfl
@[simp] theorem z_lkO {x : Str} : lkO (some (.fz (.str x))) = some x := rfl
def slSt (s : Sl) (r : Option Ev.Env) : Option Sl -> Option Ev.Env
 | some (.mu _ true _) => none
 | some (.mu true _ _) => none
 | some _ => r
 | none => none
@[simp] theorem z_slSt0 {s : Sl} {r : Option Ev.Env} : slSt s r (some .un) = r := rfl
@[simp] theorem z_slSt1 {s : Sl} {r : Option Ev.Env} : slSt s r (some (.fz d)) = r := rfl
@[simp] theorem z_slSt2 {s : Sl} {r : Option Ev.Env} : slSt s r (some (.fns fs)) = r := rfl
@[simp] theorem z_setSl {s : Sl} : setS i s e = slSt s (some (e.set i s)) e[i]? := by
 unfold setS
 cases e[i]? with
 | none => rfl
 | some s' =>
  cases s' with
  | mu t k c => cases t <;> cases k <;> rfl
  | _ => rfl
@[simp] theorem z_lks : sen G X (.lks i g j) e = (ofO (G.tb g) e).bind fun tbl e0 => (ofO (lkO e0[j]?) e0).bind fun x e1 => (ofO (fsO (tbl.lookup x)) e1).bind fun fs e2 => fl (setS i (.fns fs) e2) := rfl
@[simp] theorem z_fsO0 : fsO none = some [] := rfl
@[simp] theorem z_fsO1 : fsO (some (.fs fs)) = some fs := rfl
@[simp] theorem z_datO : datO (some (.dat d)) = some d := rfl
@[simp] theorem z_strO' {x : Str} : strO' (.str x) = some x := rfl
@[simp] theorem z_kint {n : Bool} : (den G (.kin n g m)).t e = (ofO (G.tb g) e).bind fun tbl e0 => (vD (den G m).v e0).bind fun d e1 => (ofO (strO' d) e1).bind fun x e2 => .ok (if n = true then !(tbl.lookup x).isSome else (tbl.lookup x).isSome) e2 := rfl
@[simp] theorem z_kinv {n : Bool} : (den G (.kin n g m)).v e = ((den G (.kin n g m)).t e).bind fun k e1 => .ok (.val (.bool k)) e1 := rfl
@[simp] theorem z_kix : (den G (.kix g m)).v e = (ofO (G.tb g) e).bind fun tbl e0 => (vD (den G m).v e0).bind fun d e1 => (ofO (strO' d) e1).bind fun x e2 => (ofO (datO (tbl.lookup x)) e2).bind fun d e3 => .ok (.val d) e3 := rfl
@[simp] theorem z_stf : sen G X (.stf j i m) e = (vE (den G m).v e).bind fun d e1 => (ofO (seqO d) e1).bind fun ds e2 => (ofO ds.getLast? e2).bind fun x e3 => if ds.length <= 16384 /\ i ≠ j then fl ((setV j (.fresh (.lst ds.dropLast)) e3).bind (putAll [i] [x])) else .bad := rfl
end
end Ev
set_option exponentiation.threshold 9000
namespace Ev
open PySem
def sm : Nat -> D -> Bool
 | _, .none => true
 | _, .bool _ => true
 | _, .int i => decide (i.natAbs < 2 ^ 1000)
 | _, .str x => PyData.strOk x && decide (x.cps.size <= 40) && x.cps.toList.all fun c => decide (c < 16 ^ 8)
 | n + 1, .list xs => decide (xs.length <= 16) && xs.all (sm n)
 | n + 1, .tuple xs => decide (xs.length <= 16) && xs.all (sm n)
 | _, _ => false
def smL : Nat -> Nat
 | 0 => 1001
 | n + 1 => 16 * (smL n + 2) + 3
structure SmOk (n : Nat) (d : D) : Prop where
 sh : d.showable = true
 nd : d.hasDict = false
 dp : d.depth <= n
 ln : d.shown.length <= smL n
 cl : d.canLay0 = true
structure SmAll (n : Nat) (ds : List D) : Prop where
 sh : PyData.showableAll ds = true
 nd : PyData.hasDictAll ds = false
 dp : PyData.depthAll ds <= n
 ln : ∀ t ∈ PyData.shownAll ds, t.length <= smL n
 cl : PyData.canLayAll0 ds = true
end Ev
set_option maxRecDepth 100000
set_option maxHeartbeats 2000000
namespace Ev
open PySem PySem.Spec PyProof.Rows L2
def mkX (xs : List (String × List Str)) (ss : List ((Str × String) × Bool)) (fs : List (Str × String)) (kn : List String) : Xt := ⟨fun x => (xs.lookup x).getD [], fun c x => ss.lookup (c, x), fun c f => fs.contains (c, f), kn, [], [], fun _ _ => false, fun _ => none⟩
def inCls (st : Stmt) (j : Nat) : Stmt := match st with
 | .ClassDef _ _ _ body _ _ _ _ _ _ _ => body.getD j (.Pass ⟨0, 0, 0, 0⟩)
 | _ => .Pass ⟨0, 0, 0, 0⟩
theorem lookup_mem {α β : Type} [BEq α] [LawfulBEq α] : ∀ {l : List (α × β)} {a : α} {b : β}, l.lookup a = some b -> (a, b) ∈ l
 | (x, y) :: l, a, b, h => by
  rw [List.lookup_cons] at h
  split at h
  . rename_i e
    cases h
    rw [eq_of_beq e]
    exact List.mem_cons_self
  . exact List.mem_cons_of_mem _ (lookup_mem h)
 | [], _, _, h => by cases h
section
variable {P : Program} {w : World} {K : PySem.W.Frag} {mg : Str -> Option Value} {base : Heap} {xs : List (String × List Str)} {ss : List ((Str × String) × Bool)} {fs : List (Str × String)} {kn : List String}
theorem mkX_xc (h : ∀ p ∈ xs, XcOk P w K mg base p.1 p.2) (x : String) (hx : (mkX xs ss fs kn).xc x ≠ []) : XcOk P w K mg base x ((mkX xs ss fs kn).xc x) := by
 have hx : (xs.lookup x).getD [] ≠ [] := hx
 show XcOk P w K mg base x ((xs.lookup x).getD [])
 cases e : xs.lookup x with
 | none => rw [e] at hx; exact absurd rfl hx
 | some q => exact h _ (lookup_mem e)
theorem mkX_sub (h : ∀ p ∈ ss, SubOk K mg p.1.1 p.1.2 p.2) (c : Str) (x : String) (b : Bool) (hx : (mkX xs ss fs kn).sub c x = some b) : SubOk K mg c x b := h _ (lookup_mem (a := (c, x)) hx)
theorem mkX_fld (h : ∀ p ∈ fs, FldOk K mg p.1 p.2) (c : Str) (f : String) (hx : (mkX xs ss fs kn).fld c f = true) : FldOk K mg c f := by
 have hx : fs.contains (c, f) = true := hx
 exact h (c, f) (by simpa using hx)
structure LiveC (K : PySem.W.Frag) (mg : Str -> Option Value) (c : Str) (C : Addr) : Prop where
 at' : mg c = some (.ref C)
 ec : ExcC K C
 self : PySem.W.subIn K (.ref C) (.ref C) = some true
end
end Ev
namespace Vs
open Ev
abbrev Wd := List Int
abbrev Rs (w : Wd) : Prop := w.Pairwise (· < ·)
theorem m_sym {a b : Wd} {j : Int} : j ∈ symI a b ↔ (j ∈ a ↔ ¬ j ∈ b) := by
 rw [mem_sym]
 by_cases h1 : j ∈ a <;> by_cases h2 : j ∈ b <;> simp [h1, h2]
theorem r_sym (a b : Wd) : Rs (symI a b) := sym_ris a b
theorem r_nil : Rs [] := List.Pairwise.nil
theorem s_self (a : Wd) : symI a a = [] := ris_one (r_sym _ _) r_nil fun k => by
 rw [m_sym]
 by_cases h : k ∈ a <;> simp [h]
theorem s_nil {a : Wd} (h : Rs a) : symI a [] = a := ris_one (r_sym _ _) h fun k => by rw [m_sym]; simp
theorem s_comm (a b : Wd) : symI a b = symI b a := ris_one (r_sym _ _) (r_sym _ _) fun k => by
 rw [m_sym, m_sym]
 by_cases h1 : k ∈ a <;> by_cases h2 : k ∈ b <;> simp [h1, h2]
theorem s_assoc (a b c : Wd) : symI (symI a b) c = symI a (symI b c) := ris_one (r_sym _ _) (r_sym _ _) fun k => by
 rw [m_sym, m_sym, m_sym, m_sym]
 by_cases h1 : k ∈ a <;> by_cases h2 : k ∈ b <;> by_cases h3 : k ∈ c <;> simp [h1, h2, h3]
theorem nil_s {a : Wd} (h : Rs a) : symI [] a = a := by rw [s_comm, s_nil h]
theorem s_back {a b : Wd} (h : Rs b) : symI a (symI a b) = b := by rw [<- s_assoc, s_self, nil_s h]
theorem s_back2 {a b : Wd} (h : Rs a) : symI (symI a b) b = a := by rw [s_assoc, s_self, s_nil h]
inductive Sp (S : List Wd) : Wd -> Prop where
 | zero : Sp S []
 | add {v w : Wd} : w ∈ S -> Sp S v -> Sp S (symI v w)
theorem Sp.ris {S : List Wd} {v : Wd} (h : Sp S v) : Rs v := by
 cases h
 . exact r_nil
 . exact r_sym _ _
theorem Sp.own {S : List Wd} {w : Wd} (h : w ∈ S) (r : Rs w) : Sp S w := by
 have := Sp.add h (Sp.zero (S := S))
 rwa [nil_s r] at this
theorem Sp.sum {S : List Wd} {a b : Wd} (ha : Sp S a) (hb : Sp S b) : Sp S (symI a b) := by
 induction hb with
 | zero => rw [s_nil ha.ris]; exact ha
 | add hw _ ih => rw [<- s_assoc]; exact .add hw ih
theorem Sp.le {S T : List Wd} {v : Wd} (h : ∀ w ∈ S, Sp T w) (hv : Sp S v) : Sp T v := by
 induction hv with
 | zero => exact .zero
 | add hw _ ih => exact ih.sum (h _ hw)
def All (S : List Wd) : Prop := ∀ w ∈ S, Rs w
theorem Sp.sub {S T : List Wd} {v : Wd} (a : All S) (h : ∀ w ∈ S, w ∈ T) (hv : Sp S v) : Sp T v := hv.le fun w hw => .own (h w hw) (a w hw)
def hd (w : Wd) : Int := w.headD 0
theorem hd_mem {w : Wd} (h : w ≠ []) : hd w ∈ w := by
 cases w with
 | nil => exact absurd rfl h
 | cons x l => exact List.mem_cons_self
theorem hd_le {w : Wd} (r : Rs w) {k : Int} (h : k ∈ w) : hd w <= k := by
 cases w with
 | nil => exact absurd h List.not_mem_nil
 | cons x l =>
  rcases List.mem_cons.mp h with e | e
  . subst e; exact Int.le_refl _
  . exact Int.le_of_lt ((List.pairwise_cons.mp r).1 k e)
def st (own e : Wd) : Wd := if hd own ∈ e then symI e own else e
def red (rows : List Wd) (e : Wd) : Wd := rows.foldl (fun e own => st own e) e
theorem red_cons (r : Wd) (rs : List Wd) (e : Wd) : red (r :: rs) e = red rs (st r e) := rfl
theorem st_ris {own e : Wd} (h : Rs e) : Rs (st own e) := by
 unfold st
 split
 . exact r_sym _ _
 . exact h
theorem red_ris : ∀ {rows : List Wd} {e : Wd}, Rs e -> Rs (red rows e)
 | [], _, h => h
 | r :: rs, e, h => red_ris (rows := rs) (st_ris h)
theorem st_lin (own a b : Wd) : st own (symI a b) = symI (st own a) (st own b) := by
 unfold st
 have hm := m_sym (a := a) (b := b) (j := hd own)
 by_cases h1 : hd own ∈ a <;> by_cases h2 : hd own ∈ b <;> simp only [h1, h2, not_true, not_false_iff, iff_true, iff_false, if_true, if_false] at hm ⊢
 . rw [if_neg (by simpa using hm)]
   refine ris_one (r_sym _ _) (r_sym _ _) fun k => ?_
   rw [m_sym, m_sym, m_sym, m_sym]
   by_cases a1 : k ∈ a <;> by_cases a2 : k ∈ b <;> by_cases a3 : k ∈ own <;> simp [a1, a2, a3]
 . rw [if_pos (by simpa using hm), s_assoc, s_comm b own, <- s_assoc]
 . rw [if_pos (by simpa using hm), s_assoc]
 . rw [if_neg (by simpa using hm)]
theorem red_lin : ∀ (rows : List Wd) (a b : Wd), red rows (symI a b) = symI (red rows a) (red rows b)
 | [], _, _ => rfl
 | r :: rs, a, b => by rw [red_cons, red_cons, red_cons, st_lin, red_lin rs]
theorem red_nil : ∀ rows : List Wd, red rows [] = []
 | [] => rfl
 | r :: rs => by
  rw [red_cons]
  have : st r [] = [] := by unfold st; rw [if_neg List.not_mem_nil]
  rw [this, red_nil rs]
theorem red_sp {T : List Wd} : ∀ {rows : List Wd} {e : Wd}, (∀ r ∈ rows, Sp T r) -> Rs e -> Sp T (symI e (red rows e))
 | [], e, _, h => by
  show Sp T (symI e e)
  rw [s_self]; exact .zero
 | r :: rs, e, hT, h => by
  have h1 := red_sp (rows := rs) (fun x hx => hT x (List.mem_cons_of_mem _ hx)) (st_ris (own := r) h)
  rw [red_cons]
  have e1 : symI e (red rs (st r e)) = symI (symI e (st r e)) (symI (st r e) (red rs (st r e))) := by
   rw [s_assoc, s_back (red_ris (st_ris h))]
  rw [e1]
  refine Sp.sum ?_ h1
  unfold st
  split
  . rw [s_back (hT r List.mem_cons_self).ris]
    exact hT r List.mem_cons_self
  . rw [s_self]; exact .zero
theorem red_keep {k : Int} : ∀ {rows : List Wd} {e : Wd}, (∀ r ∈ rows, ¬ k ∈ r) -> (k ∈ red rows e ↔ k ∈ e)
 | [], _, _ => Iff.rfl
 | r :: rs, e, h => by
  rw [red_cons, red_keep fun x hx => h x (List.mem_cons_of_mem _ hx)]
  unfold st
  split
  . rw [m_sym]
    simp [h r List.mem_cons_self]
  . exact Iff.rfl
structure Ech (rows : List Wd) : Prop where
 ris : ∀ r ∈ rows, Rs r
 ne : ∀ r ∈ rows, r ≠ []
 ap : rows.Pairwise fun r s => ¬ hd r ∈ s /\ ¬ hd s ∈ r
theorem Ech.tail {r : Wd} {rs : List Wd} (h : Ech (r :: rs)) : Ech rs :=
 ⟨fun x hx => h.ris x (List.mem_cons_of_mem _ hx), fun x hx => h.ne x (List.mem_cons_of_mem _ hx), (List.pairwise_cons.mp h.ap).2⟩
theorem ech_nil : Ech [] := ⟨fun _ h => absurd h List.not_mem_nil, fun _ h => absurd h List.not_mem_nil, List.Pairwise.nil⟩
theorem red_no : ∀ {rows : List Wd} {e : Wd}, Ech rows -> ∀ r ∈ rows, ¬ hd r ∈ red rows e
 | [], _, _, r, hr => absurd hr List.not_mem_nil
 | r :: rs, e, h, x, hx => by
  rw [red_cons]
  rcases List.mem_cons.mp hx with q | q
  . subst q
    rw [red_keep fun y hy => ((List.pairwise_cons.mp h.ap).1 y hy).1]
    unfold st
    split
    . rename_i c
      rw [m_sym]
      simp [c, hd_mem (h.ne x List.mem_cons_self)]
    . assumption
  . exact red_no h.tail x q
theorem red_own : ∀ {rows : List Wd}, Ech rows -> ∀ r ∈ rows, red rows r = []
 | [], _, r, hr => absurd hr List.not_mem_nil
 | r :: rs, h, x, hx => by
  rw [red_cons]
  rcases List.mem_cons.mp hx with q | q
  . subst q
    have : st x x = [] := by unfold st; rw [if_pos (hd_mem (h.ne x List.mem_cons_self)), s_self]
    rw [this, red_nil]
  . have : st r x = x := by unfold st; rw [if_neg ((List.pairwise_cons.mp h.ap).1 x q).1]
    rw [this, red_own h.tail x q]
theorem red_of_sp {rows : List Wd} (E : Ech rows) {v : Wd} (h : Sp rows v) : red rows v = [] := by
 induction h with
 | zero => exact red_nil _
 | add hw _ ih => rw [red_lin, ih, red_own E _ hw]; rfl
theorem red_iff {rows : List Wd} (E : Ech rows) {v : Wd} (r : Rs v) : red rows v = [] ↔ Sp rows v := by
 refine ⟨fun h => ?_, red_of_sp E⟩
 have := red_sp (T := rows) (fun x hx => .own hx (E.ris x hx)) r
 rwa [h, s_nil r] at this
theorem ech_hd {rows : List Wd} (E : Ech rows) {r s : Wd} (hr : r ∈ rows) (hs : s ∈ rows) (h : hd r ∈ s) : r = s := by
 obtain ⟨ri, ne, ap⟩ := E
 induction rows with
 | nil => exact absurd hr List.not_mem_nil
 | cons x l ih =>
  obtain ⟨h1, h2⟩ := List.pairwise_cons.mp ap
  rcases List.mem_cons.mp hr with q | q <;> rcases List.mem_cons.mp hs with p | p
  . rw [q, p]
  . subst q; exact absurd h (h1 s p).1
  . subst p; exact absurd h (h1 r q).2
  . exact ih q p (fun y hy => ri y (List.mem_cons_of_mem _ hy)) (fun y hy => ne y (List.mem_cons_of_mem _ hy)) h2
def ins (found : List Wd) (e : Wd) : List Wd :=
 if red found e = [] then found else found.map (fun own => if hd (red found e) ∈ own then symI own (red found e) else own) ++ [red found e]
def baseL (ws : List Wd) : List Wd := ws.foldl ins []
theorem ins_ech {found : List Wd} (E : Ech found) {e : Wd} (r : Rs e) : Ech (ins found e) := by
 unfold ins
 split
 . exact E
 . rename_i hne
   have rr := red_ris (rows := found) r
   have no := red_no (e := e) E
   generalize red found e = q at hne rr no
   have hd' : ∀ own ∈ found, hd (if hd q ∈ own then symI own q else own) = hd own := fun own ho => by
    split
    . rename_i c
      have lt : hd own < hd q := by
       have h1 := hd_le (E.ris own ho) c
       rcases Int.lt_or_eq_of_le h1 with h2 | h2
       . exact h2
       . exact absurd (by rw [h2]; exact hd_mem hne) (no own ho)
      have m1 : hd own ∈ symI own q := m_sym.mpr (by simp [hd_mem (E.ne own ho), no own ho])
      have n1 : symI own q ≠ [] := fun z => by rw [z] at m1; exact absurd m1 List.not_mem_nil
      have h3 := hd_le (r_sym own q) m1
      have h4 := m_sym.mp (hd_mem n1)
      by_cases c1 : hd (symI own q) ∈ own
      . have := hd_le (E.ris own ho) c1
        omega
      . have c2 : hd (symI own q) ∈ q := by
         apply Classical.byContradiction
         intro z
         exact c1 (h4.mpr z)
        have := hd_le rr c2
        omega
    . rfl
   refine ⟨fun x hx => ?_, fun x hx => ?_, ?_⟩
   . rcases List.mem_append.mp hx with h | h
     . obtain ⟨own, ho, rfl⟩ := List.mem_map.mp h
       split
       . exact r_sym _ _
       . exact E.ris own ho
     . rw [List.mem_singleton.mp h]; exact rr
   . rcases List.mem_append.mp hx with h | h
     . obtain ⟨own, ho, rfl⟩ := List.mem_map.mp h
       split
       . intro z
         have m1 : hd own ∈ symI own q := m_sym.mpr (by simp [hd_mem (E.ne own ho), no own ho])
         rw [z] at m1
         exact absurd m1 List.not_mem_nil
       . exact E.ne own ho
     . rw [List.mem_singleton.mp h]; exact hne
   . refine List.pairwise_append.mpr ⟨?_, List.pairwise_singleton _ _, ?_⟩
     . refine List.pairwise_map.mpr (List.Pairwise.imp_of_mem ?_ E.ap)
       intro a b ha hb hab
       rw [hd' a ha, hd' b hb]
       constructor
       . split
         . rw [m_sym]; simp [hab.1, no a ha]
         . exact hab.1
       . split
         . rw [m_sym]; simp [hab.2, no b hb]
         . exact hab.2
     . intro x hx y hy
       rw [List.mem_singleton.mp hy]
       obtain ⟨own, ho, rfl⟩ := List.mem_map.mp hx
       rw [hd' own ho]
       refine ⟨no own ho, ?_⟩
       split
       . rename_i c
         rw [m_sym]
         simp [c, hd_mem hne]
       . assumption
theorem ins_sp {found : List Wd} (E : Ech found) {e : Wd} (r : Rs e) (v : Wd) : Sp (ins found e) v ↔ Sp (found ++ [e]) v := by
 have af : All found := E.ris
 have le1 : ∀ w, Sp found w -> Sp (found ++ [e]) w := fun w h => h.sub af fun x hx => List.mem_append_left _ hx
 have he : Sp (found ++ [e]) e := .own (List.mem_append_right _ (List.mem_singleton.mpr rfl)) r
 have hq : Sp found (symI e (red found e)) := red_sp (fun x hx => .own hx (af x hx)) r
 unfold ins
 split
 . rename_i z
   refine ⟨le1 v, fun h => h.le fun x hx => ?_⟩
   rcases List.mem_append.mp hx with h | h
   . exact .own h (af x h)
   . rw [List.mem_singleton.mp h]; exact (red_iff E r).mp z
 . rename_i hne
   have rr := red_ris (rows := found) r
   have hr : Sp (found ++ [e]) (red found e) := by
    have := he.sum (le1 _ hq)
    rwa [s_back rr] at this
   generalize red found e = q at hne rr hq hr
   have tq : Sp (found.map (fun own => if hd q ∈ own then symI own q else own) ++ [q]) q := .own (List.mem_append_right _ (List.mem_singleton.mpr rfl)) rr
   have to : ∀ own ∈ found, Sp (found.map (fun own => if hd q ∈ own then symI own q else own) ++ [q]) own := fun own ho => by
    have h1 : (if hd q ∈ own then symI own q else own) ∈ found.map (fun own => if hd q ∈ own then symI own q else own) ++ [q] := List.mem_append_left _ (List.mem_map.mpr ⟨own, ho, rfl⟩)
    by_cases c : hd q ∈ own
    . rw [if_pos c] at h1
      have := (Sp.own h1 (r_sym _ _)).sum tq
      rwa [s_back2 (af own ho)] at this
    . rw [if_neg c] at h1
      exact .own h1 (af own ho)
   constructor
   . refine fun h => h.le fun x hx => ?_
     rcases List.mem_append.mp hx with h | h
     . obtain ⟨own, ho, rfl⟩ := List.mem_map.mp h
       have o1 := le1 own (.own ho (af own ho))
       split
       . exact o1.sum hr
       . exact o1
     . rw [List.mem_singleton.mp h]; exact hr
   . refine fun h => h.le fun x hx => ?_
     rcases List.mem_append.mp hx with h | h
     . exact to x h
     . rw [List.mem_singleton.mp h]
       have := (Sp.le to hq).sum tq
       rwa [s_back2 r] at this
theorem sp_app {A B C : List Wd} (a : All B) (c : All C) (h : ∀ v, Sp A v ↔ Sp B v) (v : Wd) (aA : All A) : Sp (A ++ C) v ↔ Sp (B ++ C) v := by
 constructor
 . refine fun q => q.le fun x hx => ?_
   rcases List.mem_append.mp hx with y | y
   . exact ((h x).mp (.own y (aA x y))).sub a fun z hz => List.mem_append_left _ hz
   . exact .own (List.mem_append_right _ y) (c x y)
 . refine fun q => q.le fun x hx => ?_
   rcases List.mem_append.mp hx with y | y
   . exact ((h x).mpr (.own y (a x y))).sub aA fun z hz => List.mem_append_left _ hz
   . exact .own (List.mem_append_right _ y) (c x y)
theorem fold_ok : ∀ (ws : List Wd) (found T : List Wd), All ws -> All T -> Ech found -> (∀ v, Sp found v ↔ Sp T v) -> Ech (ws.foldl ins found) /\ ∀ v, Sp (ws.foldl ins found) v ↔ Sp (T ++ ws) v
 | [], found, T, _, _, E, h => ⟨E, fun v => by rw [List.append_nil]; exact h v⟩
 | w :: ws, found, T, a, aT, E, h => by
  have rw' := a w List.mem_cons_self
  have := fold_ok ws (ins found w) (T ++ [w]) (fun x hx => a x (List.mem_cons_of_mem _ hx)) (fun x hx => by
   rcases List.mem_append.mp hx with y | y
   . exact aT x y
   . rw [List.mem_singleton.mp y]; exact rw') (ins_ech E rw') fun v => (ins_sp E rw' v).trans (sp_app aT (fun x hx => by rw [List.mem_singleton.mp hx]; exact rw') h v E.ris)
  rw [List.append_assoc] at this
  exact this
theorem base_ech {ws : List Wd} (a : All ws) : Ech (baseL ws) := (fold_ok ws [] [] a (fun _ h => absurd h List.not_mem_nil) ech_nil fun _ => Iff.rfl).1
theorem base_sp {ws : List Wd} (a : All ws) (v : Wd) : Sp (baseL ws) v ↔ Sp ws v := (fold_ok ws [] [] a (fun _ h => absurd h List.not_mem_nil) ech_nil fun _ => Iff.rfl).2 v
end Vs
namespace Vs
open Ev
theorem sp_snoc {T : List Wd} {w v : Wd} (aT : All T) (rw' : Rs w) (rv : Rs v) : Sp (T ++ [w]) v ↔ Sp T v \/ Sp T (symI w v) := by
 have le1 : ∀ u, Sp T u -> Sp (T ++ [w]) u := fun u h => h.sub aT fun x hx => List.mem_append_left _ hx
 have hw : Sp (T ++ [w]) w := .own (List.mem_append_right _ (List.mem_singleton.mpr rfl)) rw'
 constructor
 . intro h
   clear rv
   induction h with
   | zero => exact .inl .zero
   | add hx hv ih =>
    rename_i v x
    rcases List.mem_append.mp hx with h | h
    . have hx1 : Sp T x := .own h (aT x h)
      rcases ih with ih | ih
      . exact .inl (ih.sum hx1)
      . exact .inr (by rw [<- s_assoc]; exact ih.sum hx1)
    . rw [List.mem_singleton.mp h]
      rcases ih with ih | ih
      . refine .inr ?_
        rw [s_comm v w, s_back hv.ris]
        exact ih
      . exact .inl (by rw [s_comm]; exact ih)
 . rintro (h | h)
   . exact le1 v h
   . have := hw.sum (le1 _ h)
     rwa [s_back rv] at this
def allStep (f : List Wd) (w : Wd) : List Wd := if w ∈ f then f else f ++ f.map (symI w)
def allW (ws : List Wd) : List Wd := ws.foldl allStep [[]]
structure AllOk (f T : List Wd) : Prop where
 mem : ∀ v, v ∈ f ↔ Sp T v
 nd : f.Nodup
theorem all_step {f T : List Wd} {w : Wd} (h : AllOk f T) (aT : All T) (r : Rs w) : AllOk (allStep f w) (T ++ [w]) := by
 have ris : ∀ v ∈ f, Rs v := fun v hv => ((h.mem v).mp hv).ris
 unfold allStep
 split
 . rename_i c
   refine ⟨fun v => ?_, h.nd⟩
   rw [h.mem]
   constructor
   . exact fun q => q.sub aT fun x hx => List.mem_append_left _ hx
   . refine fun q => q.le fun x hx => ?_
     rcases List.mem_append.mp hx with y | y
     . exact .own y (aT x y)
     . rw [List.mem_singleton.mp y]; exact (h.mem w).mp c
 . rename_i c
   refine ⟨fun v => ?_, ?_⟩
   . rw [List.mem_append]
     constructor
     . rintro (q | q)
       . exact (sp_snoc aT r (ris v q)).mpr (.inl ((h.mem v).mp q))
       . obtain ⟨u, hu, rfl⟩ := List.mem_map.mp q
         exact (sp_snoc aT r (r_sym _ _)).mpr (.inr (by rw [s_back (ris u hu)]; exact (h.mem u).mp hu))
     . intro q
       rcases (sp_snoc aT r q.ris).mp q with z | z
       . exact .inl ((h.mem v).mpr z)
       . exact .inr (List.mem_map.mpr ⟨symI w v, (h.mem _).mpr z, s_back q.ris⟩)
   . refine List.nodup_append.mpr ⟨h.nd, ?_, ?_⟩
     . refine List.pairwise_map.mpr (List.Pairwise.imp_of_mem ?_ h.nd)
       intro a b ha hb n e
       have := congrArg (symI w) e
       rw [s_back (ris a ha), s_back (ris b hb)] at this
       exact n this
     . intro a ha b hb e
       obtain ⟨u, hu, rfl⟩ := List.mem_map.mp hb
       subst e
       apply c
       rw [h.mem]
       have := ((h.mem _).mp ha).sum ((h.mem u).mp hu)
       rwa [s_back2 r] at this
theorem all_fold : ∀ (ws f T : List Wd), AllOk f T -> All T -> All ws -> AllOk (ws.foldl allStep f) (T ++ ws)
 | [], f, T, h, _, _ => by rw [List.append_nil]; exact h
 | w :: ws, f, T, h, aT, a => by
  have r := a w List.mem_cons_self
  have := all_fold ws (allStep f w) (T ++ [w]) (all_step h aT r) (fun x hx => by
   rcases List.mem_append.mp hx with y | y
   . exact aT x y
   . rw [List.mem_singleton.mp y]; exact r) fun x hx => a x (List.mem_cons_of_mem _ hx)
  rw [List.append_assoc] at this
  exact this
theorem all_ok0 : AllOk [[]] [] := ⟨fun v => ⟨fun h => by rw [List.mem_singleton.mp h]; exact .zero, fun h => by
 cases h with
 | zero => exact List.mem_singleton.mpr rfl
 | add h _ => exact absurd h List.not_mem_nil⟩, List.pairwise_singleton _ _⟩
theorem all_ok {ws : List Wd} (a : All ws) : AllOk (allW ws) ws := all_fold ws [[]] [] all_ok0 (fun _ h => absurd h List.not_mem_nil) a
def firsts (every : List Wd) : List Int := ((every.filter fun v => !v.isEmpty).map hd).foldr insI []
def due (every : List Wd) : List Wd := (firsts every).flatMap fun k => every.filter fun v => !v.isEmpty && hd v == k && ((v.drop 1).filter fun m => (firsts every).contains m).isEmpty
def srtW (ls : List Wd) : List Wd := ls.mergeSort fun a b => !decide (b < a)
theorem srt_perm (ls : List Wd) : (srtW ls).Perm ls := List.mergeSort_perm _ _
def baseOf (ws : List Wd) : List Wd := srtW (baseL ws)
theorem ech_of_perm {A B : List Wd} (h : A.Perm B) (E : Ech A) : Ech B :=
 ⟨fun r hr => E.ris r (h.mem_iff.mpr hr), fun r hr => E.ne r (h.mem_iff.mpr hr), (h.pairwise_iff fun {x y} z => ⟨z.2, z.1⟩).mp E.ap⟩
theorem sp_of_mem {A B : List Wd} (a : All A) (b : All B) (h : ∀ w, w ∈ A ↔ w ∈ B) (v : Wd) : Sp A v ↔ Sp B v :=
 ⟨fun q => q.sub a fun w hw => (h w).mp hw, fun q => q.sub b fun w hw => (h w).mpr hw⟩
theorem bo_ech {ws : List Wd} (a : All ws) : Ech (baseOf ws) := ech_of_perm (srt_perm _).symm (base_ech a)
theorem bo_sp {ws : List Wd} (a : All ws) (v : Wd) : Sp (baseOf ws) v ↔ Sp ws v :=
 (sp_of_mem (bo_ech a).ris (base_ech a).ris (fun w => (srt_perm _).mem_iff) v).trans (base_sp a v)
theorem bo_len (ws : List Wd) : (baseOf ws).length = (baseL ws).length := (srt_perm _).length_eq
def mkB (ws : List Wd) (w : Wd) : Bool := (red (baseOf ws) w).isEmpty
theorem mk_iff {ws : List Wd} (a : All ws) {w : Wd} (r : Rs w) : mkB ws w = true ↔ Sp ws w := by
 unfold mkB
 rw [List.isEmpty_iff, red_iff (bo_ech a) r, bo_sp a]
end Vs
set_option maxRecDepth 10000
namespace Vs
open Ev PySem
def dW (w : Wd) : D := .tuple (w.map .int)
def dL (ws : List Wd) : List D := ws.map dW
@[simp] theorem dL_len {ws : List Wd} : (dL ws).length = ws.length := List.length_map _
theorem dL_nil : dL [] = [] := rfl
theorem dL_cons (w : Wd) (ws : List Wd) : dL (w :: ws) = dW w :: dL ws := rfl
theorem dL_app (a b : List Wd) : dL (a ++ b) = dL a ++ dL b := List.map_append
theorem mem_dL {ws : List Wd} {d : D} : d ∈ dL ws ↔ ∃ w ∈ ws, dW w = d := List.mem_map
theorem eqv_int {a b : Int} : PyData.eqv (.int a) (.int b) = decide (a = b) := by rw [PyData.eqv]; rfl
theorem eqv_all : ∀ a b : Wd, PyData.eqvAll (a.map .int) (b.map .int) = decide (a = b)
 | [], [] => by simp [PyData.eqvAll]
 | [], y :: b => by simp [PyData.eqvAll]
 | x :: a, [] => by simp [PyData.eqvAll]
 | x :: a, y :: b => by
  rw [List.map_cons, List.map_cons, PyData.eqvAll, eqv_all a b, eqv_int]
  by_cases h1 : x = y <;> by_cases h2 : a = b <;> simp [h1, h2]
theorem eqv_w (a b : Wd) : PyData.eqv (dW a) (dW b) = decide (a = b) := by
 unfold dW
 rw [PyData.eqv, eqv_all]
theorem lay_ints : ∀ ns : List Int, PyData.canLayAll0 (ns.map .int) = true /\ PyData.depthAll (ns.map .int) = 0
 | [] => ⟨rfl, rfl⟩
 | n :: ns => by
  obtain ⟨h1, h2⟩ := lay_ints ns
  simp [PyData.canLayAll0, PyData.canLay0, PyData.depthAll, PyData.depth, h1, h2]
theorem lay_w (w : Wd) : PyData.canLay0 (dW w) = true /\ PyData.depth (dW w) = 1 := by
 obtain ⟨h1, h2⟩ := lay_ints w
 simp [dW, PyData.canLay0, PyData.depth, h1, h2]
theorem lay_ws : ∀ ws : List Wd, PyData.canLayAll0 (dL ws) = true /\ PyData.depthAll (dL ws) <= 1
 | [] => ⟨rfl, Nat.zero_le _⟩
 | w :: ws => by
  obtain ⟨h1, h2⟩ := lay_ws ws
  obtain ⟨h3, h4⟩ := lay_w w
  rw [dL_cons]
  refine ⟨by simp [PyData.canLayAll0, h1, h3], ?_⟩
  simp only [PyData.depthAll, h4]
  omega
theorem shp_w (w : Wd) : shp (dW w) = true := by
 obtain ⟨h3, h4⟩ := lay_w w
 simp [shp, SeqAt.shaped, h3, h4]
theorem shp_ints (ns : List Int) : shp (.list (ns.map .int)) = true := by
 obtain ⟨h1, h2⟩ := lay_ints ns
 simp [shp, SeqAt.shaped, PyData.canLay0, PyData.depth, h1, h2]
theorem shp_l (ws : List Wd) : shp (.list (dL ws)) = true := by
 obtain ⟨h1, h2⟩ := lay_ws ws
 simp only [shp, SeqAt.shaped, PyData.canLay0, PyData.depth, h1, Bool.true_and]
 exact decide_eq_true (by omega)
theorem eq_w (a b : Wd) : eqD (dW a) (dW b) = some (decide (a = b)) := by rw [eq_of (shp_w a) (shp_w b), eqv_w]
theorem eq_w0 (a : Wd) : eqD (dW a) (.tuple []) = some a.isEmpty := by
 have := eq_w a []
 rw [show dW [] = .tuple [] from rfl] at this
 rw [this]
 cases a <;> simp
theorem eq_l0 (a : List Wd) : eqD (.list (dL a)) (.list []) = some a.isEmpty := by
 rw [eq_of (shp_l a) (show shp (.list []) = true from rfl), PyData.eqv]
 cases a <;> simp [PyData.eqvAll, dL_nil, dL_cons]
theorem eq_i0 (ns : List Int) : eqD (.list (ns.map .int)) (.list []) = some ns.isEmpty := by
 rw [eq_of (shp_ints ns) (show shp (.list []) = true from rfl), PyData.eqv]
 cases ns <;> simp [PyData.eqvAll]
theorem in_w (k : Int) (w : Wd) : inD (.int k) (dW w) = some (decide (k ∈ w)) := by
 show (if shp (.int k) = true /\ shp (dW w) = true then some ((w.map PyData.int).any fun y => PyData.eqv y (.int k)) else none) = _
 rw [if_pos ⟨sh_int, shp_w w⟩]
 congr 1
 induction w with
 | nil => simp
 | cons x w ih =>
  rw [List.map_cons, List.any_cons, ih, eqv_int]
  by_cases h1 : x = k <;> by_cases h2 : k ∈ w <;> simp [h1, h2, eq_comm]
  all_goals (intro z; exact h1 z.symm)
theorem at0 {x : D} {r : List D} : L2.atI (x :: r) 0 = some x := by
 have h : L2.atI (x :: r) ((0 : Nat) : Int) = some x := L2.atI_nat rfl
 exact h
theorem at_hd {w : Wd} (h : w ≠ []) : L2.atI (w.map PyData.int) 0 = some (.int (hd w)) := by
 cases w with
 | nil => exact absurd rfl h
 | cons x l => exact at0
theorem ints_map : ∀ ns : List Int, intsL (ns.map .int) = some ns
 | [] => rfl
 | n :: ns => by
  rw [List.map_cons]
  show (intsL (ns.map .int)).map (n :: ·) = _
  rw [ints_map ns]
  rfl
theorem ints_w {w : Wd} (h : w.length < 64) : intsT (dW w) = some w := by
 show (intsL (w.map .int)).bind _ = _
 rw [ints_map]
 exact if_pos h
theorem lt_w (a b : Wd) : W.dataLt (dW a) (dW b) = decide (a < b) := by
 rw [<- W.dataLt_ints, dW, dW, W.dataLt_tuple]
 rfl
theorem sortD_ws (ws : List Wd) : sortD (dL ws) = dL (srtW ws) := by
 unfold sortD srtW
 rw [dL, dL, List.map_mergeSort]
 intro a _ b _
 rw [lt_w]
theorem alike_all : ∀ a b : Wd, W.alikeAll (a.map .int) (b.map .int) = true
 | [], b => by simp [W.alikeAll]
 | x :: a, [] => by simp [W.alikeAll]
 | x :: a, y :: b => by
  rw [List.map_cons, List.map_cons, W.alikeAll, alike_all a b]
  simp [W.alike]
theorem alike_w (a b : Wd) : W.alike (dW a) (dW b) = true := by
 rw [dW, dW, W.alike]
 exact alike_all a b
theorem allAlike_ws (ws : List Wd) : allAlike (dL ws) = true := by
 unfold allAlike
 rw [List.all_eq_true]
 intro d hd
 obtain ⟨a, _, rfl⟩ := mem_dL.mp hd
 rw [List.all_eq_true]
 intro e he
 obtain ⟨b, _, rfl⟩ := mem_dL.mp he
 exact alike_w a b
theorem depth_ws (ws : List Wd) : ((dL ws).all fun d => decide (d.depth <= 60)) = true := by
 rw [List.all_eq_true]
 intro d hd
 obtain ⟨a, _, rfl⟩ := mem_dL.mp hd
 rw [(lay_w a).2]
 decide
theorem sortable_ws {ws : List Wd} (h : ∀ w ∈ ws, w ≠ []) : sortable (dL ws) = true := by
 unfold sortable
 rw [Bool.or_eq_true, Bool.or_eq_true]
 left
 left
 rw [List.all_eq_true]
 intro d hd
 obtain ⟨a, ha, rfl⟩ := mem_dL.mp hd
 cases a with
 | nil => exact absurd rfl (h _ ha)
 | cons x l => rfl
theorem sorted_ws {ws : List Wd} (h : ∀ w ∈ ws, w ≠ []) : bi .sorted [.list (dL ws)] = some (.fresh (.lst (dL (srtW ws)))) := by
 show (if allAlike (dL ws) = true /\ sortable (dL ws) = true /\ ((dL ws).all fun d => decide (d.depth <= 60)) = true then some (R.fresh (.lst (sortD (dL ws)))) else none) = _
 rw [if_pos ⟨allAlike_ws ws, sortable_ws h, depth_ws ws⟩, sortD_ws]
theorem sortD_ints {ns : List Int} (h : ns.Nodup) : sortD (ns.map .int) = (ns.foldr insI []).map .int := by
 unfold sortD
 have e : (ns.map PyData.int).mergeSort (fun a b => !W.dataLt b a) = (ns.mergeSort fun a b => !decide (b < a)).map .int := by
  rw [List.map_mergeSort]
  intro a _ b _
  rw [W.dataLt_int]
 rw [e]
 congr 1
 have p := List.mergeSort_perm ns fun a b => !decide (b < a)
 have s := List.pairwise_mergeSort (le := fun a b : Int => !decide (b < a)) (fun a b c h1 h2 => by simp at *; omega) (fun a b => by simp; omega) ns
 refine ris_one ?_ (fold_ris ns) fun k => by rw [p.mem_iff, mem_fold]
 have nd : (ns.mergeSort fun a b => !decide (b < a)).Nodup := p.nodup_iff.mpr h
 refine (s.and nd).imp fun {a b} q => ?_
 obtain ⟨q1, q2⟩ := q
 simp at q1
 omega
theorem sorted_ints {ns : List Int} (h : ns.Nodup) : bi .sorted [.list (ns.map .int)] = some (.fresh (.lst ((ns.foldr insI []).map .int))) := by
 show (if allAlike (ns.map .int) = true /\ sortable (ns.map .int) = true /\ ((ns.map PyData.int).all fun d => decide (d.depth <= 60)) = true then some (R.fresh (.lst (sortD (ns.map .int)))) else none) = _
 have a1 : allAlike (ns.map .int) = true := by
  unfold allAlike
  simp [W.alike]
 have a2 : sortable (ns.map .int) = true := by
  unfold sortable
  simp
 have a3 : ((ns.map PyData.int).all fun d => decide (d.depth <= 60)) = true := by simp [PyData.depth]
 rw [if_pos ⟨a1, a2, a3⟩, sortD_ints h]
theorem sym_app {a b : Wd} (ha : Rs a) (hb : Rs b) : ((a.filter fun k => !b.contains k) ++ b.filter fun k => !a.contains k).Nodup := by
 refine List.nodup_append.mpr ⟨(ris_nodup ha).filter _, (ris_nodup hb).filter _, fun x hx y hy e => ?_⟩
 subst e
 rw [List.mem_filter] at hx hy
 have := hx.2
 simp [hy.1] at this
class Uni where
 U : List Int
 len : U.length <= 18
 sml : ∀ k ∈ U, k.natAbs < 2 ^ 1000
def U13 : List Int := [0, 1, 2, 3, 4, 5, 6, 7, 8, 9, 10, 11, 12, 10 ^ 59]
instance u13 : Uni := ⟨U13, by decide, fun k h => by
 have : (U13.all fun k => decide (k.natAbs < 2 ^ 1000)) = true := by decide +kernel
 exact of_decide_eq_true (List.all_eq_true.mp this k h)⟩
structure Wk [u : Uni] (w : Wd) : Prop where
 ris : Rs w
 sub : ∀ k ∈ w, k ∈ u.U
theorem nodup_le {a b : List Int} (h : a.Nodup) (hs : ∀ k ∈ a, k ∈ b) : a.length <= b.length := by
 induction a generalizing b with
 | nil => exact Nat.zero_le _
 | cons x a ih =>
  obtain ⟨h1, h2⟩ := List.nodup_cons.mp h
  have hx := hs x List.mem_cons_self
  have := ih (b := b.erase x) h2 fun k hk => by
   rw [List.mem_erase_of_ne]
   . exact hs k (List.mem_cons_of_mem _ hk)
   . intro e
     subst e
     exact h1 hk
  rw [List.length_erase_of_mem hx] at this
  have : 0 < b.length := List.length_pos_of_mem hx
  rw [List.length_cons]
  omega
theorem len13 {w : Wd} (h : @Wk u13 w) : w.length <= 14 := nodup_le (b := U13) (ris_nodup h.ris) h.sub
def Ws [Uni] (ws : List Wd) : Prop := ∀ w ∈ ws, Wk w
section
variable [Uni]
theorem Wk.len {w : Wd} (h : Wk w) : w.length <= 18 := Nat.le_trans (nodup_le (ris_nodup h.ris) h.sub) Uni.len
theorem Wk.sum {a b : Wd} (ha : Wk a) (hb : Wk b) : Wk (symI a b) := ⟨r_sym _ _, fun k hk => by
 have := m_sym.mp hk
 by_cases c : k ∈ a
 . exact ha.sub k c
 . apply hb.sub
   apply Classical.byContradiction
   intro z
   exact c (this.mpr z)⟩
theorem wk_nil : Wk [] := ⟨r_nil, fun _ h => absurd h List.not_mem_nil⟩
theorem Ws.all {ws : List Wd} (h : Ws ws) : All ws := fun w hw => (h w hw).ris
theorem wk_st {r e : Wd} (hr : Wk r) (he : Wk e) : Wk (st r e) := by
 unfold st
 split
 . exact he.sum hr
 . exact he
theorem wk_red : ∀ {rows : List Wd} {e : Wd}, Ws rows -> Wk e -> Wk (red rows e)
 | [], _, _, h => h
 | r :: rs, e, hr, h => wk_red (rows := rs) (fun x hx => hr x (List.mem_cons_of_mem _ hx)) (wk_st (hr r List.mem_cons_self) h)
theorem ws_ins {found : List Wd} {e : Wd} (h : Ws found) (he : Wk e) : Ws (ins found e) := by
 unfold ins
 have hr := wk_red h he
 split
 . exact h
 . intro x hx
   rcases List.mem_append.mp hx with y | y
   . obtain ⟨own, ho, rfl⟩ := List.mem_map.mp y
     split
     . exact (h own ho).sum hr
     . exact h own ho
   . rw [List.mem_singleton.mp y]; exact hr
theorem ws_fold : ∀ {ws found : List Wd}, Ws found -> Ws ws -> Ws (ws.foldl ins found)
 | [], _, h, _ => h
 | w :: ws, _, h, a => ws_fold (ws := ws) (ws_ins h (a w List.mem_cons_self)) fun x hx => a x (List.mem_cons_of_mem _ hx)
theorem ws_base {ws : List Wd} (a : Ws ws) : Ws (baseL ws) := ws_fold (fun _ h => absurd h List.not_mem_nil) a
theorem ws_bo {ws : List Wd} (a : Ws ws) : Ws (baseOf ws) := fun w hw => ws_base a w ((srt_perm _).mem_iff.mp hw)
theorem ech_len {rows : List Wd} (E : Ech rows) (h : Ws rows) : rows.length <= 18 := by
 have nd : (rows.map hd).Nodup := by
  refine List.pairwise_map.mpr (List.Pairwise.imp_of_mem ?_ E.ap)
  intro a b ha hb hab e
  exact hab.1 (by rw [e]; exact hd_mem (E.ne b hb))
 have := nodup_le (b := Uni.U) nd fun k hk => by
  obtain ⟨r, hr, rfl⟩ := List.mem_map.mp hk
  exact (h r hr).sub _ (hd_mem (E.ne r hr))
 rw [List.length_map] at this
 exact Nat.le_trans this Uni.len
end
end Vs
namespace Vs
open Ev PySem
def nm (s : Sl) : Prop := s = .un \/ (∃ d, s = .fz d) \/ ∃ d, s = .bo d
theorem nm_un : nm .un := .inl rfl
theorem nm_fz {d : D} : nm (.fz d) := .inr (.inl ⟨d, rfl⟩)
theorem nm_bo {d : D} : nm (.bo d) := .inr (.inr ⟨d, rfl⟩)
theorem nm_slP {s : Sl} (h : nm s) {q : Option Ev.Env} : slP (some s) q = q := by
 rcases h with rfl | ⟨d, rfl⟩ | ⟨d, rfl⟩ <;> rfl
theorem nm_slW {s : Sl} (h : nm s) {q : Option Ev.Env} : slW (some s) q = q := by
 rcases h with rfl | ⟨d, rfl⟩ | ⟨d, rfl⟩ <;> rfl
def vl (s : Sl) (d : D) : Prop := s = .fz d \/ s = .bo d
theorem vl_fz {d : D} : vl (.fz d) d := .inl rfl
theorem vl_bo {d : D} : vl (.bo d) d := .inr rfl
theorem vl_nm {s : Sl} {d : D} (h : vl s d) : nm s := by
 rcases h with rfl | rfl
 . exact nm_fz
 . exact nm_bo
theorem vl_sl {s : Sl} {d : D} (h : vl s d) (hl : isL d = false) {i : Nat} {e : Ev.Env} : slR i e (some s) = .ok (.val d) e := by
 rcases h with rfl | rfl
 . rfl
 . show (if isL d = true then _ else _) = _
   rw [hl]
   rfl
@[simp] theorem z_slW' {w : Wd} {i : Nat} {e : Ev.Env} : slR i e (some (.bo (dW w))) = .ok (.val (dW w)) e := rfl
section
variable {α : Type} {enc : α -> D} {turn : D -> Ev.Env -> Res (Option D)} {f : α -> Option D} {e e1 e2 e3 e4 : Ev.Env} {own : List Nat} {i : Nat} {ds : List D}
theorem lc_pure : ∀ {l : List α}, (∀ a ∈ l, turn (enc a) e = .ok (f a) e) -> lcGo turn (l.map enc) e = .ok (l.filterMap f) e
 | [], _ => rfl
 | a :: l, h => by
  rw [List.map_cons]
  unfold lcGo
  rw [h a List.mem_cons_self, bind_ok, lc_pure fun b hb => h b (List.mem_cons_of_mem _ hb), bind_ok, List.filterMap_cons]
  cases f a <;> rfl
theorem lcN_pure {l : List α} {t : Bool} (hs : e[i]? = some (.mu t true (.lst (l.map enc)))) (hb : l.length < 1000000) (h : ∀ a ∈ l, turn (enc a) e = .ok (f a) e) : lcGoN turn (itemAt i false) 1000000 0 e = .ok (l.filterMap f) e := by
 have main : ∀ n k, k <= l.length -> l.length < n + k -> lcGoN turn (itemAt i false) n k e = .ok ((l.drop k).filterMap f) e := by
  intro n
  induction n with
  | zero => intro k h1 h2; omega
  | succ n ih =>
   intro k h1 h2
   have hit : itemAt i false k e = some (l.map enc)[k]? := by unfold itemAt; rw [hs]; rfl
   unfold lcGoN
   rw [hit]
   by_cases hk : k < l.length
   . rw [List.getElem?_map, List.getElem?_eq_getElem hk, List.drop_eq_getElem_cons hk, List.filterMap_cons]
     show (turn (enc l[k]) e).bind _ = _
     rw [h _ (List.getElem_mem hk), bind_ok, ih (k + 1) (by omega) (by omega), bind_ok]
     cases f l[k] <;> rfl
   . rw [List.getElem?_eq_none_iff.mpr (by rw [List.length_map]; omega), List.drop_of_length_le (by omega)]
     rfl
 exact main 1000000 0 (Nat.zero_le _) (by omega)
theorem lcR_slot (h1 : lockE i e = some e1) (h2 : wipeE e1 own = some e2) (h3 : lcGoN turn (itemAt i false) 1000000 0 e2 = .ok ds e3) (h4 : unlockE i e (backE e1 e3 own) = some e4) : lcRun own turn (.slot i false) e = .ok ds e4 := by
 show (match lockE i e with
  | none => .bad
  | some e1 => match wipeE e1 own with
   | none => .bad
   | some e2 => (lcGoN turn (itemAt i false) 1000000 0 e2).bind fun ds e3 => (ofO (unlockE i e (backE e1 e3 own)) e3).bind fun e4 _ => .ok ds e4 : Res (List D)) = _
 rw [h1]
 show (match wipeE e1 own with
  | none => .bad
  | some e2 => (lcGoN turn (itemAt i false) 1000000 0 e2).bind fun ds e3 => (ofO (unlockE i e (backE e1 e3 own)) e3).bind fun e4 _ => .ok ds e4 : Res (List D)) = _
 rw [h2]
 show (lcGoN turn (itemAt i false) 1000000 0 e2).bind _ = _
 rw [h3, bind_ok, h4]
 rfl
end
theorem cat_l {xs ys : List D} (h : xs.length + ys.length <= big) : bop .Add (.list xs) (.list ys) = some (.fresh (.lst (xs ++ ys))) := if_pos h
theorem filterMap_some {α β : Type} (g : α -> β) : ∀ l : List α, l.filterMap (fun a => some (g a)) = l.map g
 | [] => rfl
 | a :: l => by rw [List.filterMap_cons, filterMap_some g l]; rfl
theorem filterMap_if {α β : Type} (p : α -> Bool) (g : α -> β) : ∀ l : List α, l.filterMap (fun a => if p a = true then some (g a) else none) = (l.filter p).map g
 | [] => rfl
 | a :: l => by
  rw [List.filterMap_cons, List.filter_cons, filterMap_if p g l]
  cases p a <;> rfl
def nq (s : Sl) : Prop := nm s \/ ∃ c, s = .mu false false c
theorem cut_take {α : Type} {xs : List α} (n : Nat) : cutD xs none (some (n : Int)) = xs.take n := by
 unfold cutD
 have e1 : HT.sIx xs.length 0 none = 0 := rfl
 have e2 : HT.sIx xs.length xs.length (some (n : Int)) = min n xs.length := by
  show (if (n : Int) < 0 then ((n : Int) + xs.length).toNat else min (n : Int).toNat xs.length) = _
  rw [if_neg (by omega)]
  rfl
 rw [e1, e2, Nat.sub_zero, List.drop_zero]
 by_cases h : n <= xs.length
 . rw [Nat.min_eq_left h]
 . rw [Nat.min_eq_right (by omega), List.take_of_length_le (Nat.le_refl _), List.take_of_length_le (by omega)]
theorem take_t {ws : List Wd} (n : Nat) : sop (.tuple (dL ws)) none (some (n : Int)) = some (.val (.tuple (dL (ws.take n)))) := by
 show some (R.val (PyData.tuple (cutD (dL ws) none (some (n : Int))))) = _
 rw [cut_take, dL, dL, List.map_take]
theorem add_l {a b : List Wd} (h : a.length + b.length <= big) : bop .Add (.list (dL a)) (.list (dL b)) = some (.fresh (.lst (dL (a ++ b)))) := by
 rw [cat_l (by simpa using h), dL_app]
end Vs
namespace Vs
open Ev PySem
variable [Uni]
def bynd (ws os : List Wd) : List Wd := baseOf (ws.map (red (baseOf os)))
def dP (p : List Wd × List Wd) : D := .tuple [.tuple (dL p.1), .tuple (dL p.2)]
end Vs
namespace Vs
open Ev PySem
def Lead (ws : List Wd) (k : Int) : Prop := ∃ v, Sp ws v /\ v ≠ [] /\ hd v = k
end Vs
namespace Vs
open Ev PySem
abbrev Pr := Wd × Wd
structure Tri (vs : List Wd) : Prop where
 ris : ∀ r ∈ vs, Rs r
 ne : ∀ r ∈ vs, r ≠ []
 up : vs.Pairwise fun r s => hd r < hd s
theorem Tri.tail {r : Wd} {rs : List Wd} (h : Tri (r :: rs)) : Tri rs := ⟨fun x hx => h.ris x (List.mem_cons_of_mem _ hx), fun x hx => h.ne x (List.mem_cons_of_mem _ hx), (List.pairwise_cons.mp h.up).2⟩
def led (rows : List Pr) (p : Pr) : Pr := rows.foldl (fun p r => if hd r.1 ∈ p.1 then (symI p.1 r.1, symI p.2 r.2) else p) p
def ltP (a b : Pr) : Bool := if a.1 = b.1 then decide (a.2 < b.2) else decide (a.1 < b.1)
def srtP (ls : List Pr) : List Pr := ls.mergeSort fun a b => !ltP b a
def trw (rows : List Pr) (e : Wd) : List Pr := if (led rows (e, [])).1 = [] then rows else srtP (rows ++ [led rows (e, [])])
def bmS (q : List Pr × List Wd) (e : Wd) : List Pr × List Wd := (trw q.1 e, if (led q.1 (e, [])).1 = [] then q.2 ++ [(led q.1 (e, [])).2] else q.2)
def bmF (a os : List Wd) : List Pr × List Wd := os.foldl bmS (a.map fun w => (w, w), [])
def bothW (a b : List Wd) : List Wd := baseOf (bmF (baseOf a) (baseOf b)).2
structure BmOk (A P : List Wd) (q : List Pr × List Wd) : Prop where
 tri : Tri (q.1.map Prod.fst)
 row : ∀ r ∈ q.1, Rs r.2 /\ Sp A r.2 /\ Sp P (symI r.1 r.2)
 all : ∀ v, Sp (q.1.map Prod.fst) v ↔ Sp (A ++ P) v
 fnd : All q.2
 eq : ∀ v, Sp q.2 v ↔ Sp A v /\ Sp P v
end Vs
namespace Vs
open Ev PySem
variable [Uni]
section
variable {e : Ev.Env} {ms : List Mo} {rs : List R} {r : R} {d : D} {ls : List Nat}
@[simp] theorem z_escAf : escAll (.f :: ms) (r :: rs) e = (match esc e r with
 | .ok d e' => (escAll ms rs e').map fun q => (.val d :: q.1, q.2)
 | _ => none) := rfl
@[simp] theorem z_rAf : readAll e (.f :: ms) (.val d :: rs) = (readAll e ms rs).map fun q => (d :: q.1, q.2) := rfl
@[simp] theorem z_apF : apart ls (.f :: ms) (r :: rs) = apart ls ms rs := by cases r <;> rfl
end
def dPr (p : Pr) : D := .tuple [dW p.1, dW p.2]
def dR (ps : List Pr) : List D := ps.map dPr
@[simp] theorem dR_len {ps : List Pr} : (dR ps).length = ps.length := List.length_map _
def PW (ps : List Pr) : Prop := ∀ r ∈ ps, Wk r.1 /\ Wk r.2 /\ r.1 ≠ []
def lz (s : Sl) (ds : List D) : Prop := s = .mu false false (.lst ds) \/ s = .fz (.list ds)
end Vs
namespace Vs
open Ev PySem
theorem nodup_le' {α : Type} [BEq α] [LawfulBEq α] {a b : List α} (h : a.Nodup) (hs : ∀ k ∈ a, k ∈ b) : a.length <= b.length := by
 induction a generalizing b with
 | nil => exact Nat.zero_le _
 | cons x a ih =>
  obtain ⟨h1, h2⟩ := List.nodup_cons.mp h
  have hx := hs x List.mem_cons_self
  have := ih (b := b.erase x) h2 fun k hk => by
   rw [List.mem_erase_of_ne]
   . exact hs k (List.mem_cons_of_mem _ hk)
   . intro e
     subst e
     exact h1 hk
  rw [List.length_erase_of_mem hx] at this
  have : 0 < b.length := List.length_pos_of_mem hx
  rw [List.length_cons]
  omega
theorem rank_more {ws : List Wd} (a : All ws) {w : Wd} (r : Rs w) : (baseOf (ws ++ [w])).length = (baseOf ws).length + if mkB ws w = true then 0 else 1 := by
 rw [bo_len, bo_len]
 have e : baseL (ws ++ [w]) = ins (baseL ws) w := by unfold baseL; rw [List.foldl_append]; rfl
 rw [e]
 have h : mkB ws w = true ↔ red (baseL ws) w = [] := by rw [mk_iff a r, red_iff (base_ech a) r, base_sp a]
 unfold ins
 by_cases c : mkB ws w = true
 . rw [if_pos c, if_pos (h.mp c)]; rfl
 . rw [if_neg c, if_neg fun z => c (h.mpr z), List.length_append, List.length_map]
   rfl
def madeW (ws : List Wd) : List Wd := srtW (allW (baseOf ws))
theorem made_mem {ws : List Wd} (a : All ws) (v : Wd) : v ∈ madeW ws ↔ Sp ws v := by
 unfold madeW
 rw [(srt_perm _).mem_iff, (all_ok (bo_ech a).ris).mem, bo_sp a]
theorem made_nd {ws : List Wd} (a : All ws) : (madeW ws).Nodup := (srt_perm _).nodup_iff.mpr (all_ok (bo_ech a).ris).nd
theorem sortable0 {ws : List Wd} (h : ∃ r, ws = [] :: r) : sortable (dL ws) = true := by
 obtain ⟨r, rfl⟩ := h
 unfold sortable
 rw [Bool.or_eq_true]
 right
 show ((dL ([] :: r)).all fun d => match d with | .tuple _ => true | _ => false) = true
 rw [List.all_eq_true]
 intro d hd
 obtain ⟨w, _, rfl⟩ := mem_dL.mp hd
 rfl
theorem sorted_ws0 {ws : List Wd} (h : ∃ r, ws = [] :: r) : bi .sorted [.list (dL ws)] = some (.fresh (.lst (dL (srtW ws)))) := by
 show (if allAlike (dL ws) = true /\ sortable (dL ws) = true /\ ((dL ws).all fun d => decide (d.depth <= 60)) = true then some (R.fresh (.lst (sortD (dL ws)))) else none) = _
 rw [if_pos ⟨allAlike_ws ws, sortable0 h, depth_ws ws⟩, sortD_ws]
end Vs
namespace Vs
open Ev PySem
variable [Uni]
def bbW (a b S : List Wd) : List Wd := bynd (bothW (a ++ S) (b ++ S)) S
def trn (a b S : List Wd) (w : Wd) : Int := if mkB S w = true then 0 else if mkB (a ++ S) w = true /\ mkB (b ++ S) w = true then -1 else if mkB (a ++ S) w = false /\ mkB (b ++ S) w = false /\ mkB (a ++ b ++ S) w = true then 1 else 0
end Vs
namespace Vs
open Ev
def od (a t : Wd) : Bool := decide ((a.filter fun k => decide (k ∈ t)).length % 2 = 1)
theorem od_nil (t : Wd) : od [] t = false := rfl
theorem od_cons (k : Int) (a t : Wd) : od (k :: a) t = (decide (k ∈ t) ^^ od a t) := by
 unfold od
 rw [List.filter_cons]
 generalize a.filter (fun k => decide (k ∈ t)) = l
 by_cases h : k ∈ t
 . rw [if_pos (by simpa using h), List.length_cons, decide_eq_true h, Bool.true_xor, <- decide_not]
   exact decide_eq_decide.mpr (by omega)
 . rw [if_neg (by simpa using h), decide_eq_false h, Bool.false_xor]
theorem od_sym2 (a : Wd) (t s : Wd) : od a (symI t s) = (od a t ^^ od a s) := by
 induction a with
 | nil => rfl
 | cons k a ih =>
  rw [od_cons, od_cons, od_cons, ih]
  have m : decide (k ∈ symI t s) = (decide (k ∈ t) ^^ decide (k ∈ s)) := by
   have := m_sym (a := t) (b := s) (j := k)
   by_cases h1 : k ∈ t <;> by_cases h2 : k ∈ s <;> simp [this, h1, h2]
  rw [m]
  cases decide (k ∈ t) <;> cases decide (k ∈ s) <;> cases od a t <;> cases od a s <;> rfl
theorem od_comm {a t : Wd} (ha : Rs a) (ht : Rs t) : od a t = od t a := by
 unfold od
 have e : (a.filter fun k => decide (k ∈ t)) = t.filter fun k => decide (k ∈ a) := ris_one (ha.filter _) (ht.filter _) fun k => by
  simp only [List.mem_filter, decide_eq_true_eq]
  exact And.comm
 rw [e]
theorem od_sym {a b t : Wd} (ha : Rs a) (hb : Rs b) (ht : Rs t) : od (symI a b) t = (od a t ^^ od b t) := by
 rw [od_comm (r_sym a b) ht, od_sym2, od_comm ht ha, od_comm ht hb]
theorem od_made {S : List Wd} (hS : All S) {t : Wd} (ht : Rs t) (h : ∀ s ∈ S, od s t = false) {v : Wd} (hv : Sp S v) : od v t = false := by
 induction hv with
 | zero => rfl
 | @add v w hw hv ih => rw [od_sym hv.ris (hS w hw) ht, ih, h w hw]; rfl
def part (B : List Wd) (s : Int) : Wd := (s :: (B.filter fun b => decide (s ∈ b)).map hd).foldr insI []
theorem part_mem {B : List Wd} {s k : Int} : k ∈ part B s ↔ k = s \/ ∃ b ∈ B, s ∈ b /\ hd b = k := by
 unfold part
 rw [mem_fold, List.mem_cons, List.mem_map]
 simp only [List.mem_filter, decide_eq_true_eq]
 constructor
 . rintro (h | ⟨b, ⟨h1, h2⟩, h3⟩)
   . exact .inl h
   . exact .inr ⟨b, h1, h2, h3⟩
 . rintro (h | ⟨b, h1, h2, h3⟩)
   . exact .inl h
   . exact .inr ⟨b, ⟨h1, h2⟩, h3⟩
theorem part_ris {B : List Wd} {s : Int} : Rs (part B s) := fold_ris _
theorem two_of {l : List Int} (h : Rs l) {x y : Int} (hxy : x ≠ y) (m : ∀ k, k ∈ l ↔ k = x \/ k = y) : l.length = 2 := by
 have h1 : l.length <= [x, y].length := nodup_le (ris_nodup h) fun k hk => by
  rcases (m k).mp hk with rfl | rfl <;> simp
 have h2 : [x, y].length <= l.length := nodup_le (by simp [hxy]) fun k hk => (m k).mpr (by simpa using hk)
 simp at h1 h2
 omega
theorem one_of {l : List Int} (h : Rs l) {x : Int} (m : ∀ k, k ∈ l ↔ k = x) : l.length = 1 := by
 have h1 : l.length <= [x].length := nodup_le (ris_nodup h) fun k hk => by
  rw [(m k).mp hk]
  simp
 have h2 : [x].length <= l.length := nodup_le (by simp) fun k hk => (m k).mpr (by simpa using hk)
 simp at h1 h2
 omega
theorem part_row {B : List Wd} (E : Ech B) {s : Int} (hs : ∀ b ∈ B, hd b ≠ s) {b : Wd} (hb : b ∈ B) : od b (part B s) = false := by
 unfold od
 have r := (E.ris b hb)
 have ne := E.ne b hb
 have mem : ∀ k, k ∈ (b.filter fun k => decide (k ∈ part B s)) ↔ k ∈ b /\ (k = s \/ ∃ c ∈ B, s ∈ c /\ hd c = k) := fun k => by
  rw [List.mem_filter, decide_eq_true_eq, part_mem]
 by_cases h : s ∈ b
 . have e : (b.filter fun k => decide (k ∈ part B s)).length = 2 := two_of (r.filter _) (x := s) (y := hd b) (fun z => hs b hb z.symm) fun k => by
    rw [mem]
    constructor
    . rintro ⟨h1, h2 | ⟨c, hc, _, rfl⟩⟩
      . exact .inl h2
      . right
        rw [ech_hd E hc hb h1]
    . rintro (rfl | rfl)
      . exact ⟨h, .inl rfl⟩
      . exact ⟨hd_mem ne, .inr ⟨b, hb, h, rfl⟩⟩
   rw [e]
   rfl
 . have e : (b.filter fun k => decide (k ∈ part B s)) = [] := List.eq_nil_iff_forall_not_mem.mpr fun k hk => by
    obtain ⟨h1, h2 | ⟨c, hc, hsc, rfl⟩⟩ := (mem k).mp hk
    . exact h (h2 ▸ h1)
    . rw [ech_hd E hc hb h1] at hsc
      exact h hsc
   rw [e]
   rfl
theorem part_rest {B : List Wd} {s : Int} {v : Wd} (rv : Rs v) (hs : s ∈ v) (hv : ∀ b ∈ B, ¬ hd b ∈ v) : od v (part B s) = true := by
 unfold od
 have e : (v.filter fun k => decide (k ∈ part B s)).length = 1 := one_of (rv.filter _) (x := s) fun k => by
  rw [List.mem_filter, decide_eq_true_eq, part_mem]
  constructor
  . rintro ⟨h1, h2 | ⟨c, hc, _, rfl⟩⟩
    . exact h2
    . exact (hv c hc h1).elim
  . rintro rfl
    exact ⟨hs, .inl rfl⟩
 rw [e]
 rfl
theorem part_ok {ws : List Wd} (a : All ws) {w : Wd} (rw' : Rs w) (hn : red (baseOf ws) w ≠ []) :
  (∀ b ∈ ws, od b (part (baseOf ws) (hd (red (baseOf ws) w))) = false) /\ od w (part (baseOf ws) (hd (red (baseOf ws) w))) = true := by
 have E := bo_ech a
 have hno := red_no E (e := w)
 have hmem := hd_mem hn
 have hs : ∀ b ∈ baseOf ws, hd b ≠ hd (red (baseOf ws) w) := fun b hb z => hno b hb (z ▸ hmem)
 have rows : ∀ b ∈ baseOf ws, od b (part (baseOf ws) (hd (red (baseOf ws) w))) = false := fun b hb => part_row E hs hb
 have rr : Rs (red (baseOf ws) w) := red_ris rw'
 refine ⟨fun b hb => od_made E.ris part_ris rows ((bo_sp a b).mpr (.own hb (a b hb))), ?_⟩
 have h1 : Sp (baseOf ws) (symI w (red (baseOf ws) w)) := red_sp (fun r hr => .own hr (E.ris r hr)) rw'
 have h2 := od_made E.ris part_ris rows h1
 rw [od_sym rw' rr part_ris, part_rest rr hmem hno] at h2
 cases h : od w (part (baseOf ws) (hd (red (baseOf ws) w))) with
 | true => rfl
 | false => rw [h] at h2; cases h2
end Vs
namespace Vs
open Ev
theorem sp_let {p : Int -> Prop} {S : List Wd} (h : ∀ w ∈ S, ∀ k ∈ w, p k) {v : Wd} (hv : Sp S v) : ∀ k ∈ v, p k := by
 induction hv with
 | zero => exact fun k hk => absurd hk List.not_mem_nil
 | @add v w hw _ ih =>
  intro k hk
  rw [m_sym] at hk
  by_cases c : k ∈ v
  . exact ih k c
  . exact h w hw k (by
     apply Classical.byContradiction
     intro z
     exact c (hk.mpr z))
def singles (m : Nat) : List Wd := (List.range m).map fun (k : Nat) => [(k : Int)]
theorem all_singles (m : Nat) : All (singles m) := fun w hw => by
 obtain ⟨k, _, rfl⟩ := List.mem_map.mp hw
 exact List.pairwise_singleton _ _
def Lw (m : Nat) (v : Wd) : Prop := Rs v /\ ∀ k ∈ v, 0 <= k /\ k < m
theorem lw_sym {m : Nat} {a b : Wd} (ha : Lw m a) (hb : Lw m b) : Lw m (symI a b) := ⟨r_sym _ _, fun k hk => by
 rw [m_sym] at hk
 by_cases c : k ∈ a
 . exact ha.2 k c
 . exact hb.2 k (by
    apply Classical.byContradiction
    intro z
    exact c (hk.mpr z))⟩
theorem sp_singles {m : Nat} {v : Wd} : Sp (singles m) v ↔ Lw m v := by
 constructor
 . intro h
   refine ⟨h.ris, sp_let (p := fun k => 0 <= k /\ k < m) (fun w hw k hk => ?_) h⟩
   obtain ⟨j, hj, rfl⟩ := List.mem_map.mp hw
   rw [List.mem_singleton.mp hk]
   have := List.mem_range.mp hj
   omega
 . rintro ⟨r, h⟩
   induction v with
   | nil => exact .zero
   | cons k v ih =>
    have h1 := ih (List.pairwise_cons.mp r).2 fun j hj => h j (List.mem_cons_of_mem _ hj)
    obtain ⟨k0, k1⟩ := h k List.mem_cons_self
    have hm : [k] ∈ singles m := List.mem_map.mpr ⟨k.toNat, List.mem_range.mpr (by omega), by
     rw [show ((k.toNat : Nat) : Int) = k by omega]⟩
    have e : symI [k] v = k :: v := ris_one (r_sym _ _) r fun j => by
     rw [m_sym, List.mem_singleton, List.mem_cons]
     by_cases c : j = k
     . subst c
       simp only [true_iff, true_or, iff_true]
       intro z
       have := (List.pairwise_cons.mp r).1 j z
       omega
     . simp [c]
    rw [<- e]
    exact (Sp.own hm (List.pairwise_singleton _ _)).sum h1
def turnsW (m : Nat) : List Wd := madeW (singles m)
theorem turns_mem {m : Nat} {v : Wd} : v ∈ turnsW m ↔ Lw m v := (made_mem (all_singles m) v).trans sp_singles
theorem turns_nd (m : Nat) : (turnsW m).Nodup := made_nd (all_singles m)
theorem split_len {α : Type} (p : α -> Bool) : ∀ l : List α, l.length = (l.filter p).length + (l.filter fun a => !p a).length
 | [] => rfl
 | a :: l => by
  rw [List.length_cons, split_len p l, List.filter_cons, List.filter_cons]
  cases h : p a
  . simp
    omega
  . simp
    omega
theorem over_le {A B : List Wd} (nA : A.Nodup) (hA : All A) {t : Wd} (h : ∀ v ∈ A, symI v t ∈ B) : A.length <= B.length := by
 have nd : (A.map fun v => symI v t).Nodup := by
  unfold List.Nodup
  rw [List.pairwise_map]
  refine List.Pairwise.imp_of_mem (fun {x y} hx hy hne z => hne ?_) nA
  have z : symI x t = symI y t := z
  have := s_back2 (a := x) (b := t) (hA x hx)
  rw [z, s_back2 (hA y hy)] at this
  exact this.symm
 have := nodup_le' nd fun k hk => by
  obtain ⟨v, hv, rfl⟩ := List.mem_map.mp hk
  exact h v hv
 rwa [List.length_map] at this
def evens (S : List Wd) (U : List Wd) : List Wd := U.filter fun t => S.all fun s => !od s t
theorem ev_mem' {S U : List Wd} {t : Wd} : t ∈ evens S U ↔ t ∈ U /\ ∀ s ∈ S, od s t = false := by
 unfold evens
 rw [List.mem_filter, List.all_eq_true]
 simp
theorem evens_snoc (S U : List Wd) (w : Wd) : evens (S ++ [w]) U = (evens S U).filter fun t => !od w t := by
 unfold evens
 rw [List.filter_filter]
 congr 1
 funext t
 rw [List.all_append, Bool.and_comm]
 simp
theorem half {m : Nat} {S : List Wd} (hS : ∀ s ∈ S, Lw m s) {w : Wd} (hw : Lw m w) (hn : mkB S w = false) : ((evens S (turnsW m)).filter fun t => !od w t).length = ((evens S (turnsW m)).filter fun t => od w t).length := by
 have aS : All S := fun s hs => (hS s hs).1
 have hr : red (baseOf S) w ≠ [] := fun z => by
  unfold mkB at hn
  rw [z] at hn
  cases hn
 obtain ⟨p1, p2⟩ := part_ok aS hw.1 hr
 have rr : Rs (red (baseOf S) w) := red_ris hw.1
 have lb : ∀ b ∈ baseOf S, Lw m b := fun b hb => ⟨(bo_ech aS).ris b hb, sp_let (p := fun k => 0 <= k /\ k < m) (fun w hw => (hS w hw).2) ((bo_sp aS b).mp (.own hb ((bo_ech aS).ris b hb)))⟩
 have lr : ∀ k ∈ red (baseOf S) w, 0 <= k /\ k < m := by
  have h1 : Sp (baseOf S ++ [w]) (red (baseOf S) w) := by
   have h2 : Sp (baseOf S) (symI w (red (baseOf S) w)) := red_sp (fun r hr => .own hr ((bo_ech aS).ris r hr)) hw.1
   have e : red (baseOf S) w = symI w (symI w (red (baseOf S) w)) := (s_back rr).symm
   rw [e]
   refine (Sp.own (List.mem_append_right _ List.mem_cons_self) hw.1).sum (h2.le fun x hx => .own (List.mem_append_left _ hx) ((bo_ech aS).ris x hx))
  refine sp_let (p := fun k => 0 <= k /\ k < m) (fun x hx => ?_) h1
  rcases List.mem_append.mp hx with h | h
  . exact (lb x h).2
  . rw [List.mem_singleton.mp h]
    exact hw.2
 generalize hT : part (baseOf S) (hd (red (baseOf S) w)) = T at p1 p2
 have lT : Lw m T := by
  rw [<- hT]
  refine ⟨part_ris, fun k hk => ?_⟩
  rcases part_mem.mp hk with h | ⟨b, hb, _, rfl⟩
  . rw [h]
    exact lr _ (hd_mem hr)
  . exact (lb b hb).2 _ (hd_mem ((bo_ech aS).ne b hb))
 have nd : (evens S (turnsW m)).Nodup := (turns_nd m).filter _
 have allE : ∀ v ∈ evens S (turnsW m), Rs v := fun v hv => (turns_mem.mp (ev_mem'.mp hv).1).1
 have step : ∀ v ∈ evens S (turnsW m), symI v T ∈ evens S (turnsW m) /\ od w (symI v T) = !od w v := fun v hv => by
  obtain ⟨h1, h2⟩ := ev_mem'.mp hv
  refine ⟨ev_mem'.mpr ⟨turns_mem.mpr (lw_sym (turns_mem.mp h1) lT), fun s hs => by rw [od_sym2, h2 s hs, p1 s hs]; rfl⟩, ?_⟩
  rw [od_sym2, p2]
  cases od w v <;> rfl
 apply Nat.le_antisymm
 . refine over_le (t := T) (nd.filter _) (fun v hv => allE v ((List.mem_filter.mp hv).1)) fun v hv => ?_
   obtain ⟨h1, h2⟩ := List.mem_filter.mp hv
   obtain ⟨h3, h4⟩ := step v h1
   exact List.mem_filter.mpr ⟨h3, by rw [h4]; exact h2⟩
 . refine over_le (t := T) (nd.filter _) (fun v hv => allE v ((List.mem_filter.mp hv).1)) fun v hv => ?_
   obtain ⟨h1, h2⟩ := List.mem_filter.mp hv
   obtain ⟨h3, h4⟩ := step v h1
   exact List.mem_filter.mpr ⟨h3, by rw [h4, Bool.not_not]; exact h2⟩
end Vs
namespace Vs
open Ev
def atP (ws : List Wd) (p : Int) : Wd := ws.getD p.toNat []
def sumsW (ws : List Wd) : Wd := ws.foldl symI []
def sumAt (ws : List Wd) (own : Wd) : Wd := sumsW (own.map (atP ws))
def havers (ws : List Wd) (k : Int) : Wd := ((List.range ws.length).map fun (p : Nat) => (p : Int)).filter fun p => decide (k ∈ atP ws p)
def waysW (ws : List Wd) (w : Wd) : List Wd := (turnsW ws.length).filter fun own => decide (sumAt ws own = w)
theorem fib_len {α β : Type} [DecidableEq β] (f : α -> β) (K : Nat) : ∀ (M : List β) (l : List α), M.Nodup -> (∀ a ∈ l, f a ∈ M) -> (∀ b ∈ M, (l.filter fun a => decide (f a = b)).length = K) -> l.length = M.length * K
 | [], l, _, h, _ => by
  have : l = [] := List.eq_nil_iff_forall_not_mem.mpr fun a ha => absurd (h a ha) List.not_mem_nil
  rw [this]
  simp
 | b :: M, l, nd, h, hk => by
  obtain ⟨hb, nd⟩ := List.nodup_cons.mp nd
  have ih := fib_len f K M (l.filter fun a => !decide (f a = b)) nd (fun a ha => by
   obtain ⟨h1, h2⟩ := List.mem_filter.mp ha
   rcases List.mem_cons.mp (h a h1) with z | z
   . rw [z] at h2
     simp at h2
   . exact z) fun c hc => by
     rw [List.filter_filter, <- hk c (List.mem_cons_of_mem _ hc)]
     congr 1
     refine List.filter_congr fun a _ => ?_
     by_cases e : f a = c
     . have : f a ≠ b := fun z => hb (by rw [<- z, e]; exact hc)
       simp [e, this]
       intro z
       exact this (e.trans z)
     . simp [e]
  have h1 := split_len (fun a => decide (f a = b)) l
  rw [hk b List.mem_cons_self] at h1
  rw [h1, ih, List.length_cons, Nat.succ_mul, Nat.add_comm]
end Vs
namespace Vs
open Ev
def trK (rows : List Pr) (e m : Wd) : List Pr := if (led rows (e, m)).1 = [] then rows else srtP (rows ++ [led rows (e, m)])
structure KpOk (WS P : List Wd) (rows : List Pr) : Prop where
 tri : Tri (rows.map Prod.fst)
 row : ∀ r ∈ rows, Lw WS.length r.2 /\ sumAt WS r.2 = r.1
 all : ∀ v, Sp (rows.map Prod.fst) v ↔ Sp P v
def kpRows (ws : List Wd) : List Pr := ws.zipIdx.foldl (fun rows p => trK rows p.1 [(p.2 : Int)]) []
end Vs
set_option maxHeartbeats 1000000
namespace Ev
open PySem
mutual
def okD : PyData -> Bool
 | .none => true
 | .bool _ => true
 | .int i => decide (i.natAbs < 2 ^ 1000)
 | .str x => PyData.strOk x && x.cps.toList.all fun c => decide (c < 16 ^ 8)
 | .list xs => okA xs
 | .tuple xs => okA xs
 | .dict _ => false
def okA : List PyData -> Bool
 | [] => true
 | d :: ds => okD d && okA ds
end
mutual
def wt : PyData -> Nat
 | .none => 10
 | .bool _ => 10
 | .int _ => 1001
 | .str x => 10 * x.cps.size + 2
 | .list xs => wtA xs + 3
 | .tuple xs => wtA xs + 3
 | .dict _ => 0
def wtA : List PyData -> Nat
 | [] => 0
 | d :: ds => wt d + 2 + wtA ds
end
theorem okA_iff : ∀ {ds : List D}, okA ds = true ↔ ∀ d ∈ ds, okD d = true
 | [] => by simp [okA]
 | d :: ds => by
  rw [okA, Bool.and_eq_true, okA_iff (ds := ds)]
  simp
theorem wtA_mem : ∀ {ds : List D} {d : D}, d ∈ ds -> wt d <= wtA ds
 | e :: ds, d, h => by
  rw [wtA]
  rcases List.mem_cons.mp h with rfl | h
  . omega
  . have := wtA_mem h
    omega
theorem depA_mem : ∀ {ds : List D} {d : D}, d ∈ ds -> d.depth <= PyData.depthAll ds
 | e :: ds, d, h => by
  rw [PyData.depthAll]
  rcases List.mem_cons.mp h with rfl | h
  . omega
  . have := depA_mem h
    omega
structure OkOk (d : D) : Prop where
 sh : d.showable = true
 nd : d.hasDict = false
 ln : d.shown.length <= wt d
 cl : d.canLay0 = true
structure OkAll (ds : List D) : Prop where
 sh : PyData.showableAll ds = true
 nd : PyData.hasDictAll ds = false
 ln : ((PyData.shownAll ds).map (·.length)).sum + 2 * ds.length <= wtA ds
 cl : PyData.canLayAll0 ds = true
theorem ok_all {n : Nat} (ih : ∀ d : D, d.depth <= n -> okD d = true -> OkOk d) : ∀ ds : List D, PyData.depthAll ds <= n -> okA ds = true -> OkAll ds
 | [], _, _ => ⟨rfl, rfl, by simp [PyData.shownAll], rfl⟩
 | d :: ds, hd, h => by
  rw [okA, Bool.and_eq_true] at h
  rw [PyData.depthAll] at hd
  obtain ⟨a1, a2, a4, a5⟩ := ih d (by omega) h.1
  obtain ⟨b1, b2, b4, b5⟩ := ok_all ih ds (by omega) h.2
  refine ⟨by simp [PyData.showableAll, a1, b1], by simp [PyData.hasDictAll, a2, b2], ?_, by simp [PyData.canLayAll0, a5, b5]⟩
  simp only [PyData.shownAll, List.map_cons, List.sum_cons, List.length_cons]
  rw [wtA]
  omega
theorem ok_ok : ∀ (n : Nat) (d : D), d.depth <= n -> okD d = true -> OkOk d := by
 have leaf : OkOk .none := ⟨rfl, rfl, by decide, rfl⟩
 have lb : ∀ b, OkOk (.bool b) := fun b => ⟨by cases b <;> rfl, by cases b <;> rfl, by cases b <;> decide, by cases b <;> rfl⟩
 have li : ∀ i, okD (.int i) = true -> OkOk (.int i) := by
  intro i h
  have h : i.natAbs < 2 ^ 1000 := by simpa [okD] using h
  have hl : i.natAbs.log2 < 1000 := log2_lt h (by decide)
  refine ⟨by simp only [PyData.showable, decide_eq_true_eq]; omega, rfl, ?_, rfl⟩
  have := int_text_length_le (a := i) (by decide : 0 < 1000) hl
  simp only [PyData.shown]
  rw [ofString_length]
  exact this
 have ls : ∀ x, okD (.str x) = true -> OkOk (.str x) := by
  intro x h
  have h : (PyData.strOk x && x.cps.toList.all fun c => decide (c < 16 ^ 8)) = true := by simpa [okD] using h
  simp only [Bool.and_eq_true, decide_eq_true_eq, List.all_eq_true] at h
  obtain ⟨h1, h3⟩ := h
  refine ⟨rfl, rfl, ?_, by simpa [PyData.canLay0] using h1⟩
  have := StrLaws.reprText_len x h3
  simp only [PyData.shown]
  have e : x.length = x.cps.size := rfl
  rw [wt]
  omega
 intro n
 induction n with
 | zero =>
  intro d hd h
  cases d with
  | none => exact leaf
  | bool b => exact lb b
  | int i => exact li i h
  | str x => exact ls x h
  | list _ => simp only [PyData.depth] at hd; omega
  | tuple _ => simp only [PyData.depth] at hd; omega
  | dict _ => simp [okD] at h
 | succ n ih =>
  intro d hd h
  cases d with
  | none => exact leaf
  | bool b => exact lb b
  | int i => exact li i h
  | str x => exact ls x h
  | dict _ => simp [okD] at h
  | list xs =>
   simp only [PyData.depth] at hd
   rw [okD] at h
   obtain ⟨b1, b2, b4, b5⟩ := ok_all ih xs (by omega) h
   have h1 := listText_len_le (PyData.shownAll xs)
   have h3 := PyData.shownAll_length xs
   refine ⟨by simpa [PyData.showable] using b1, by simpa [PyData.hasDict] using b2, ?_, by simpa [PyData.canLay0] using b5⟩
   simp only [PyData.shown]
   rw [h3] at h1
   rw [wt]
   omega
  | tuple xs =>
   simp only [PyData.depth] at hd
   rw [okD] at h
   obtain ⟨b1, b2, b4, b5⟩ := ok_all ih xs (by omega) h
   have h1 := tupleText_len_le (PyData.shownAll xs)
   have h3 := PyData.shownAll_length xs
   refine ⟨by simpa [PyData.showable] using b1, by simpa [PyData.hasDict] using b2, ?_, by simpa [PyData.canLay0] using b5⟩
   simp only [PyData.shown]
   rw [h3] at h1
   rw [wt]
   omega
structure Pd (n s : Nat) (d : D) : Prop where
 ok : okD d = true
 dp : d.depth <= n
 wt : Ev.wt d <= s
theorem Pd.mono {n s n' s' : Nat} {d : D} (h : Pd n s d) (hn : n <= n') (hs : s <= s') : Pd n' s' d := ⟨h.ok, Nat.le_trans h.dp hn, Nat.le_trans h.wt hs⟩
theorem Pd.repr {n s : Nat} {d : D} (h : Pd n s d) (hn : n <= 60) (hs : s <= 16777216) : bi .repr [d] = some (.val (.str d.shown)) := by
 obtain ⟨h1, h2, h3, h4⟩ := ok_ok n d h.dp h.ok
 have h5 := h.dp
 have h6 := h.wt
 exact if_pos ⟨h1, h2, by omega, by show _ <= 16777216; omega⟩
theorem Pd.shp {n s : Nat} {d : D} (h : Pd n s d) (hn : n <= 60) : shp d = true := by
 obtain ⟨h1, h2, h3, h4⟩ := ok_ok n d h.dp h.ok
 have h5 := h.dp
 simp only [Ev.shp, SeqAt.shaped, Bool.and_eq_true, decide_eq_true_eq]
 exact ⟨h4, by omega⟩
theorem Pd.item {n s : Nat} {xs : List D} (h : Pd n s (.tuple xs)) {d : D} (hd : d ∈ xs) : 0 < n /\ Pd (n - 1) s d := by
 obtain ⟨h1, h2, h3⟩ := h
 rw [okD, okA_iff] at h1
 simp only [PyData.depth] at h2
 rw [Ev.wt] at h3
 have := depA_mem hd
 have := wtA_mem hd
 exact ⟨by omega, h1 d hd, by omega, by omega⟩
end Ev
namespace Vs
open Ev
def insH (z : Pr) : List Pr -> List Pr
 | [] => [z]
 | r :: rs => if hd z.1 < hd r.1 then z :: r :: rs else r :: insH z rs
def trI (rows : List Pr) (e m : Wd) : List Pr := if (led rows (e, m)).1 = [] then rows else insH (led rows (e, m)) rows
def ledB : List Pr -> Pr -> Bool
 | [], _ => true
 | r :: rows, p => if hd r.1 ∈ p.1 then decide (p.2.length + r.2.length < 64) && ledB rows (symI p.1 r.1, symI p.2 r.2) else ledB rows p
def kpB : List (Wd × Nat) -> List Pr -> Bool
 | [], _ => true
 | p :: R, rows => ledB rows (p.1, [(p.2 : Int)]) && kpB R (trI rows p.1 [(p.2 : Int)])
def kpI (ws : List Wd) : List Pr := ws.zipIdx.foldl (fun rows p => trI rows p.1 [(p.2 : Int)]) []
end Vs
namespace Ev
open PySem
theorem rng0 (n : Nat) : rngD 0 n = (List.range n).map fun (k : Nat) => .int (k : Int) := by
 unfold rngD
 refine List.map_congr_left fun k _ => ?_
 show PyData.int (0 + (k : Int)) = _
 rw [Int.zero_add]
theorem rng_at {n j : Nat} {d : D} (hd : (rngD 0 n)[j]? = some d) : j < n /\ d = .int (j : Int) := by
 rw [rng0, List.getElem?_map] at hd
 by_cases hj : j < n
 . rw [List.getElem?_eq_getElem (by rw [List.length_range]; exact hj), List.getElem_range] at hd
   cases hd
   exact ⟨hj, rfl⟩
 . rw [List.getElem?_eq_none (by rw [List.length_range]; omega)] at hd
   cases hd
theorem rng_len (lo : Int) (n : Nat) : (rngD lo n).length = n := by simp [rngD]
end Ev
namespace Ev
open PySem
def To {α : Type} (r : Res α) (Q : α -> Env -> Prop) : Prop := ∃ a e, r = .ok a e /\ Q a e
theorem to_ok {α : Type} {a : α} {e : Env} {Q : α -> Env -> Prop} : To (.ok a e) Q = Q a e :=
 propext ⟨fun ⟨_, _, h, q⟩ => by cases h; exact q, fun h => ⟨_, _, rfl, h⟩⟩
theorem to_bind {α β : Type} {r : Res α} {f : α -> Env -> Res β} {Q : β -> Env -> Prop} : To (r.bind f) Q = To r fun a e => To (f a e) Q := by
 cases r with
 | ok a e => rw [to_ok]; rfl
 | bad => exact propext ⟨(fun ⟨_, _, h, _⟩ => by cases h), (fun ⟨_, _, h, _⟩ => by cases h)⟩
 | exc x e => exact propext ⟨(fun ⟨_, _, h, _⟩ => by cases h), (fun ⟨_, _, h, _⟩ => by cases h)⟩
theorem to_noX {α : Type} {r : Res α} {Q : α -> Env -> Prop} : To (noX r) Q = To r Q := by
 cases r with
 | ok a e => rfl
 | bad => rfl
 | exc x e => exact propext ⟨(fun ⟨_, _, h, _⟩ => by cases h), (fun ⟨_, _, h, _⟩ => by cases h)⟩
theorem off_b {r : Res Fl} : offS r = r.bind fun f e => .ok (brk2nx f) e := by cases r <;> rfl
def Then (G : Gm) (X : Xt) (ss : List MS) (Q : Fl -> Env -> Prop) (f : Fl) (e : Env) : Prop := match f with
 | .nx => To (sens G X ss e) Q
 | f => Q f e
theorem to_cons {G : Gm} {X : Xt} {s : MS} {ss : List MS} {e : Env} {Q : Fl -> Env -> Prop} : To (sens G X (s :: ss) e) Q = To (sen G X s e) (Then G X ss Q) := by
 rw [z_cons, to_bind]
 refine congrArg (To (sen G X s e)) ?_
 funext f e1
 cases f with
 | nx => rfl
 | br => exact to_ok
 | ct => exact to_ok
 | rt r => exact to_ok
theorem then_nx {G : Gm} {X : Xt} {ss : List MS} {e : Env} {Q : Fl -> Env -> Prop} : Then G X ss Q .nx e = To (sens G X ss e) Q := rfl
theorem then_br {G : Gm} {X : Xt} {ss : List MS} {e : Env} {Q : Fl -> Env -> Prop} : Then G X ss Q .br e = Q .br e := rfl
theorem then_ct {G : Gm} {X : Xt} {ss : List MS} {e : Env} {Q : Fl -> Env -> Prop} : Then G X ss Q .ct e = Q .ct e := rfl
theorem then_rt {G : Gm} {X : Xt} {ss : List MS} {e : Env} {Q : Fl -> Env -> Prop} {r : R} : Then G X ss Q (.rt r) e = Q (.rt r) e := rfl
def Nxt (Z : Env -> Prop) (f : Fl) (e : Env) : Prop := (f = .nx \/ f = .ct) /\ Z e
theorem nxt_nx {Z : Env -> Prop} {e : Env} : Nxt Z .nx e = Z e := propext ⟨fun h => h.2, fun h => ⟨.inl rfl, h⟩⟩
theorem nxt_ct {Z : Env -> Prop} {e : Env} : Nxt Z .ct e = Z e := propext ⟨fun h => h.2, fun h => ⟨.inr rfl, h⟩⟩
def endF (ms : List Mo) : Fl -> Env -> FRes
 | .rt r, e => fin ms r e
 | .nx, e => fin ms (.val .none) e
 | _, _ => .bad
def End (ms : List Mo) (Z : FRes -> Prop) (f : Fl) (e : Env) : Prop := Z (endF ms f e)
theorem end_rt {ms : List Mo} {Z : FRes -> Prop} {r : R} {e : Env} : End ms Z (.rt r) e = Z (fin ms r e) := rfl
theorem end_nx {ms : List Mo} {Z : FRes -> Prop} {e : Env} : End ms Z .nx e = Z (fin ms (.val .none) e) := rfl
def Out (r : FRes) (P : FRes -> Prop) : Prop := P r
theorem run_eq {G : Gm} {X : Xt} {d : Df} {ds : List D} {e0 : Env} {r : FRes} (h : startE d.mo ds = some e0)
  (hs : To (sens G X d.body (e0 ++ List.replicate (d.N.length - e0.length) .un)) (End d.mo (· = r))) : runD G X d ds = r := by
 obtain ⟨f, e, h1, h2⟩ := hs
 rw [z_run h, h1]
 cases f <;> exact h2
def endH : Fl -> FRes
 | .rt (.val d) => .ret d []
 | .rt (.fresh c) => .fresh c []
 | .nx => .ret .none []
 | _ => .bad
def EndH (r : FRes) (f : Fl) (_ : Env) : Prop := endH f = r
def Gm.wi (G : Gm) (f : Th) (t : AskR) : Gm := { G with ask := some (f, t) }
section
variable {G : Gm} {f : Th} {t : AskR}
@[simp] theorem wi_fn : (G.wi f t).fn = G.fn := rfl
@[simp] theorem wi_fk : (G.wi f t).fk = G.fk := rfl
@[simp] theorem wi_xc : (G.wi f t).xc = G.xc := rfl
@[simp] theorem wi_sub : (G.wi f t).sub = G.sub := rfl
@[simp] theorem wi_fld : (G.wi f t).fld = G.fld := rfl
@[simp] theorem wi_kn : (G.wi f t).kn = G.kn := rfl
@[simp] theorem wi_ask : (G.wi f t).ask = some (f, t) := rfl
end
@[simp] theorem endH_v {r : FRes} {d : D} {e : Env} : EndH r (.rt (.val d)) e = (FRes.ret d [] = r) := rfl
@[simp] theorem endH_f {r : FRes} {c : C} {e : Env} : EndH r (.rt (.fresh c)) e = (FRes.fresh c [] = r) := rfl
@[simp] theorem endH_n {r : FRes} {e : Env} : EndH r .nx e = (FRes.ret .none [] = r) := rfl
theorem stp : (∀ {α : Type} {a : α} {e : Env} {Q : α -> Env -> Prop}, To (.ok a e) Q = Q a e) /\
  (∀ {α β : Type} {r : Res α} {f : α -> Env -> Res β} {Q : β -> Env -> Prop}, To (r.bind f) Q = To r fun a e => To (f a e) Q) /\
  (∀ {α : Type} {r : Res α} {Q : α -> Env -> Prop}, To (noX r) Q = To r Q) /\
  (∀ {r : Res Fl}, offS r = r.bind fun f e => .ok (brk2nx f) e) /\
  (∀ {G : Gm} {X : Xt} {s : MS} {ss : List MS} {e : Env} {Q : Fl -> Env -> Prop}, To (sens G X (s :: ss) e) Q = To (sen G X s e) (Then G X ss Q)) /\
  (∀ {G : Gm} {X : Xt} {ss : List MS} {e : Env} {Q : Fl -> Env -> Prop}, Then G X ss Q .nx e = To (sens G X ss e) Q) /\
  (∀ {G : Gm} {X : Xt} {ss : List MS} {e : Env} {Q : Fl -> Env -> Prop}, Then G X ss Q .br e = Q .br e) /\
  (∀ {G : Gm} {X : Xt} {ss : List MS} {e : Env} {Q : Fl -> Env -> Prop}, Then G X ss Q .ct e = Q .ct e) /\
  (∀ {G : Gm} {X : Xt} {ss : List MS} {e : Env} {Q : Fl -> Env -> Prop} {r : R}, Then G X ss Q (.rt r) e = Q (.rt r) e) /\
  (∀ {Z : Env -> Prop} {e : Env}, Nxt Z .nx e = Z e) /\ (∀ {Z : Env -> Prop} {e : Env}, Nxt Z .ct e = Z e) /\
  (∀ {ms : List Mo} {Z : FRes -> Prop} {r : R} {e : Env}, End ms Z (.rt r) e = Z (fin ms r e)) /\
  (∀ {ms : List Mo} {Z : FRes -> Prop} {e : Env}, End ms Z .nx e = Z (fin ms (.val .none) e)) :=
 ⟨to_ok, to_bind, to_noX, off_b, to_cons, then_nx, then_br, then_ct, then_rt, nxt_nx, nxt_ct, end_rt, end_nx⟩
theorem to_fr {turn : D -> Sc} {ds : List D} {e : Env} {Q : Fl -> Env -> Prop} (I : Nat -> Env -> Prop) (h0 : I 0 e)
  (step : ∀ k d e (Z : Env -> Prop), ds[k]? = some d -> I k e -> (∀ e', I (k + 1) e' -> Z e') -> To (turn d e) (Nxt Z)) (post : ∀ e', I ds.length e' -> Q .nx e') : To (frGo turn ds e) Q := by
 obtain ⟨e', h1, h2⟩ := fr_inv (turn := turn) (ds := ds) I (fun k d e hd hI => by
  obtain ⟨f, e', q1, q2, q3⟩ := step k d e (I (k + 1)) hd hI fun _ h => h
  exact ⟨f, e', q1, q2, q3⟩) h0
 exact ⟨.nx, e', h1, post e' h2⟩
theorem to_frm {turn : D -> Sc} {ds : List D} {e : Env} {Q : Fl -> Env -> Prop} (I : Env -> Prop) (h0 : I e)
  (step : ∀ d e (Z : Env -> Prop), d ∈ ds -> I e -> (∀ e', I e' -> Z e') -> To (turn d e) (Nxt Z)) (post : ∀ e', I e' -> Q .nx e') : To (frGo turn ds e) Q :=
 to_fr (fun _ e => I e) h0 (fun k d e Z hd hI hz => step d e Z (List.mem_of_getElem? hd) hI hz) post
theorem to_frr {turn : D -> Sc} {n : Nat} {e : Env} {Q : Fl -> Env -> Prop} (I : Nat -> Env -> Prop) (h0 : I 0 e)
  (step : ∀ k e (Z : Env -> Prop), k < n -> I k e -> (∀ e', I (k + 1) e' -> Z e') -> To (turn (.int k) e) (Nxt Z)) (post : ∀ e', I n e' -> Q .nx e') : To (frGo turn (rngD 0 n) e) Q := by
 refine to_fr I h0 (fun k d e Z hd hI hz => ?_) fun e' h => post e' (by rwa [rng_len] at h)
 obtain ⟨hk, rfl⟩ := rng_at hd
 exact step k e Z hk hI hz
def slEn (i : Nat) (e : Env) : Option Sl -> Res Src
 | some (.bo (.list ds)) => .ok (.vals (enumD ds)) e
 | some (.mu _ _ (.lst _)) => .ok (.slot i true) e
 | _ => .bad
@[simp] theorem z_slEn {i : Nat} {e : Env} {ds : List D} {p q : Bool} : slEn i e (some (.mu p q (.lst ds))) = .ok (.slot i true) e := rfl
theorem to_turn {tg : List Nat} {pair : Bool} {b : Sc} {d : D} {e e1 : Env} {Q : Fl -> Env -> Prop} (h : putT tg pair d e = some e1) (hq : To (b e1) Q) : To (frTurn tg pair b d e) Q := by
 rw [z_frT, h]
 exact hq
def NxO (Z : Env -> List D -> Prop) (acc : List D) (o : Option D) (e : Env) : Prop := Z e (acc ++ o.toList)
end Ev
set_option maxRecDepth 100000
namespace K03
open Ev PySem
def top (i : Nat) : PySem.Stmt := PySem.Challenge.pw_metbefore_k03_whole_signs_of_sums.main.body.getD i (.Pass ⟨0, 0, 0, 0⟩)
def LN : List String := ["law"]
def dsum_two : Df := ⟨"sum_two", ["one", "other"], [.b, .b], ["one", "other"],
 [.ret (.sx (.var 0) (.var 1))], []⟩
def dsum_of : Df := ⟨"sum_of", ["words"], [.b], ["words", "found", "entry"],
 [.asg 1 (.tup []), .fr [2] false (.var 0) [.asg 1 (.cal "sum_two" [.var 1, .var 2])], .ret (.var 1)], []⟩
def dsign_of : Df := ⟨"sign_of", ["word", "signs"], [.b, .b], ["word", "signs", "meeting"],
 [.fr [2] false (.var 0) [.ite (.cmp .GtE (.var 2) (.bif .len [.var 1])) [.nev] []], .ret (.bin .Mod (.bif .sum [.lc [("meeting",
  2)] [2] false (.var 0) none (.idx (.var 1) (.var 2))]) (.con (.int 2)))], []⟩
def dreduced : Df := ⟨"reduced", ["rows", "entry"], [.b, .b], ["rows", "entry", "own"],
 [.fr [2] false (.var 0) [.ite (.cmp .In (.idx (.var 2) (.con (.int 0))) (.var 1)) [.asg 1 (.cal "sum_two" [.var 1, .var 2])] []], .ret (.var 1)], []⟩
def dbase_of : Df := ⟨"base_of", ["words"], [.b], ["words", "found", "entry", "rest", "own"],
 [.asg 1 (.lst []), .fr [2] false (.var 0) [.asg 3 (.cal "reduced" [.var 1, .var 2]), .ite (.cmp .NotEq (.var 3) (.tup [])) [.asg 1 (.bin .Add (.lc [("own",
  4)] [4] false (.var 1) none (.ite (.cmp .In (.idx (.var 3) (.con (.int 0))) (.var 4)) (.cal "sum_two" [.var 4, .var 3]) (.var 4))) (.lst [.var 3]))] []],
  .ret (.bif .tuple [.bif .sorted [.var 1]])], []⟩
def dmakes : Df := ⟨"makes", ["words", "word"], [.b, .b], ["words", "word"],
 [.ret (.cmp .Eq (.cal "reduced" [.cal "base_of" [.var 0], .var 1]) (.tup []))], []⟩
def drank_of : Df := ⟨"rank_of", ["words"], [.b], ["words"],
 [.ret (.bif .len [.cal "base_of" [.var 0]])], []⟩
def d_law_feed : Df := ⟨"_law_feed", ["_law_script"], [.b], ["_law_script"],
 [.ret (.lst [.sli (.var 0) none (some (.con (.int 63))), .con (.int 0), .con (.int 0), .con (.int 0)])], []⟩
def d_law_draw : Df := ⟨"_law_draw", ["_law_feed_here", "_law_many"], [.l, .b], ["_law_feed_here", "_law_many", "_law_found", "_law_cell", "_law_mixed"],
 [.sto 0 (.con (.int 3)) (.bin .Add (.idx (.var 0) (.con (.int 3))) (.con (.int 1))),
  .ite (.cmp .Gt (.idx (.var 0) (.con (.int 2))) (.con (.int 0))) [.asg 2 (.bin .Mod (.idx (.var 0) (.con (.int 2))) (.var 1)),
  .sto 0 (.con (.int 2)) (.bin .FloorDiv (.idx (.var 0) (.con (.int 2))) (.var 1)), .ret (.var 2)] [], .asg 3 (.con (.int 5)),
  .ite (.cmp .NotEq (.idx (.var 0) (.con (.int 0))) (.lst [])) [.asg 3 (.idx (.idx (.var 0) (.con (.int 0))) (.bin .Mod (.idx (.var 0) (.con (.int 1))) (.bif .len [.idx (.var 0) (.con (.int 0))])))] [],
  .sto 0 (.con (.int 1)) (.bin .Add (.idx (.var 0) (.con (.int 1))) (.con (.int 1))),
  .ite (.and (.cmp .GtE (.var 3) (.bin .Pow (.con (.int 10)) (.con (.int 18)))) (.cmp .LtE (.idx (.var 0) (.con (.int 1))) (.bif .len [.idx (.var 0) (.con (.int 0))]))) [.sto 0 (.con (.int 2)) (.bin .FloorDiv (.var 3) (.var 1)),
  .ret (.bin .Mod (.var 3) (.var 1))] [],
  .asg 4 (.bin .Mod (.bin .Pow (.bin .Add (.bin .Add (.bin .Mod (.var 3) (.con (.int 2147483629))) (.bin .Mult (.con (.int 7919)) (.idx (.var 0) (.con (.int 3))))) (.con (.int 1))) (.con (.int 5))) (.con (.int 2147483647))),
  .ret (.bin .Mod (.bin .FloorDiv (.bin .Mod (.bin .Pow (.bin .Add (.var 4) (.bin .Mult (.con (.int 104729)) (.idx (.var 0) (.con (.int 3))))) (.con (.int 5))) (.con (.int 2147483587))) (.con (.int 64))) (.var 1))], []⟩
def d_law_plus : Df := ⟨"_law_plus", ["_law_one", "_law_other"], [.b, .b], ["_law_one", "_law_other", "_law_m"],
 [.ret (.bif .tuple [.bif .sorted [.bin .Add (.lc [("_law_m", 2)] [2] false (.var 0) (some (.cmp .NotIn (.var 2) (.var 1))) (.var 2)) (.lc [("_law_m",
  2)] [2] false (.var 1) (some (.cmp .NotIn (.var 2) (.var 0))) (.var 2))]])], []⟩
def d_law_word : Df := ⟨"_law_word", ["_law_feed_here", "_law_many"], [.l, .b], ["_law_feed_here", "_law_many", "_law_way", "_law_m"],
 [.asg 2 (.cal "_law_draw" [.var 0, .con (.int 4)]), .ret (.bif .tuple [.lc [("_law_m", 3)] [3] false (.rg1 (.var 1)) (some (.cmp .Eq (.cal "_law_draw" [.var 0,
  .bin .Add (.con (.int 2)) (.var 2)]) (.con (.int 0)))) (.var 3)])], []⟩
def d_law_lot : Df := ⟨"_law_lot", ["_law_feed_here", "_law_many", "_law_most"], [.l, .b, .b], ["_law_feed_here", "_law_many", "_law_most", "_law_found", "_law_k", "_law_way", "_law_one"],
 [.asg 3 (.lst []), .fr [4] false (.rg1 (.cal "_law_draw" [.var 0, .bin .Add (.var 2) (.con (.int 1))])) [.asg 5 (.cal "_law_draw" [.var 0, .con (.int 6)]),
  .asg 6 (.cal "_law_word" [.var 0, .var 1]),
  .ite (.and (.cmp .Eq (.var 5) (.con (.int 0))) (.cmp .Gt (.bif .len [.var 3]) (.con (.int 1)))) [.asg 6 (.cal "_law_plus" [.idx (.var 3) (.neg (.con (.int 1))),
  .idx (.var 3) (.neg (.con (.int 2)))])] [], .ite (.and (.cmp .Eq (.var 5) (.con (.int 1))) (.cmp .NotEq (.var 3) (.lst []))) [.asg 6 (.idx (.var 3) (.cal "_law_draw" [.var 0,
  .bif .len [.var 3]]))] [], .app 3 (.var 6)], .ret (.bif .tuple [.var 3])], []⟩
def d_law_rows : Df := ⟨"_law_rows", ["_law_many"], [.b], ["_law_many", "_law_found", "_law_k", "_law_row"],
 [.asg 1 (.lst [.tup []]), .fr [2] false (.rg1 (.var 0)) [.asg 1 (.bin .Add (.lc [("_law_row",
  3)] [3] false (.var 1) none (.bin .Add (.var 3) (.tup [.con (.int 0)]))) (.lc [("_law_row", 3)] [3] false (.var 1) none (.bin .Add (.var 3) (.tup [.con (.int 1)]))))],
  .ret (.var 1)], []⟩
def d_law_answers : Df := ⟨"_law_answers", ["_law_some", "_law_signs"], [.b, .b], ["_law_some", "_law_signs", "_law_one"],
 [.ret (.bif .tuple [.lc [("_law_one", 2)] [2] false (.var 0) none (.cal "sign_of" [.var 2, .var 1])])], []⟩
def d_law_classes : Df := ⟨"_law_classes", ["_law_some", "_law_every"], [.b, .b], ["_law_some", "_law_every", "_law_found", "_law_signs", "_law_answers_here"],
 [.asg 2 .tde, .fr [3] false (.var 1) [.asg 4 (.cal "_law_answers" [.var 0, .var 3]), .tdp 2 (.var 4) (.bin .Add (.tdg 2 (.var 4) (.lst [])) (.lst [.var 3]))], .ret (.var 2)], []⟩
def d_law_word_right : Df := ⟨"_law_word_right", ["_law_some", "_law_word_here", "_law_classes_here"], [.b, .b, .l], ["_law_some", "_law_word_here", "_law_classes_here", "_law_is_made", "_law_answers_here", "_law_ones", "_law_signs"],
 [.asg 3 (.cal "makes" [.var 0, .var 1]), .fr [4] false (.fz (.tdk 2)) [.asg 5 (.bif .len [.lc [("_law_signs",
  6)] [6] false (.fz (.tdx 2 (.var 4))) (some (.cmp .Eq (.cal "sign_of" [.var 1, .var 6]) (.con (.int 1)))) (.var 6)]),
  .ite (.and (.var 3) (.cmp .NotIn (.var 5) (.tup [.con (.int 0), .bif .len [.tdx 2 (.var 4)]]))) [.ret (.con (.bool false))] [],
  .ite (.and (.not (.var 3)) (.cmp .NotEq (.bin .Mult (.con (.int 2)) (.var 5)) (.bif .len [.tdx 2 (.var 4)]))) [.ret (.con (.bool false))] []], .ret (.con (.bool true))], []⟩
def dlaw : Df := ⟨"law", ["_law_script"], [.b], ["_law_script", "_law_feed_here", "_law_turn", "_law_many", "_law_some", "_law_every", "_law_rank", "_law_classes_here", "_law_whole", "_law_size", "_law_k", "_law_signs", "_law_word_here", "_law_answers_here"],
 [.asg 1 (.cal "_law_feed" [.var 0]), .fr [2] false (.rg1 (.con (.int 2))) [.asg 3 (.idx (.lst [.con (.int 3), .con (.int 4), .con (.int 6),
  .con (.int 8)]) (.cal "_law_draw" [.var 1, .con (.int 4)])), .asg 4 (.cal "_law_lot" [.var 1, .var 3, .con (.int 5)]), .unp [5, 6] (.tup [.cal "_law_rows" [.var 3],
  .cal "rank_of" [.var 4]]), .parT 7 8 (.cal "_law_classes" [.var 4, .var 5]) (.cal "sum_of" [.var 4]), .asg 9 (.con (.int 1)),
  .fr [10] false (.rg1 (.var 6)) [.asg 9 (.bin .Mult (.con (.int 2)) (.var 9))], .ite (.cmp .NotEq (.tdl 7) (.var 9)) [.ret (.con (.bool false))] [],
  .ite (.cmp .NotEq (.tlk [("_law_answers_here",
  13)] [13] 7 (some (.cmp .NotEq (.bin .Mult (.bif .len [.tdx 7 (.var 13)]) (.tdl 7)) (.bif .len [.var 5]))) (.var 13)) (.lst [])) [.ret (.con (.bool false))] [],
  .fr [11] false (.fz (.stp (.var 5) 5)) [.ite (.cmp .NotEq (.cal "sign_of" [.var 8, .var 11]) (.bin .Mod (.bif .sum [.cal "_law_answers" [.var 4,
  .var 11]]) (.con (.int 2)))) [.ret (.con (.bool false))] []], .fr [12] false (.fz (.bin .Add (.lst [.var 8, .tup [], .cal "_law_word" [.var 1, .var 3],
  .cal "_law_word" [.var 1, .var 3]]) (.bif .list [.sli (.var 4) none (some (.con (.int 2)))]))) [.ite (.not (.cal "_law_word_right" [.var 4, .var 12,
  .var 7])) [.ret (.con (.bool false))] []]], .ret (.con (.bool true))], []⟩
def mtsX : List (String × Df) := []
def atrX : List (Str × String) := []
def defs : List Df := [dsum_two, dsum_of, dsign_of, dreduced, dbase_of, dmakes, drank_of, d_law_feed, d_law_draw, d_law_plus, d_law_word, d_law_lot, d_law_rows, d_law_answers, d_law_classes, d_law_word_right, dlaw]
def BN : List String := ["len", "list", "range", "set", "sorted", "sum", "tuple"]
def GL : List (String × D) := []
def KB : List KbE := []
def xsX : List (String × List Str) := []
def ssX : List ((Str × String) × Bool) := []
def fsX : List (Str × String) := []
def knX : List String := []
def XF : Xt := mkX xsX ssX fsX knX
@[simp] theorem kn_X : XF.kn = knX := rfl
@[simp] theorem nmsum_two : dsum_two.name = "sum_two" := rfl
@[simp] theorem nmsum_of : dsum_of.name = "sum_of" := rfl
@[simp] theorem nmsign_of : dsign_of.name = "sign_of" := rfl
@[simp] theorem nmreduced : dreduced.name = "reduced" := rfl
@[simp] theorem nmbase_of : dbase_of.name = "base_of" := rfl
@[simp] theorem nmmakes : dmakes.name = "makes" := rfl
@[simp] theorem nmrank_of : drank_of.name = "rank_of" := rfl
@[simp] theorem nm_law_feed : d_law_feed.name = "_law_feed" := rfl
@[simp] theorem nm_law_draw : d_law_draw.name = "_law_draw" := rfl
@[simp] theorem nm_law_plus : d_law_plus.name = "_law_plus" := rfl
@[simp] theorem nm_law_word : d_law_word.name = "_law_word" := rfl
@[simp] theorem nm_law_lot : d_law_lot.name = "_law_lot" := rfl
@[simp] theorem nm_law_rows : d_law_rows.name = "_law_rows" := rfl
@[simp] theorem nm_law_answers : d_law_answers.name = "_law_answers" := rfl
@[simp] theorem nm_law_classes : d_law_classes.name = "_law_classes" := rfl
@[simp] theorem nm_law_word_right : d_law_word_right.name = "_law_word_right" := rfl
@[simp] theorem nmlaw : dlaw.name = "law" := rfl
theorem fdsum_two : (defs.find? fun d => d.name == "sum_two") = some dsum_two := by simp [defs]
@[simp] theorem fnsum_two (k : Nat) : (gm defs XF (k + 1)).fn "sum_two" = some ([.b, .b], runD (gm defs XF k) XF dsum_two) := gm_fn fdsum_two
theorem fdsum_of : (defs.find? fun d => d.name == "sum_of") = some dsum_of := by simp [defs]
@[simp] theorem fnsum_of (k : Nat) : (gm defs XF (k + 1)).fn "sum_of" = some ([.b], runD (gm defs XF k) XF dsum_of) := gm_fn fdsum_of
theorem fdsign_of : (defs.find? fun d => d.name == "sign_of") = some dsign_of := by simp [defs]
@[simp] theorem fnsign_of (k : Nat) : (gm defs XF (k + 1)).fn "sign_of" = some ([.b, .b], runD (gm defs XF k) XF dsign_of) := gm_fn fdsign_of
theorem fdreduced : (defs.find? fun d => d.name == "reduced") = some dreduced := by simp [defs]
@[simp] theorem fnreduced (k : Nat) : (gm defs XF (k + 1)).fn "reduced" = some ([.b, .b], runD (gm defs XF k) XF dreduced) := gm_fn fdreduced
theorem fdbase_of : (defs.find? fun d => d.name == "base_of") = some dbase_of := by simp [defs]
@[simp] theorem fnbase_of (k : Nat) : (gm defs XF (k + 1)).fn "base_of" = some ([.b], runD (gm defs XF k) XF dbase_of) := gm_fn fdbase_of
theorem fdmakes : (defs.find? fun d => d.name == "makes") = some dmakes := by simp [defs]
@[simp] theorem fnmakes (k : Nat) : (gm defs XF (k + 1)).fn "makes" = some ([.b, .b], runD (gm defs XF k) XF dmakes) := gm_fn fdmakes
theorem fdrank_of : (defs.find? fun d => d.name == "rank_of") = some drank_of := by simp [defs]
@[simp] theorem fnrank_of (k : Nat) : (gm defs XF (k + 1)).fn "rank_of" = some ([.b], runD (gm defs XF k) XF drank_of) := gm_fn fdrank_of
theorem fd_law_feed : (defs.find? fun d => d.name == "_law_feed") = some d_law_feed := by simp [defs]
@[simp] theorem fn_law_feed (k : Nat) : (gm defs XF (k + 1)).fn "_law_feed" = some ([.b], runD (gm defs XF k) XF d_law_feed) := gm_fn fd_law_feed
theorem fd_law_draw : (defs.find? fun d => d.name == "_law_draw") = some d_law_draw := by simp [defs]
@[simp] theorem fn_law_draw (k : Nat) : (gm defs XF (k + 1)).fn "_law_draw" = some ([.l, .b], runD (gm defs XF k) XF d_law_draw) := gm_fn fd_law_draw
theorem fd_law_plus : (defs.find? fun d => d.name == "_law_plus") = some d_law_plus := by simp [defs]
@[simp] theorem fn_law_plus (k : Nat) : (gm defs XF (k + 1)).fn "_law_plus" = some ([.b, .b], runD (gm defs XF k) XF d_law_plus) := gm_fn fd_law_plus
theorem fd_law_word : (defs.find? fun d => d.name == "_law_word") = some d_law_word := by simp [defs]
@[simp] theorem fn_law_word (k : Nat) : (gm defs XF (k + 1)).fn "_law_word" = some ([.l, .b], runD (gm defs XF k) XF d_law_word) := gm_fn fd_law_word
theorem fd_law_lot : (defs.find? fun d => d.name == "_law_lot") = some d_law_lot := by simp [defs]
@[simp] theorem fn_law_lot (k : Nat) : (gm defs XF (k + 1)).fn "_law_lot" = some ([.l, .b, .b], runD (gm defs XF k) XF d_law_lot) := gm_fn fd_law_lot
theorem fd_law_rows : (defs.find? fun d => d.name == "_law_rows") = some d_law_rows := by simp [defs]
@[simp] theorem fn_law_rows (k : Nat) : (gm defs XF (k + 1)).fn "_law_rows" = some ([.b], runD (gm defs XF k) XF d_law_rows) := gm_fn fd_law_rows
theorem fd_law_answers : (defs.find? fun d => d.name == "_law_answers") = some d_law_answers := by simp [defs]
@[simp] theorem fn_law_answers (k : Nat) : (gm defs XF (k + 1)).fn "_law_answers" = some ([.b, .b], runD (gm defs XF k) XF d_law_answers) := gm_fn fd_law_answers
theorem fd_law_classes : (defs.find? fun d => d.name == "_law_classes") = some d_law_classes := by simp [defs]
@[simp] theorem fn_law_classes (k : Nat) : (gm defs XF (k + 1)).fn "_law_classes" = some ([.b, .b], runD (gm defs XF k) XF d_law_classes) := gm_fn fd_law_classes
theorem fd_law_word_right : (defs.find? fun d => d.name == "_law_word_right") = some d_law_word_right := by simp [defs]
@[simp] theorem fn_law_word_right (k : Nat) : (gm defs XF (k + 1)).fn "_law_word_right" = some ([.b, .b, .l], runD (gm defs XF k) XF d_law_word_right) := gm_fn fd_law_word_right
theorem fdlaw : (defs.find? fun d => d.name == "law") = some dlaw := by simp [defs]
@[simp] theorem fnlaw (k : Nat) : (gm defs XF (k + 1)).fn "law" = some ([.b], runD (gm defs XF k) XF dlaw) := gm_fn fdlaw
theorem oksum_two : dfOk BN GL KB dsum_two (top 4) = true := by decide +kernel
theorem oksum_of : dfOk BN GL KB dsum_of (top 5) = true := by decide +kernel
theorem oksign_of : dfOk BN GL KB dsign_of (top 6) = true := by decide +kernel
theorem okreduced : dfOk BN GL KB dreduced (top 8) = true := by decide +kernel
theorem okbase_of : dfOk BN GL KB dbase_of (top 9) = true := by decide +kernel
theorem okmakes : dfOk BN GL KB dmakes (top 10) = true := by decide +kernel
theorem okrank_of : dfOk BN GL KB drank_of (top 12) = true := by decide +kernel
theorem ok_law_feed : dfOk BN GL KB d_law_feed (top 14) = true := by decide +kernel
theorem ok_law_draw : dfOk BN GL KB d_law_draw (top 15) = true := by decide +kernel
theorem ok_law_plus : dfOk BN GL KB d_law_plus (top 16) = true := by decide +kernel
theorem ok_law_word : dfOk BN GL KB d_law_word (top 17) = true := by decide +kernel
theorem ok_law_lot : dfOk BN GL KB d_law_lot (top 18) = true := by decide +kernel
theorem ok_law_rows : dfOk BN GL KB d_law_rows (top 19) = true := by decide +kernel
theorem ok_law_answers : dfOk BN GL KB d_law_answers (top 20) = true := by decide +kernel
theorem ok_law_classes : dfOk BN GL KB d_law_classes (top 21) = true := by decide +kernel
theorem ok_law_word_right : dfOk BN GL KB d_law_word_right (top 22) = true := by decide +kernel
theorem oklaw : dfOk BN GL KB dlaw (top 23) = true := by decide +kernel
end K03
set_option maxHeartbeats 4000000
namespace K03
open Ev PySem Vs
variable [Uni]
theorem c_sum (g : Gm) {a b : Wd} (ha : Wk a) (hb : Wk b) : runD g XF dsum_two [dW a, dW b] = .ret (dW (symI a b)) [] := by
 rw [z_run (e0 := [.bo (dW a), .bo (dW b)]) rfl]
 have la := ha.len
 have lb := hb.len
 have i1 := ints_w (w := a) (by omega)
 have i2 := ints_w (w := b) (by omega)
 have i3 : a.length + b.length < 64 := by omega
 simp [dsum_two, i1, i2, i3]
 rfl
abbrev redB : List MS := [.ite (.cmp .In (.idx (.var 2) (.con (.int 0))) (.var 1)) [.asg 1 (.cal "sum_two" [.var 1, .var 2])] []]
theorem red_turn (k : Nat) {r e : Wd} (hr : Wk r) (he : Wk e) (hn : r ≠ []) {R s1 s2 : Sl} (n1 : vl s1 (dW e)) (n2 : nm s2) :
  ∃ y1, vl y1 (dW (st r e)) /\ frTurn [2] false (sens (gm defs XF (k + 1)) XF redB) (dW r) [R, s1, s2] = .ok .nx [R, y1, .fz (dW r)] := by
 have e1 := c_sum (gm defs XF k) he hr
 have e2 : iop (dW r) (.int 0) = some (.int (hd r)) := at_hd hn
 have e3 : cop .In (.int (hd r)) (dW e) = some (decide (hd r ∈ e)) := in_w _ _
 have e4 : ∀ e' : Ev.Env, slR 1 e' (some s1) = .ok (.val (dW e)) e' := fun e' => vl_sl n1 rfl
 by_cases c : hd r ∈ e
 . refine ⟨.fz (dW (st r e)), vl_fz, ?_⟩
   have e5 : st r e = symI e r := if_pos c
   rw [e5]
   have n3 := vl_nm n1
   simp [e1, e2, e3, e4, c, nm_slP n2, nm_slP n3]
 . refine ⟨s1, ?_, ?_⟩
   . have e5 : st r e = e := if_neg c
     rw [e5]; exact n1
   . simp [e1, e2, e3, e4, c, nm_slP n2]
theorem red_go (k : Nat) {R : Sl} : ∀ {rows : List Wd} {e : Wd} {s1 s2 : Sl}, Ws rows -> (∀ r ∈ rows, r ≠ []) -> Wk e -> vl s1 (dW e) -> nm s2 ->
  ∃ y1 y2, vl y1 (dW (red rows e)) /\ frGo (frTurn [2] false (sens (gm defs XF (k + 1)) XF redB)) (dL rows) [R, s1, s2] = .ok .nx [R, y1, y2]
 | [], e, s1, s2, _, _, _, n1, n2 => ⟨s1, s2, n1, rfl⟩
 | r :: rows, e, s1, s2, hw, hn, he, n1, n2 => by
  have hr := hw r List.mem_cons_self
  obtain ⟨y1, m1, h1⟩ := red_turn k hr he (hn r List.mem_cons_self) (R := R) n1 n2
  obtain ⟨z1, z2, m2, h2⟩ := red_go k (rows := rows) (e := st r e) (fun x hx => hw x (List.mem_cons_of_mem _ hx)) (fun x hx => hn x (List.mem_cons_of_mem _ hx)) (wk_st hr he) m1 (nm_fz (d := dW r))
  refine ⟨z1, z2, m2, ?_⟩
  show frGo _ (dW r :: dL rows) _ = _
  unfold frGo
  rw [h1, bind_ok]
  exact h2
theorem c_red (k : Nat) {rows : List Wd} {e : Wd} (hw : Ws rows) (hn : ∀ r ∈ rows, r ≠ []) (he : Wk e) : runD (gm defs XF (k + 1)) XF dreduced [.tuple (dL rows), dW e] = .ret (dW (red rows e)) [] := by
 rw [z_run (e0 := [.bo (.tuple (dL rows)), .bo (dW e)]) rfl]
 obtain ⟨y1, y2, m, h⟩ := red_go k (R := .bo (.tuple (dL rows))) hw hn he (vl_bo (d := dW e)) nm_un
 have e4 : ∀ e' : Ev.Env, slR 1 e' (some y1) = .ok (.val (dW (red rows e))) e' := fun e' => vl_sl m rfl
 generalize hX : frTurn [2] false (sens (gm defs XF (k + 1)) XF redB) = tL at h
 simp [dreduced, hX, h, e4]
theorem c_redL (k : Nat) {rows : List Wd} {e : Wd} (hw : Ws rows) (hn : ∀ r ∈ rows, r ≠ []) (he : Wk e) : runD (gm defs XF (k + 1)) XF dreduced [.list (dL rows), dW e] = .ret (dW (red rows e)) [] := by
 rw [z_run (e0 := [.bo (.list (dL rows)), .bo (dW e)]) rfl]
 obtain ⟨y1, y2, m, h⟩ := red_go k (R := .bo (.list (dL rows))) hw hn he (vl_bo (d := dW e)) nm_un
 have e4 : ∀ e' : Ev.Env, slR 1 e' (some y1) = .ok (.val (dW (red rows e))) e' := fun e' => vl_sl m rfl
 generalize hX : frTurn [2] false (sens (gm defs XF (k + 1)) XF redB) = tL at h
 simp [dreduced, hX, h, e4]
abbrev boX : ME := .ite (.cmp .In (.idx (.var 3) (.con (.int 0))) (.var 4)) (.cal "sum_two" [.var 4, .var 3]) (.var 4)
abbrev boB : List MS := [.asg 3 (.cal "reduced" [.var 1, .var 2]), .ite (.cmp .NotEq (.var 3) (.tup [])) [.asg 1 (.bin .Add (.lc [("own", 4)] [4] false (.var 1) none boX) (.lst [.var 3]))] []]
theorem bo_lc (k : Nat) {rows : List Wd} {q : Wd} (hw : Ws rows) (hq : Wk q) (hn : q ≠ []) (hl : rows.length < 1000) {R s2 : Sl} :
  lcRun [4] (lcTurn [4] [4] false (denT (gm defs XF (k + 1)) none) (den (gm defs XF (k + 1)) boX).v) (.slot 1 false) [R, .mu false false (.lst (dL rows)), s2, .fz (dW q), .un] =
   .ok (dL (rows.map fun own => if hd q ∈ own then symI own q else own)) [R, .mu false false (.lst (dL rows)), s2, .fz (dW q), .un] := by
 refine lcR_slot (e1 := [R, .mu false true (.lst (dL rows)), s2, .fz (dW q), .un]) (e2 := [R, .mu false true (.lst (dL rows)), s2, .fz (dW q), .un]) (e3 := [R, .mu false true (.lst (dL rows)), s2, .fz (dW q), .un]) rfl rfl ?_ rfl
 have e0 : dL (rows.map fun own => if hd q ∈ own then symI own q else own) = rows.filterMap fun own => some (dW (if hd q ∈ own then symI own q else own)) := by
  rw [filterMap_some, dL, List.map_map]
  rfl
 rw [e0]
 refine lcN_pure (l := rows) (enc := dW) (t := false) (i := 1) (e := [R, .mu false true (.lst (dL rows)), s2, .fz (dW q), .un]) rfl (by omega) fun own ho => ?_
 have e1 := c_sum (gm defs XF k) (hw own ho) hq
 have e2 : iop (dW q) (.int 0) = some (.int (hd q)) := at_hd hn
 have e3 : cop .In (.int (hd q)) (dW own) = some (decide (hd q ∈ own)) := in_w _ _
 by_cases c : hd q ∈ own
 . simp [e1, e2, e3, c]
 . simp [e1, e2, e3, c]
theorem bo_turn (k : Nat) {rows : List Wd} {e : Wd} (hw : Ws rows) (hn : ∀ r ∈ rows, r ≠ []) (he : Wk e) (hl : rows.length < 1000) {R s2 s3 : Sl} (n2 : nm s2) (n3 : nm s3) :
  ∃ y3, nm y3 /\ frTurn [2] false (sens (gm defs XF (k + 2)) XF boB) (dW e) [R, .mu false false (.lst (dL rows)), s2, s3, .un] = .ok .nx [R, .mu false false (.lst (dL (ins rows e))), .fz (dW e), y3, .un] := by
 have e1 := c_redL k hw hn he
 have hq := wk_red hw he
 have e2 := eq_w0 (red rows e)
 refine ⟨.fz (dW (red rows e)), nm_fz, ?_⟩
 by_cases c : red rows e = []
 . have e3 : ins rows e = rows := if_pos c
   rw [e3]
   have e5 : (red rows e).isEmpty = true := by rw [c]; rfl
   simp only [e1, e2, e5, nm_slP n2, nm_slP n3, Ev.z_frT, Ev.z_putT]
   simp [e1, e2, e5, nm_slP n2, nm_slP n3]
 . have e3 : ins rows e = rows.map (fun own => if hd (red rows e) ∈ own then symI own (red rows e) else own) ++ [red rows e] := if_neg c
   have e4 := bo_lc (k + 1) hw hq c hl (R := R) (s2 := .fz (dW e))
   have e5 : (red rows e).isEmpty = false := by cases h : red rows e <;> first | exact absurd h c | rfl
   have e6 : bop .Add (.list (dL (rows.map (fun own => if hd (red rows e) ∈ own then symI own (red rows e) else own)))) (.list [dW (red rows e)]) = some (.fresh (.lst (dL (ins rows e)))) := by
    rw [cat_l (by simp [big]; omega), e3, dL_app]
    rfl
   simp [e1, e2, e4, e5, e6, nm_slP n2, nm_slP n3]
theorem bo_go (k : Nat) {R : Sl} : ∀ {ws rows : List Wd} {s2 s3 : Sl}, Ech rows -> Ws rows -> Ws ws -> nm s2 -> nm s3 ->
  ∃ y2 y3, frGo (frTurn [2] false (sens (gm defs XF (k + 2)) XF boB)) (dL ws) [R, .mu false false (.lst (dL rows)), s2, s3, .un] = .ok .nx [R, .mu false false (.lst (dL (ws.foldl ins rows))), y2, y3, .un]
 | [], rows, s2, s3, _, _, _, _, _ => ⟨s2, s3, rfl⟩
 | w :: ws, rows, s2, s3, E, hr, hw, n2, n3 => by
  have h0 := hw w List.mem_cons_self
  have hl := ech_len E hr
  obtain ⟨y3, m3, h1⟩ := bo_turn k hr E.ne h0 (by omega) (R := R) n2 n3
  obtain ⟨z2, z3, h2⟩ := bo_go k (R := R) (ws := ws) (ins_ech E h0.ris) (ws_ins hr h0) (fun x hx => hw x (List.mem_cons_of_mem _ hx)) (nm_fz (d := dW w)) m3
  refine ⟨z2, z3, ?_⟩
  show frGo _ (dW w :: dL ws) _ = _
  unfold frGo
  rw [h1, bind_ok]
  exact h2
theorem c_bo (k : Nat) {ws : List Wd} (hw : Ws ws) : runD (gm defs XF (k + 2)) XF dbase_of [.tuple (dL ws)] = .ret (.tuple (dL (baseOf ws))) [] := by
 rw [z_run (e0 := [.bo (.tuple (dL ws))]) rfl]
 obtain ⟨y2, y3, h⟩ := bo_go k (R := .bo (.tuple (dL ws))) (rows := []) ech_nil (fun _ h => absurd h List.not_mem_nil) hw nm_un nm_un
 have h5 := sorted_ws (base_ech hw.all).ne
 generalize hX : frTurn [2] false (sens (gm defs XF (k + 2)) XF boB) = tL at h
 have h' : frGo tL (dL ws) [.bo (.tuple (dL ws)), .mu false false (.lst []), .un, .un, .un] = .ok .nx [.bo (.tuple (dL ws)), .mu false false (.lst (dL (baseL ws))), y2, y3, .un] := h
 simp [dbase_of, hX, h', h5]
 rfl
end K03
namespace K03
open Ev PySem Vs
variable [Uni]
def sumW (ws : List Wd) : Wd := ws.foldl symI []
theorem so_go (k : Nat) {R : Sl} : ∀ {ws : List Wd} {a : Wd} {s1 s2 : Sl}, Ws ws -> Wk a -> vl s1 (dW a) -> nm s2 ->
  ∃ y1 y2, vl y1 (dW (ws.foldl symI a)) /\ Wk (ws.foldl symI a) /\ frGo (frTurn [2] false (sens (gm defs XF (k + 1)) XF [.asg 1 (.cal "sum_two" [.var 1, .var 2])])) (dL ws) [R, s1, s2] = .ok .nx [R, y1, y2]
 | [], a, s1, s2, _, ha, n1, n2 => ⟨s1, s2, n1, ha, rfl⟩
 | w :: ws, a, s1, s2, hw, ha, n1, n2 => by
  have h0 := hw w List.mem_cons_self
  have e1 := c_sum (gm defs XF k) ha h0
  have e4 : ∀ e' : Ev.Env, slR 1 e' (some s1) = .ok (.val (dW a)) e' := fun e' => vl_sl n1 rfl
  have n3 := vl_nm n1
  obtain ⟨y1, y2, m1, m2, h2⟩ := so_go k (R := R) (ws := ws) (a := symI a w) (s1 := .fz (dW (symI a w))) (s2 := .fz (dW w)) (fun x hx => hw x (List.mem_cons_of_mem _ hx)) (ha.sum h0) vl_fz nm_fz
  refine ⟨y1, y2, m1, m2, ?_⟩
  show frGo _ (dW w :: dL ws) _ = _
  unfold frGo
  have h1 : frTurn [2] false (sens (gm defs XF (k + 1)) XF [.asg 1 (.cal "sum_two" [.var 1, .var 2])]) (dW w) [R, s1, s2] = .ok .nx [R, .fz (dW (symI a w)), .fz (dW w)] := by
   simp [e1, e4, nm_slP n2, nm_slP n3]
  rw [h1, bind_ok]
  exact h2
theorem c_sumof (k : Nat) {ws : List Wd} (hw : Ws ws) : runD (gm defs XF (k + 1)) XF dsum_of [.tuple (dL ws)] = .ret (dW (sumW ws)) [] /\ Wk (sumW ws) := by
 obtain ⟨y1, y2, m, hk, h⟩ := so_go k (R := .bo (.tuple (dL ws))) hw wk_nil (vl_fz (d := dW [])) nm_un
 refine ⟨?_, hk⟩
 rw [z_run (e0 := [.bo (.tuple (dL ws))]) rfl]
 have e4 : ∀ e' : Ev.Env, slR 1 e' (some y1) = .ok (.val (dW (sumW ws))) e' := fun e' => vl_sl m rfl
 generalize hX : frTurn [2] false (sens (gm defs XF (k + 1)) XF [.asg 1 (.cal "sum_two" [.var 1, .var 2])]) = tL at h
 have h' : frGo tL (dL ws) [.bo (.tuple (dL ws)), .fz (.tuple []), .un] = .ok .nx [.bo (.tuple (dL ws)), y1, y2] := h
 simp [dsum_of, hX, h', e4]
end K03
namespace K03
open Ev PySem Vs
theorem small_log {n : Nat} (h : n < 2 ^ 8000) : n.log2 < 9000 := Nat.lt_trans (log2_lt h (by decide)) (by decide)
def FL (ns : List Int) (s o a : Int) : List D := [.list (ns.map .int), .int s, .int o, .int a]
abbrev FS (ns : List Int) (s o a : Int) : C := .lst (FL ns s o a)
section
variable {ns : List Int} {s o a x : Int}
theorem f_at {n : Nat} {d : D} (h : (FL ns s o a)[n]? = some d) : L2.atI (FL ns s o a) (n : Int) = some d := L2.atI_nat h
@[simp] theorem f0 : L2.atI (FL ns s o a) 0 = some (.list (ns.map .int)) := f_at (n := 0) rfl
@[simp] theorem f1 : L2.atI (FL ns s o a) 1 = some (.int s) := f_at (n := 1) rfl
@[simp] theorem f2 : L2.atI (FL ns s o a) 2 = some (.int o) := f_at (n := 2) rfl
@[simp] theorem f3 : L2.atI (FL ns s o a) 3 = some (.int a) := f_at (n := 3) rfl
@[simp] theorem g1 : stoD (FS ns s o a) (.int 1) (.int x) = some (FS ns x o a) := rfl
@[simp] theorem g2 : stoD (FS ns s o a) (.int 2) (.int x) = some (FS ns s x a) := rfl
@[simp] theorem g3 : stoD (FS ns s o a) (.int 3) (.int x) = some (FS ns s o x) := rfl
end
theorem cut63 {xs : List D} (h : xs.length <= 63) : cutD xs none (some 63) = xs := by
 unfold cutD
 have e1 : HT.sIx xs.length 0 none = 0 := rfl
 have e2 : HT.sIx xs.length xs.length (some 63) = xs.length := by
  show (if (63 : Int) < 0 then ((63 : Int) + xs.length).toNat else min (63 : Int).toNat xs.length) = xs.length
  rw [if_neg (by omega)]
  have : (63 : Int).toNat = 63 := rfl
  omega
 rw [e1, e2]
 simp
theorem c_feed (g : Gm) (ns : List Int) (h : ns.length <= 63) : runD g XF d_law_feed [.list (ns.map .int)] = .fresh (FS ns 0 0 0) [] := by
 rw [z_run (e0 := [.bo (.list (ns.map .int))]) rfl]
 have h1 : sop (.list (ns.map .int)) none (some 63) = some (.fresh (.lst (ns.map .int))) := by
  show some (R.fresh (.lst (cutD (ns.map .int) none (some 63)))) = _
  rw [cut63 (by simpa using h)]
 simp [d_law_feed, h1]
 rfl
theorem st_l1 {F : C} {d : D} : startE [.l, .b] [F.d, d] = some [.mu true false F, .bo d] := by
 unfold startE startE startE
 rw [slOf_l]
 rfl
theorem st_l2 {F : C} {d d2 : D} : startE [.l, .b, .b] [F.d, d, d2] = some [.mu true false F, .bo d, .bo d2] := by
 unfold startE startE startE startE
 rw [slOf_l]
 rfl
theorem at_ints {ns : List Int} {i : Int} (h0 : 0 <= i) (h1 : i < ns.length) : L2.atI (ns.map PyData.int) i = some (.int (ns.getD i.toNat 0)) := by
 obtain ⟨k, rfl⟩ : ∃ k : Nat, i = (k : Int) := ⟨i.toNat, by omega⟩
 have hk : k < ns.length := by omega
 refine L2.atI_nat (v := PyData.int (ns.getD (k : Int).toNat 0)) ?_
 rw [List.getElem?_map, List.getElem?_eq_getElem hk]
 simp [List.getD, List.getElem?_eq_getElem hk]
theorem c_draw0 (g : Gm) (ns : List Int) (s o a m : Int) (hs : 0 <= s) (ho : 0 <= o) (ha : 0 <= a) (ha2 : a < 2 ^ 40) (hm : 0 < m) (hm2 : m < 2 ^ 63) :
  ∃ v s' o', runD g XF d_law_draw [(FS ns s o a).d, .int m] = .ret (.int v) [FS ns s' o' (a + 1)] /\ 0 <= v /\ v < m /\ 0 <= s' /\ 0 <= o' := by
 rw [z_run (e0 := [.mu true false (FS ns s o a), .bo (.int m)]) st_l1]
 have mm := fun x => o_mod (a := x) hm
 have dd := fun x => o_div (a := x) hm (small_log (by omega))
 by_cases h1 : 0 < o
 . refine ⟨o % m, s, o / m, ?_, Int.emod_nonneg _ (by omega), Int.emod_lt_of_pos _ hm, hs, Int.ediv_nonneg ho (by omega)⟩
   simp [d_law_draw, mm, dd, h1]
 . have m1 := fun x => o_mod (a := x) (b := 2147483587) (by decide)
   have m2 := fun x => o_mod (a := x) (b := 2147483629) (by decide)
   have m3 := fun x => o_mod (a := x) (b := 2147483647) (by decide)
   have d1 := fun x => o_div (a := x) (b := 64) (by decide) (by decide)
   have u1 := fun x => o_mul (a := 7919) (b := x) (.inl (by decide))
   have u2 := fun x => o_mul (a := 104729) (b := x) (.inl (by decide))
   have t18 : bop .Pow (.int 10) (.int 18) = some (.val (.int (10 ^ 18))) := o_pow (by decide)
   have w1 : ∀ c : Int, bop .Pow (.int (c % 2147483629 + 7919 * (a + 1) + 1)) (.int 5) = some (.val (.int ((c % 2147483629 + 7919 * (a + 1) + 1) ^ 5))) := fun c => by
    have := Int.emod_nonneg c (show (2147483629 : Int) ≠ 0 by decide)
    have := Int.emod_lt_of_pos c (show (0 : Int) < 2147483629 by decide)
    exact o_pow ⟨by decide, by decide, by omega⟩
   have w2 : ∀ c : Int, bop .Pow (.int (c % 2147483647 + 104729 * (a + 1))) (.int 5) = some (.val (.int ((c % 2147483647 + 104729 * (a + 1)) ^ 5))) := fun c => by
    have := Int.emod_nonneg c (show (2147483647 : Int) ≠ 0 by decide)
    have := Int.emod_lt_of_pos c (show (0 : Int) < 2147483647 by decide)
    exact o_pow ⟨by decide, by decide, by omega⟩
   by_cases h2 : ns = []
   . subst h2
     have w0 : bop .Pow (.int (5 + 7919 * (a + 1) + 1)) (.int 5) = some (.val (.int ((5 + 7919 * (a + 1) + 1) ^ 5))) := by simpa using w1 5
     have nn : eqD (.list []) (.list []) = some true := eq_i0 []
     refine ⟨_, s + 1, o, by simp [d_law_draw, mm, dd, h1, m1, m2, m3, d1, u1, u2, w0, w2, t18, nn]; rfl, Int.emod_nonneg _ (by omega), Int.emod_lt_of_pos _ hm, by omega, ho⟩
   . have hl : 0 < ns.length := List.length_pos_iff.mpr h2
     have hl2 : (0 : Int) < ns.length := by omega
     have ml := fun x => o_mod (a := x) hl2
     have i0 := Int.emod_nonneg s (show (ns.length : Int) ≠ 0 by omega)
     have i1 := Int.emod_lt_of_pos s hl2
     have hat := at_ints i0 i1
     have he : ns.isEmpty = false := by cases ns <;> first | rfl | exact absurd rfl h2
     generalize ns.getD (s % ns.length).toNat 0 = cell at hat
     by_cases h3 : 1000000000000000000 <= cell /\ s < ns.length
     . refine ⟨cell % m, s + 1, cell / m, ?_, Int.emod_nonneg _ (by omega), Int.emod_lt_of_pos _ hm, by omega, Int.ediv_nonneg (by omega) (by omega)⟩
       obtain ⟨h3, h4⟩ := h3
       have h4 : s + 1 <= (ns.length : Int) := by omega
       simp [d_law_draw, mm, dd, h1, ml, hat, eq_i0, he, t18, h3, h4]
     . have h5 : ¬ (1000000000000000000 <= cell) \/ (1000000000000000000 <= cell /\ ¬ s < ns.length) := by
        by_cases q : 1000000000000000000 <= cell
        . exact .inr ⟨q, fun z => h3 ⟨q, z⟩⟩
        . exact .inl q
       rcases h5 with h5 | ⟨h5, h6⟩
       . refine ⟨_, s + 1, o, by simp [d_law_draw, mm, dd, h1, ml, hat, eq_i0, he, t18, h5, m1, m2, m3, d1, u1, u2, w1, w2]; rfl, Int.emod_nonneg _ (by omega), Int.emod_lt_of_pos _ hm, by omega, ho⟩
       . have h6 : ¬ (s + 1 <= (ns.length : Int)) := by omega
         refine ⟨_, s + 1, o, by simp [d_law_draw, mm, dd, h1, ml, hat, eq_i0, he, t18, h5, h6, m1, m2, m3, d1, u1, u2, w1, w2]; rfl, Int.emod_nonneg _ (by omega), Int.emod_lt_of_pos _ hm, by omega, ho⟩
def Fd (ns : List Int) (n : Nat) (F : C) : Prop := ∃ s o a : Int, F = FS ns s o a /\ 0 <= s /\ 0 <= o /\ 0 <= a /\ a <= n
theorem Fd.mono {ns : List Int} {n m : Nat} {F : C} (h : Fd ns n F) (l : n <= m) : Fd ns m F := by
 obtain ⟨s, o, a, e, h1, h2, h3, h4⟩ := h
 exact ⟨s, o, a, e, h1, h2, h3, by omega⟩
theorem c_draw (g : Gm) {ns : List Int} {n : Nat} {F : C} (h : Fd ns n F) (hn : n < 2 ^ 30) {m : Int} (hm : 0 < m) (hm2 : m < 2 ^ 63) :
  ∃ v F', runD g XF d_law_draw [F.d, .int m] = .ret (.int v) [F'] /\ 0 <= v /\ v < m /\ Fd ns (n + 1) F' := by
 obtain ⟨s, o, a, rfl, h1, h2, h3, h4⟩ := h
 obtain ⟨v, s', o', e, q1, q2, q3, q4⟩ := c_draw0 g ns s o a m h1 h2 h3 (by omega) hm hm2
 exact ⟨v, _, e, q1, q2, s', o', a + 1, rfl, q3, q4, by omega, by omega⟩
theorem it_w {w : Wd} : itemsD (dW w) = some (w.map .int) := rfl
theorem nin_w {k : Int} {w : Wd} : cop .NotIn (.int k) (dW w) = some (!decide (k ∈ w)) := by
 show (inD (.int k) (dW w)).map (!·) = _
 rw [in_w]
 rfl
theorem c_plus (g : Gm) {a b : Wd} (ha : Wk a) (hb : Wk b) : runD g XF d_law_plus [dW a, dW b] = .ret (dW (symI a b)) [] := by
 rw [z_run (e0 := [.bo (dW a), .bo (dW b)]) rfl]
 have la := ha.len
 have lb := hb.len
 have h1 : lcGo (lcTurn [2] [2] false (denT g (some (.cmp .NotIn (.var 2) (.var 1)))) (den g (.var 2)).v) (a.map .int) [.bo (dW a), .bo (dW b), .un] = .ok ((a.filter fun k => !b.contains k).map .int) [.bo (dW a), .bo (dW b), .un] := by
  rw [<- filterMap_if]
  refine lc_pure fun k hk => ?_
  have e1 := nin_w (k := k) (w := b)
  by_cases c : k ∈ b <;> simp [e1, c]
 have h2 : lcGo (lcTurn [2] [2] false (denT g (some (.cmp .NotIn (.var 2) (.var 0)))) (den g (.var 2)).v) (b.map .int) [.bo (dW a), .bo (dW b), .un] = .ok ((b.filter fun k => !a.contains k).map .int) [.bo (dW a), .bo (dW b), .un] := by
  rw [<- filterMap_if]
  refine lc_pure fun k hk => ?_
  have e1 := nin_w (k := k) (w := a)
  by_cases c : k ∈ a <;> simp [e1, c]
 have h3 : bi .sorted [.list (((a.filter fun k => !b.contains k) ++ b.filter fun k => !a.contains k).map .int)] = some (.fresh (.lst ((symI a b).map .int))) := sorted_ints (sym_app ha.ris hb.ris)
 have b1 : a.length < big := by simp [big]; omega
 have b2 : b.length < big := by simp [big]; omega
 have h4 : bop .Add (.list ((a.filter fun k => !b.contains k).map .int)) (.list ((b.filter fun k => !a.contains k).map .int)) = some (.fresh (.lst (((a.filter fun k => !b.contains k) ++ b.filter fun k => !a.contains k).map .int))) := by
  rw [cat_l, List.map_append]
  have := List.length_filter_le (fun k => !b.contains k) a
  have := List.length_filter_le (fun k => !a.contains k) b
  simp only [List.length_map, big]
  omega
 generalize hX : lcTurn [2] [2] false (denT g (some (.cmp .NotIn (.var 2) (.var 1)))) (den g (.var 2)).v = t1 at h1
 generalize hY : lcTurn [2] [2] false (denT g (some (.cmp .NotIn (.var 2) (.var 0)))) (den g (.var 2)).v = t2 at h2
 generalize hA : (a.filter fun k => !b.contains k).map PyData.int = A at h1 h4
 generalize hB : (b.filter fun k => !a.contains k).map PyData.int = B at h2 h4
 generalize hS : ((a.filter fun k => !b.contains k) ++ b.filter fun k => !a.contains k).map PyData.int = S at h3 h4
 simp [d_law_plus, hX, hY, it_w, h1, h2, h3, h4, b1, b2]
 rfl
theorem c_word (k : Nat) {ns : List Int} {n : Nat} {F : C} (h : Fd ns n F) (hn : n < 2 ^ 29) {m : Nat} (hm : m <= 13) :
  ∃ w F', runD (gm defs XF (k + 1)) XF d_law_word [F.d, .int m] = .ret (dW w) [F'] /\ Fd ns (n + 14) F' /\ Wk w /\ (∀ x ∈ w, 0 <= x /\ x < m) := by
 rw [z_run (e0 := [.mu true false F, .bo (.int m)]) st_l1]
 obtain ⟨v, F1, e1, v0, v1, h1⟩ := c_draw (gm defs XF k) h (by omega) (m := 4) (by decide) (by decide)
 have lc := lc_inv (turn := lcTurn [3] [3] false (denT (gm defs XF (k + 1)) (some (.cmp .Eq (.cal "_law_draw" [.var 0, .bin .Add (.con (.int 2)) (.var 2)]) (.con (.int 0))))) (den (gm defs XF (k + 1)) (.var 3)).v) (ds := rngD 0 m)
  (fun j e acc => ∃ F' w, e = [.mu true false F', .bo (.int m), .fz (.int v), .un] /\ Fd ns (n + 1 + j) F' /\ acc = w.map .int /\ Rs w /\ ∀ x ∈ w, 0 <= x /\ x < j) (by
   rintro j d e acc hd ⟨F', w, rfl, hF, rfl, hw, hx⟩
   unfold rngD at hd
   rw [List.getElem?_map] at hd
   have hj : j < m := by
    apply Classical.byContradiction
    intro z
    rw [List.getElem?_eq_none (by rw [List.length_range]; omega)] at hd
    cases hd
   rw [List.getElem?_eq_getElem (by rw [List.length_range]; exact hj), List.getElem_range] at hd
   cases hd
   obtain ⟨u, F2, e2, u0, u1, h2⟩ := c_draw (gm defs XF k) hF (by omega) (m := 2 + v) (by omega) (by omega)
   by_cases c : u = 0
   . refine ⟨some (.int j), [.mu true false F2, .bo (.int m), .fz (.int v), .un], ?_, F2, w ++ [(j : Int)], rfl, h2, by simp, ?_, fun x hx' => ?_⟩
     . simp [e2, c]
     . refine List.pairwise_append.mpr ⟨hw, List.pairwise_singleton _ _, fun x hx' y hy => ?_⟩
       rw [List.mem_singleton.mp hy]
       exact (hx x hx').2
     . rcases List.mem_append.mp hx' with q | q
       . have := hx x q
         omega
       . rw [List.mem_singleton.mp q]
         omega
   . refine ⟨none, [.mu true false F2, .bo (.int m), .fz (.int v), .un], ?_, F2, w, rfl, h2, by simp, hw, fun x hx' => ?_⟩
     . simp [e2, c]
     . have := hx x hx'
       omega)
  (e := [.mu true false F1, .bo (.int m), .fz (.int v), .un]) (acc := []) ⟨F1, [], rfl, h1, rfl, r_nil, fun _ z => absurd z List.not_mem_nil⟩
 obtain ⟨r, e', hr, F', w, rfl, hF, hacc, hw, hx⟩ := lc
 rw [List.nil_append] at hacc
 subst hacc
 have hlen : (rngD 0 m).length = m := by simp [rngD]
 rw [hlen] at hF hx
 refine ⟨w, F', ?_, hF.mono (by omega), ⟨hw, fun x h => ?_⟩, hx⟩
 . have hb1 : -(big : Int) <= m /\ (m : Int) <= (big : Int) := by simp [big]; omega
   have hb2 : m < big := by simp [big]; omega
   generalize hX : lcTurn [3] [3] false (denT (gm defs XF (k + 1)) (some (.cmp .Eq (.cal "_law_draw" [.var 0, .bin .Add (.con (.int 2)) (.var 2)]) (.con (.int 0))))) (den (gm defs XF (k + 1)) (.var 3)).v = tL at hr
   simp [d_law_word, e1, hX, hr, hb1, hb2, hlen]
   rfl
 . have := hx x h
   have e : x = 0 \/ x = 1 \/ x = 2 \/ x = 3 \/ x = 4 \/ x = 5 \/ x = 6 \/ x = 7 \/ x = 8 \/ x = 9 \/ x = 10 \/ x = 11 \/ x = 12 := by omega
   show x ∈ U13
   unfold U13
   simp only [List.mem_cons]
   omega
end K03
namespace K03
open Ev PySem Vs
variable [Uni]
theorem c_mk (k : Nat) {ws : List Wd} {w : Wd} (hw : Ws ws) (h : Wk w) : runD (gm defs XF (k + 3)) XF dmakes [.tuple (dL ws), dW w] = .ret (.bool (mkB ws w)) [] := by
 rw [z_run (e0 := [.bo (.tuple (dL ws)), .bo (dW w)]) rfl]
 have e1 := c_bo k hw
 have e2 := c_red (k + 1) (ws_bo hw) (bo_ech hw.all).ne h
 have e3 := eq_w0 (red (baseOf ws) w)
 have e4 : (red (baseOf ws) w).isEmpty = mkB ws w := rfl
 rw [e4] at e3
 simp [dmakes, e1, e2, e3]
end K03
namespace K03
open Ev PySem Vs
variable [Uni]
theorem c_rank (k : Nat) {ws : List Wd} (hw : Ws ws) : runD (gm defs XF (k + 3)) XF drank_of [.tuple (dL ws)] = .ret (.int (baseOf ws).length) [] := by
 rw [z_run (e0 := [.bo (.tuple (dL ws))]) rfl]
 have e1 := c_bo k hw
 simp [drank_of, e1]
end K03
namespace K03
open Ev PySem Vs
theorem at_neg {xs : List Wd} {n : Nat} (h0 : 0 < n) (h : n <= xs.length) : ∃ w ∈ xs, L2.atI (dL xs) (-(n : Int)) = some (dW w) := by
 have hk : xs.length - n < xs.length := by omega
 refine ⟨xs[xs.length - n], List.getElem_mem hk, ?_⟩
 unfold L2.atI L2.ixN
 rw [if_neg (by omega), if_pos (by rw [dL_len]; omega)]
 have e : (-(n : Int) + (dL xs).length).toNat = xs.length - n := by rw [dL_len]; omega
 show (dL xs)[(-(n : Int) + (dL xs).length).toNat]? = _
 rw [e, dL, List.getElem?_map, List.getElem?_eq_getElem hk]
 rfl
theorem at_pos {xs : List Wd} {i : Int} (h0 : 0 <= i) (h1 : i < xs.length) : ∃ w ∈ xs, L2.atI (dL xs) i = some (dW w) := by
 obtain ⟨k, rfl⟩ : ∃ k : Nat, i = (k : Int) := ⟨i.toNat, by omega⟩
 have hk : k < xs.length := by omega
 refine ⟨xs[k], List.getElem_mem hk, L2.atI_nat ?_⟩
 rw [dL, List.getElem?_map, List.getElem?_eq_getElem hk]
 rfl
theorem lws_snoc {m : Nat} {ws : List Wd} {w : Wd} (h : ∀ w ∈ ws, Lw m w) (hw : Lw m w) : ∀ x ∈ ws ++ [w], Lw m x := fun x hx => by
 rcases List.mem_append.mp hx with y | y
 . exact h x y
 . rw [List.mem_singleton.mp y]; exact hw
theorem lw_wk {m : Nat} {w : Wd} (hm : m <= 12) (h : Lw m w) : Wk w := ⟨h.1, fun x hx => by
 have := h.2 x hx
 have e : x = 0 \/ x = 1 \/ x = 2 \/ x = 3 \/ x = 4 \/ x = 5 \/ x = 6 \/ x = 7 \/ x = 8 \/ x = 9 \/ x = 10 \/ x = 11 := by omega
 show x ∈ U13
 unfold U13
 simp only [List.mem_cons]
 omega⟩
theorem lws_ws {m : Nat} {ws : List Wd} (hm : m <= 12) (h : ∀ w ∈ ws, Lw m w) : Ws ws := fun w hw => lw_wk hm (h w hw)
abbrev loB : List MS := [.asg 5 (.cal "_law_draw" [.var 0, .con (.int 6)]), .asg 6 (.cal "_law_word" [.var 0, .var 1]),
  .ite (.and (.cmp .Eq (.var 5) (.con (.int 0))) (.cmp .Gt (.bif .len [.var 3]) (.con (.int 1)))) [.asg 6 (.cal "_law_plus" [.idx (.var 3) (.neg (.con (.int 1))), .idx (.var 3) (.neg (.con (.int 2)))])] [],
  .ite (.and (.cmp .Eq (.var 5) (.con (.int 1))) (.cmp .NotEq (.var 3) (.lst []))) [.asg 6 (.idx (.var 3) (.cal "_law_draw" [.var 0, .bif .len [.var 3]]))] [], .app 3 (.var 6)]
theorem lo_turn (k : Nat) {ns : List Int} {n m : Nat} {F : C} (h : Fd ns n F) (hn : n < 2 ^ 28) (hm : m <= 12) {ws : List Wd} (hw : ∀ w ∈ ws, Lw m w) (hl : ws.length < 100) {t d : D} {s4 s5 s6 : Sl} (n4 : nm s4) (n5 : nm s5) (n6 : nm s6) :
  ∃ F' w y5 y6, Fd ns (n + 16) F' /\ Lw m w /\ nm y5 /\ nm y6 /\
   frTurn [4] false (sens (gm defs XF (k + 2)) XF loB) d [.mu true false F, .bo (.int m), .bo t, .mu false false (.lst (dL ws)), s4, s5, s6] =
    .ok .nx [.mu true false F', .bo (.int m), .bo t, .mu false false (.lst (dL (ws ++ [w]))), .fz d, y5, y6] := by
 obtain ⟨v, F1, e1, v0, v1, h1⟩ := c_draw (gm defs XF (k + 1)) h (by omega) (m := 6) (by decide) (by decide)
 obtain ⟨w, F2, e2, h2, hw2', hx2⟩ := c_word k h1 (by omega) (by omega : m <= 13)
 have hw2 : Lw m w := ⟨hw2'.ris, hx2⟩
 have hap : ∀ x : Wd, dL ws ++ [dW x] = dL (ws ++ [x]) := fun x => by rw [dL_app]; rfl
 have hb : ws.length < big := by simp [big]; omega
 by_cases c0 : v = 0
 . subst c0
   by_cases c1 : 1 < ws.length
   . obtain ⟨a, ha, q1⟩ := at_neg (n := 1) (xs := ws) (by decide) (by omega)
     obtain ⟨b, hb2, q2⟩ := at_neg (n := 2) (xs := ws) (by decide) (by omega)
     have q1 : L2.atI (dL ws) (-1) = some (dW a) := q1
     have q2 : L2.atI (dL ws) (-2) = some (dW b) := q2
     have e3 := c_plus (gm defs XF (k + 1)) (lw_wk hm (hw a ha)) (lw_wk hm (hw b hb2))
     refine ⟨F2, symI a b, .fz (.int 0), .fz (dW (symI a b)), h2.mono (by omega), lw_sym (hw a ha) (hw b hb2), nm_fz, nm_fz, ?_⟩
     have c2 : (1 : Int) < ws.length := by omega
     simp [e1, e2, e3, q1, q2, c2, hap, hb, nm_slP n4, nm_slP n5, nm_slP n6]
   . refine ⟨F2, w, .fz (.int 0), .fz (dW w), h2.mono (by omega), hw2, nm_fz, nm_fz, ?_⟩
     have c2 : ¬ (1 : Int) < ws.length := by omega
     simp [e1, e2, c2, hap, hb, nm_slP n4, nm_slP n5, nm_slP n6]
 . by_cases c1 : v = 1
   . subst c1
     have q3 := eq_l0 ws
     by_cases c2 : ws = []
     . refine ⟨F2, w, .fz (.int 1), .fz (dW w), h2.mono (by omega), hw2, nm_fz, nm_fz, ?_⟩
       have q4 : ws.isEmpty = true := by rw [c2]; rfl
       rw [q4] at q3
       simp [e1, e2, q3, hap, hb, nm_slP n4, nm_slP n5, nm_slP n6]
     . have hpos := List.length_pos_iff.mpr c2
       obtain ⟨u, F3, e3, u0, u1, h3⟩ := c_draw (gm defs XF (k + 1)) h2 (by omega) (m := ws.length) (by omega) (by omega)
       obtain ⟨a, ha, q1⟩ := at_pos u0 u1
       refine ⟨F3, a, .fz (.int 1), .fz (dW a), h3.mono (by omega), hw a ha, nm_fz, nm_fz, ?_⟩
       have q4 : ws.isEmpty = false := by cases h : ws <;> first | exact absurd h c2 | rfl
       rw [q4] at q3
       simp [e1, e2, e3, q1, q3, hap, hb, nm_slP n4, nm_slP n5, nm_slP n6]
   . refine ⟨F2, w, .fz (.int v), .fz (dW w), h2.mono (by omega), hw2, nm_fz, nm_fz, ?_⟩
     simp [e1, e2, c0, c1, hap, hb, nm_slP n4, nm_slP n5, nm_slP n6]
theorem c_lot (k : Nat) {ns : List Int} {n m t : Nat} {F : C} (h : Fd ns n F) (hn : n < 2 ^ 27) (hm : m <= 12) (ht : t <= 20) :
  ∃ ws F', runD (gm defs XF (k + 2)) XF d_law_lot [F.d, .int m, .int t] = .ret (.tuple (dL ws)) [F'] /\ Fd ns (n + 400) F' /\ (∀ w ∈ ws, Lw m w) /\ ws.length <= t := by
 rw [z_run (e0 := [.mu true false F, .bo (.int m), .bo (.int t)]) st_l2]
 obtain ⟨v, F1, e1, v0, v1, h1⟩ := c_draw (gm defs XF (k + 1)) h (by omega) (m := (t : Int) + 1) (by omega) (by omega)
 obtain ⟨u, rfl⟩ : ∃ u : Nat, v = (u : Int) := ⟨v.toNat, by omega⟩
 have hlen : (rngD 0 u).length = u := by simp [rngD]
 obtain ⟨e', hr, F', ws, y4, y5, y6, rfl, hF, hw, hl⟩ := fr_inv (turn := frTurn [4] false (sens (gm defs XF (k + 2)) XF loB)) (ds := rngD 0 u)
  (fun j e => ∃ F' ws y4 y5 y6, e = [.mu true false F', .bo (.int m), .bo (.int t), .mu false false (.lst (dL ws)), y4, y5, y6] /\ Fd ns (n + 1 + 16 * j) F' /\ (∀ w ∈ ws, Lw m w) /\ ws.length = j /\ nm y4 /\ nm y5 /\ nm y6) (by
   rintro j d e hd ⟨F', ws, y4, y5, y6, rfl, hF, hw, hl, m4, m5, m6⟩
   have hj : j < (rngD 0 u).length := by
    apply Classical.byContradiction
    intro z
    rw [List.getElem?_eq_none (by omega)] at hd
    cases hd
   rw [hlen] at hj
   obtain ⟨F2, w, z5, z6, h2, hw2, k5, k6, e2⟩ := lo_turn k hF (by omega) hm hw (by omega) (t := .int t) (d := d) m4 m5 m6
   exact ⟨.nx, _, e2, .inl rfl, F2, ws ++ [w], .fz d, z5, z6, rfl, h2.mono (by omega), lws_snoc hw hw2, by rw [List.length_append, hl]; rfl, nm_fz, k5, k6⟩)
  (e := [.mu true false F1, .bo (.int m), .bo (.int t), .mu false false (.lst []), .un, .un, .un]) ⟨F1, [], .un, .un, .un, rfl, h1, fun _ h => absurd h List.not_mem_nil, rfl, nm_un, nm_un, nm_un⟩
 rw [hlen] at hF hl
 refine ⟨ws, F', ?_, hF.mono (by omega), hw, by omega⟩
 have hb1 : -(big : Int) <= u /\ (u : Int) <= (big : Int) := by simp [big]; omega
 generalize hX : frTurn [4] false (sens (gm defs XF (k + 2)) XF loB) = tX at hr
 simp [d_law_lot, e1, hb1, hX, hr]
def atS (S : List Int) (m : Int) : Int := S.getD m.toNat 0
def signV (S : List Int) (w : Wd) : Int := (w.map (atS S)).sum % 2
def rowsN : Nat -> List (List Int)
 | 0 => [[]]
 | n + 1 => (rowsN n).map (· ++ [0]) ++ (rowsN n).map (· ++ [1])
def Bt (n : Nat) (S : List Int) : Prop := S.length = n /\ ∀ x ∈ S, x = 0 \/ x = 1
theorem rows_mem : ∀ {n : Nat} {S : List Int}, S ∈ rowsN n ↔ Bt n S
 | 0, S => by
  unfold rowsN Bt
  rw [List.mem_singleton]
  constructor
  . rintro rfl
    exact ⟨rfl, fun x hx => absurd hx List.not_mem_nil⟩
  . exact fun h => List.length_eq_zero_iff.mp h.1
 | n + 1, S => by
  unfold rowsN
  rw [List.mem_append, List.mem_map, List.mem_map]
  constructor
  . rintro (⟨T, hT, rfl⟩ | ⟨T, hT, rfl⟩)
    . obtain ⟨h1, h2⟩ := rows_mem.mp hT
      refine ⟨by simp [h1], fun x hx => ?_⟩
      rcases List.mem_append.mp hx with h | h
      . exact h2 x h
      . exact .inl (List.mem_singleton.mp h)
    . obtain ⟨h1, h2⟩ := rows_mem.mp hT
      refine ⟨by simp [h1], fun x hx => ?_⟩
      rcases List.mem_append.mp hx with h | h
      . exact h2 x h
      . exact .inr (List.mem_singleton.mp h)
  . rintro ⟨h1, h2⟩
    rcases List.eq_nil_or_concat S with rfl | ⟨T, x, rfl⟩
    . cases h1
    rw [List.concat_eq_append] at *
    have hT : Bt n T := ⟨by simpa using h1, fun y hy => h2 y (List.mem_append_left _ hy)⟩
    rcases h2 x (List.mem_append_right _ List.mem_cons_self) with rfl | rfl
    . exact .inl ⟨T, rows_mem.mpr hT, rfl⟩
    . exact .inr ⟨T, rows_mem.mpr hT, rfl⟩
theorem rows_len : ∀ n : Nat, (rowsN n).length = 2 ^ n
 | 0 => rfl
 | n + 1 => by
  unfold rowsN
  rw [List.length_append, List.length_map, List.length_map, rows_len n, Nat.pow_succ]
  omega
theorem rows_nd : ∀ n : Nat, (rowsN n).Nodup
 | 0 => List.nodup_cons.mpr ⟨List.not_mem_nil, List.nodup_nil⟩
 | n + 1 => by
  have key : ∀ x : Int, ((rowsN n).map (· ++ [x])).Nodup := fun x => by
   unfold List.Nodup
   rw [List.pairwise_map]
   exact (rows_nd n).imp fun {a b} h z => h (List.append_cancel_right z)
  unfold rowsN
  refine List.nodup_append.mpr ⟨key 0, key 1, fun a ha b hb z => ?_⟩
  obtain ⟨a', _, rfl⟩ := List.mem_map.mp ha
  obtain ⟨b', _, rfl⟩ := List.mem_map.mp hb
  have := congrArg List.getLast? z
  simp at this
theorem at_bit {n : Nat} {S : List Int} (h : Bt n S) (m : Int) : atS S m = 0 \/ atS S m = 1 := by
 unfold atS
 by_cases c : m.toNat < S.length
 . rw [List.getD, List.getElem?_eq_getElem c]
   exact h.2 _ (List.getElem_mem c)
 . rw [List.getD, List.getElem?_eq_none (by omega)]
   exact .inl rfl
theorem bits_sum {n : Nat} {S : List Int} (hS : Bt n S) : ∀ w : Wd, (w.map (atS S)).sum = ((w.filter fun m => decide (atS S m = 1)).length : Int)
 | [] => rfl
 | m :: w => by
  have ih := bits_sum hS w
  rw [List.map_cons, List.sum_cons, ih, List.filter_cons]
  rcases at_bit hS m with h | h
  . rw [if_neg (by rw [h]; decide), h]
    omega
  . rw [if_pos (by rw [h]; decide), h, List.length_cons]
    omega
def tW (S : List Int) : Wd := ((List.range S.length).filter fun (k : Nat) => decide (atS S k = 1)).map fun (k : Nat) => (k : Int)
theorem tW_mem {S : List Int} {k : Int} : k ∈ tW S ↔ (0 <= k /\ k < S.length) /\ atS S k = 1 := by
 unfold tW
 rw [List.mem_map]
 constructor
 . rintro ⟨i, hi, rfl⟩
   obtain ⟨h1, h2⟩ := List.mem_filter.mp hi
   have h1 := List.mem_range.mp h1
   exact ⟨⟨by omega, by omega⟩, of_decide_eq_true h2⟩
 . rintro ⟨⟨h0, h1⟩, h2⟩
   refine ⟨k.toNat, List.mem_filter.mpr ⟨List.mem_range.mpr (by omega), ?_⟩, by omega⟩
   rw [show ((k.toNat : Nat) : Int) = k by omega]
   exact decide_eq_true h2
theorem tW_lw {n : Nat} {S : List Int} (h : Bt n S) : Lw n (tW S) := by
 refine ⟨?_, fun k hk => by have := (tW_mem.mp hk).1; rw [h.1] at this; exact this⟩
 show List.Pairwise _ _
 unfold tW
 rw [List.pairwise_map]
 exact ((List.pairwise_lt_range).filter _).imp fun {a b} z => by show (a : Int) < b; omega
theorem tW_inj {n : Nat} {S T : List Int} (hS : Bt n S) (hT : Bt n T) (h : tW S = tW T) : S = T := by
 refine List.ext_getElem (by rw [hS.1, hT.1]) fun i h1 h2 => ?_
 have e1 : atS S (i : Int) = S[i] := by unfold atS; rw [show ((i : Int)).toNat = i by omega, List.getD, List.getElem?_eq_getElem h1]; rfl
 have e2 : atS T (i : Int) = T[i] := by unfold atS; rw [show ((i : Int)).toNat = i by omega, List.getD, List.getElem?_eq_getElem h2]; rfl
 have q : (i : Int) ∈ tW S ↔ (i : Int) ∈ tW T := by rw [h]
 rw [tW_mem, tW_mem, e1, e2] at q
 have q2 : S[i] = 1 ↔ T[i] = 1 := ⟨fun z => (q.mp ⟨⟨by omega, by omega⟩, z⟩).2, fun z => (q.mpr ⟨⟨by omega, by omega⟩, z⟩).2⟩
 rcases hS.2 _ (List.getElem_mem h1) with a | a <;> rcases hT.2 _ (List.getElem_mem h2) with b | b <;> rw [a, b] at q2 ⊢ <;> simp at q2 ⊢
def b2i (b : Bool) : Int := if b then 1 else 0
theorem sign_od {n : Nat} {S : List Int} {w : Wd} (hS : Bt n S) (hw : Lw n w) : signV S w = b2i (od w (tW S)) := by
 have e : (w.filter fun m => decide (atS S m = 1)) = w.filter fun m => decide (m ∈ tW S) := List.filter_congr fun m hm => by
  have := hw.2 m hm
  rw [decide_eq_decide, tW_mem, hS.1]
  exact ⟨fun z => ⟨this, z⟩, fun z => z.2⟩
 unfold signV od b2i
 rw [bits_sum hS, e]
 generalize (w.filter fun m => decide (m ∈ tW S)).length = c
 split
 . rename_i h
   have := of_decide_eq_true h
   omega
 . rename_i h
   have := of_decide_eq_false (Bool.eq_false_iff.mpr h)
   omega
theorem cnt_tr {n : Nat} (p : Wd -> Bool) : ((rowsN n).filter fun S => p (tW S)).length = ((turnsW n).filter p).length := by
 have e : ((rowsN n).filter fun S => p (tW S)).length = (((rowsN n).filter fun S => p (tW S)).map tW).length := (List.length_map _).symm
 have nd : (((rowsN n).filter fun S => p (tW S)).map tW).Nodup := by
  unfold List.Nodup
  rw [List.pairwise_map]
  refine List.Pairwise.imp_of_mem (fun {a b} ha hb hne z => hne ?_) ((rows_nd n).filter _)
  exact tW_inj (rows_mem.mp (List.mem_filter.mp ha).1) (rows_mem.mp (List.mem_filter.mp hb).1) z
 rw [e]
 apply Nat.le_antisymm
 . refine nodup_le' nd fun k hk => ?_
   obtain ⟨S, hS, rfl⟩ := List.mem_map.mp hk
   obtain ⟨h1, h2⟩ := List.mem_filter.mp hS
   exact List.mem_filter.mpr ⟨turns_mem.mpr (tW_lw (rows_mem.mp h1)), h2⟩
 . refine nodup_le' ((turns_nd n).filter _) fun v hv => ?_
   obtain ⟨h1, h2⟩ := List.mem_filter.mp hv
   have lv := turns_mem.mp h1
   have hB : Bt n ((List.range n).map fun (k : Nat) => if (k : Int) ∈ v then (1 : Int) else 0) := ⟨by simp, fun x hx => by
    obtain ⟨k, _, rfl⟩ := List.mem_map.mp hx
    split
    . exact .inr rfl
    . exact .inl rfl⟩
   have hv : tW ((List.range n).map fun (k : Nat) => if (k : Int) ∈ v then (1 : Int) else 0) = v := by
    refine ris_one (tW_lw hB).1 lv.1 fun k => ?_
    rw [tW_mem, hB.1]
    constructor
    . rintro ⟨⟨h0, h1⟩, h2⟩
      unfold atS at h2
      rw [List.getD, List.getElem?_map, List.getElem?_eq_getElem (by rw [List.length_range]; omega), List.getElem_range, Option.map_some, show ((k.toNat : Nat) : Int) = k by omega] at h2
      apply Classical.byContradiction
      intro z
      rw [if_neg z] at h2
      exact absurd (show (0 : Int) = 1 from h2) (by decide)
    . intro hk
      have hr := lv.2 k hk
      refine ⟨hr, ?_⟩
      unfold atS
      rw [List.getD, List.getElem?_map, List.getElem?_eq_getElem (by rw [List.length_range]; omega), List.getElem_range, Option.map_some, show ((k.toNat : Nat) : Int) = k by omega, if_pos hk]
      rfl
   exact List.mem_map.mpr ⟨_, List.mem_filter.mpr ⟨rows_mem.mpr hB, by rw [hv]; exact h2⟩, hv⟩
theorem evens_count8 {m : Nat} : ∀ (n : Nat) (S : List Wd), S.length = n -> (∀ s ∈ S, Lw m s) -> (evens S (turnsW m)).length * 2 ^ (baseOf S).length = 2 ^ m
 | 0, S, hl, _ => by
  have : S = [] := List.length_eq_zero_iff.mp hl
  subst this
  have e : evens [] (turnsW m) = turnsW m := by unfold evens; simp
  have e2 := cnt_tr (n := m) fun _ => true
  rw [List.filter_eq_self.mpr fun _ _ => rfl, List.filter_eq_self.mpr fun _ _ => rfl, rows_len] at e2
  rw [e, <- e2]
  have : (baseOf []).length = 0 := by rw [bo_len]; rfl
  rw [this, Nat.pow_zero, Nat.mul_one]
 | n + 1, S, hl, hS => by
  rcases List.eq_nil_or_concat S with rfl | ⟨T, w, rfl⟩
  . cases hl
  rw [List.concat_eq_append] at *
  have hT : ∀ s ∈ T, Lw m s := fun s hs => hS s (List.mem_append_left _ hs)
  have hw := hS w (List.mem_append_right _ List.mem_cons_self)
  have aT : All T := fun s hs => (hT s hs).1
  have ih := evens_count8 n T (by rw [List.length_append] at hl; simp at hl; exact hl) hT
  rw [evens_snoc, rank_more aT hw.1]
  cases hk : mkB T w with
  | true =>
   have e : ((evens T (turnsW m)).filter fun t => !od w t) = evens T (turnsW m) := List.filter_eq_self.mpr fun t ht => by
    obtain ⟨h1, h2⟩ := ev_mem'.mp ht
    rw [od_made aT (turns_mem.mp h1).1 h2 ((mk_iff aT hw.1).mp hk)]
    rfl
   rw [e, if_pos rfl, Nat.add_zero]
   exact ih
  | false =>
   have h1 := half hT hw hk
   have h2 := split_len (fun t => od w t) (evens T (turnsW m))
   rw [if_neg (by simp), Nat.pow_succ, <- ih]
   have h2' : (evens T (turnsW m)).length = ((evens T (turnsW m)).filter fun t => od w t).length + ((evens T (turnsW m)).filter fun t => !od w t).length := h2
   rw [h2', <- h1]
   generalize ((evens T (turnsW m)).filter fun t => !od w t).length = x
   generalize 2 ^ (baseOf T).length = y
   rw [<- Nat.mul_assoc, Nat.mul_comm (x * y) 2, <- Nat.mul_assoc, Nat.two_mul]
def ansW (ws : List Wd) (S : List Int) : Wd := ws.map (signV S)
def clsW (ws : List Wd) (E : List (List Int)) (a : Wd) : List (List Int) := E.filter fun S => decide (ansW ws S = a)
def keysW (ws : List Wd) (E : List (List Int)) : List Wd := E.foldl (fun K S => if ansW ws S ∈ K then K else K ++ [ansW ws S]) []
theorem keys_snoc (ws : List Wd) (E : List (List Int)) (S : List Int) : keysW ws (E ++ [S]) = if ansW ws S ∈ keysW ws E then keysW ws E else keysW ws E ++ [ansW ws S] := by
 unfold keysW
 rw [List.foldl_append]
 rfl
theorem keys_go (ws : List Wd) : ∀ (n : Nat) (E : List (List Int)), E.length = n -> (keysW ws E).Nodup /\ ∀ a, a ∈ keysW ws E ↔ ∃ S ∈ E, ansW ws S = a
 | 0, E, h => by
  have : E = [] := List.length_eq_zero_iff.mp h
  subst this
  exact ⟨List.nodup_nil, fun a => ⟨fun z => absurd z List.not_mem_nil, fun ⟨S, z, _⟩ => absurd z List.not_mem_nil⟩⟩
 | n + 1, E, h => by
  rcases List.eq_nil_or_concat E with rfl | ⟨T, S, rfl⟩
  . cases h
  rw [List.concat_eq_append] at *
  obtain ⟨h1, h2⟩ := keys_go ws n T (by simpa using h)
  rw [keys_snoc]
  split
  . rename_i c
    refine ⟨h1, fun a => ⟨fun z => ?_, fun ⟨U, hU, e⟩ => ?_⟩⟩
    . obtain ⟨U, hU, e⟩ := (h2 a).mp z
      exact ⟨U, List.mem_append_left _ hU, e⟩
    . rcases List.mem_append.mp hU with y | y
      . exact (h2 a).mpr ⟨U, y, e⟩
      . rw [List.mem_singleton.mp y] at e
        rw [<- e]; exact c
  . rename_i c
    refine ⟨List.nodup_append.mpr ⟨h1, List.nodup_cons.mpr ⟨List.not_mem_nil, List.nodup_nil⟩, fun x hx y hy z => c (by rw [<- List.mem_singleton.mp hy, <- z]; exact hx)⟩, fun a => ⟨fun z => ?_, fun ⟨U, hU, e⟩ => ?_⟩⟩
    . rcases List.mem_append.mp z with z | z
      . obtain ⟨U, hU, e⟩ := (h2 a).mp z
        exact ⟨U, List.mem_append_left _ hU, e⟩
      . exact ⟨S, List.mem_append_right _ List.mem_cons_self, (List.mem_singleton.mp z).symm⟩
    . rcases List.mem_append.mp hU with y | y
      . exact List.mem_append_left _ ((h2 a).mpr ⟨U, y, e⟩)
      . rw [List.mem_singleton.mp y] at e
        exact List.mem_append_right _ (List.mem_singleton.mpr e.symm)
theorem keys_nd (ws : List Wd) (E : List (List Int)) : (keysW ws E).Nodup := (keys_go ws _ E rfl).1
theorem keys_mem {ws : List Wd} {E : List (List Int)} {a : Wd} : a ∈ keysW ws E ↔ ∃ S ∈ E, ansW ws S = a := (keys_go ws _ E rfl).2 a
theorem b2i_inj {a b : Bool} : b2i a = b2i b ↔ a = b := by cases a <;> cases b <;> decide
theorem ans_eq {n : Nat} {ws : List Wd} (hw : ∀ v ∈ ws, Lw n v) {S T : List Int} (hS : Bt n S) (hT : Bt n T) : ansW ws S = ansW ws T ↔ ∀ v ∈ ws, od v (symI (tW S) (tW T)) = false := by
 unfold ansW
 rw [List.map_inj_left]
 constructor
 . intro h v hv
   have := h v hv
   rw [sign_od hS (hw v hv), sign_od hT (hw v hv), b2i_inj] at this
   rw [od_sym2, this, Bool.xor_self]
 . intro h v hv
   have := h v hv
   rw [od_sym2] at this
   rw [sign_od hS (hw v hv), sign_od hT (hw v hv), b2i_inj]
   generalize od v (tW S) = x at *
   generalize od v (tW T) = y at *
   cases x <;> cases y <;> simp at this ⊢
theorem cls_cnt {n : Nat} {ws : List Wd} (hw : ∀ v ∈ ws, Lw n v) {T : List Int} (hT : Bt n T) (w : Wd) (q : Bool -> Bool) :
  ((clsW ws (rowsN n) (ansW ws T)).filter fun S => q (od w (tW S))).length = ((evens ws (turnsW n)).filter fun t => q (od w t ^^ od w (tW T))).length := by
 have e1 : ((clsW ws (rowsN n) (ansW ws T)).filter fun S => q (od w (tW S))) = (rowsN n).filter fun S => (ws.all fun v => !od v (symI (tW S) (tW T))) && q (od w (tW S)) := by
  unfold clsW
  rw [List.filter_filter]
  refine List.filter_congr fun S hS => ?_
  have := ans_eq hw (rows_mem.mp hS) hT
  rw [Bool.and_comm]
  congr 1
  rw [Bool.eq_iff_iff, decide_eq_true_iff, this, List.all_eq_true]
  simp
 rw [e1, cnt_tr (n := n) fun t => (ws.all fun v => !od v (symI t (tW T))) && q (od w t)]
 have lT := tW_lw hT
 have nd : ((turnsW n).filter fun t => (ws.all fun v => !od v (symI t (tW T))) && q (od w t)).Nodup := (turns_nd n).filter _
 have nd2 : ((evens ws (turnsW n)).filter fun t => q (od w t ^^ od w (tW T))).Nodup := ((turns_nd n).filter _).filter _
 apply Nat.le_antisymm
 . refine over_le (t := tW T) nd (fun v hv => (turns_mem.mp (List.mem_filter.mp hv).1).1) fun v hv => ?_
   obtain ⟨h1, h2⟩ := List.mem_filter.mp hv
   rw [Bool.and_eq_true] at h2
   refine List.mem_filter.mpr ⟨ev_mem'.mpr ⟨turns_mem.mpr (lw_sym (turns_mem.mp h1) lT), fun s hs => ?_⟩, ?_⟩
   . have := List.all_eq_true.mp h2.1 s hs
     simpa using this
   . rw [od_sym2, Bool.xor_assoc, Bool.xor_self, Bool.xor_false]
     exact h2.2
 . refine over_le (t := tW T) nd2 (fun v hv => (turns_mem.mp (ev_mem'.mp (List.mem_filter.mp hv).1).1).1) fun v hv => ?_
   obtain ⟨h1, h2⟩ := List.mem_filter.mp hv
   obtain ⟨h3, h4⟩ := ev_mem'.mp h1
   have lv := turns_mem.mp h3
   refine List.mem_filter.mpr ⟨turns_mem.mpr (lw_sym lv lT), ?_⟩
   rw [Bool.and_eq_true, s_back2 lv.1]
   refine ⟨List.all_eq_true.mpr fun s hs => by rw [h4 s hs]; rfl, ?_⟩
   rw [od_sym2]
   exact h2
theorem cls_len {n : Nat} {ws : List Wd} (hw : ∀ v ∈ ws, Lw n v) {a : Wd} (ha : a ∈ keysW ws (rowsN n)) : (clsW ws (rowsN n) a).length = (evens ws (turnsW n)).length := by
 obtain ⟨T, hT, rfl⟩ := keys_mem.mp ha
 have := cls_cnt hw (rows_mem.mp hT) [] fun _ => true
 rw [List.filter_eq_self.mpr fun _ _ => rfl, List.filter_eq_self.mpr fun _ _ => rfl] at this
 exact this
theorem keys_all {n : Nat} {ws : List Wd} (hw : ∀ v ∈ ws, Lw n v) : (rowsN n).length = (keysW ws (rowsN n)).length * (evens ws (turnsW n)).length :=
 fib_len (ansW ws) _ (keysW ws (rowsN n)) (rowsN n) (keys_nd _ _) (fun S hS => keys_mem.mpr ⟨S, hS, rfl⟩) fun a ha => cls_len hw ha
theorem keys_len {n : Nat} {ws : List Wd} (hw : ∀ v ∈ ws, Lw n v) : (keysW ws (rowsN n)).length = 2 ^ (baseOf ws).length := by
 have h1 := keys_all hw
 have h2 := evens_count8 _ ws rfl hw
 rw [rows_len, <- h2, Nat.mul_comm] at h1
 have h3 : 0 < (evens ws (turnsW n)).length := by
  apply Nat.pos_of_ne_zero
  intro z
  rw [z, Nat.zero_mul] at h2
  exact absurd h2.symm (Nat.pos_iff_ne_zero.mp (Nat.two_pow_pos n))
 exact (Nat.eq_of_mul_eq_mul_right h3 h1).symm
def onesW (ws : List Wd) (n : Nat) (w a : Wd) : List (List Int) := (clsW ws (rowsN n) a).filter fun S => decide (signV S w = 1)
theorem ones_made {n : Nat} {ws : List Wd} (hw : ∀ v ∈ ws, Lw n v) {w a : Wd} (h : Lw n w) (ha : a ∈ keysW ws (rowsN n)) (hk : mkB ws w = true) : (onesW ws n w a).length = 0 \/ (onesW ws n w a).length = (clsW ws (rowsN n) a).length := by
 rw [cls_len hw ha]
 obtain ⟨T, hT, rfl⟩ := keys_mem.mp ha
 have e : onesW ws n w (ansW ws T) = (clsW ws (rowsN n) (ansW ws T)).filter fun S => (id : Bool -> Bool) (od w (tW S)) := List.filter_congr fun S hS => by
  rw [sign_od (rows_mem.mp (List.mem_filter.mp hS).1) h]
  cases od w (tW S) <;> rfl
 rw [e, cls_cnt hw (rows_mem.mp hT) w id]
 have aS : All ws := fun s hs => (hw s hs).1
 cases c : od w (tW T) with
 | false =>
  left
  rw [List.length_eq_zero_iff, List.filter_eq_nil_iff]
  intro t ht
  obtain ⟨h1, h2⟩ := ev_mem'.mp ht
  rw [od_made aS (turns_mem.mp h1).1 h2 ((mk_iff aS h.1).mp hk)]
  simp
 | true =>
  right
  rw [List.filter_eq_self.mpr fun t ht => ?_]
  obtain ⟨h1, h2⟩ := ev_mem'.mp ht
  rw [od_made aS (turns_mem.mp h1).1 h2 ((mk_iff aS h.1).mp hk)]
  simp
theorem ones_half {n : Nat} {ws : List Wd} (hw : ∀ v ∈ ws, Lw n v) {w a : Wd} (h : Lw n w) (ha : a ∈ keysW ws (rowsN n)) (hk : mkB ws w = false) : 2 * (onesW ws n w a).length = (clsW ws (rowsN n) a).length := by
 rw [cls_len hw ha]
 obtain ⟨T, hT, rfl⟩ := keys_mem.mp ha
 have e : onesW ws n w (ansW ws T) = (clsW ws (rowsN n) (ansW ws T)).filter fun S => (id : Bool -> Bool) (od w (tW S)) := List.filter_congr fun S hS => by
  rw [sign_od (rows_mem.mp (List.mem_filter.mp hS).1) h]
  cases od w (tW S) <;> rfl
 rw [e, cls_cnt hw (rows_mem.mp hT) w id]
 have h1 := half hw h hk
 have h2 : (evens ws (turnsW n)).length = ((evens ws (turnsW n)).filter fun t => od w t).length + ((evens ws (turnsW n)).filter fun t => !od w t).length := split_len (fun t => od w t) (evens ws (turnsW n))
 cases c : od w (tW T) with
 | false =>
  have e2 : ((evens ws (turnsW n)).filter fun t => (id : Bool -> Bool) (od w t ^^ false)) = (evens ws (turnsW n)).filter fun t => od w t := List.filter_congr fun t _ => by simp
  rw [e2]
  omega
 | true =>
  have e2 : ((evens ws (turnsW n)).filter fun t => (id : Bool -> Bool) (od w t ^^ true)) = (evens ws (turnsW n)).filter fun t => !od w t := List.filter_congr fun t _ => by simp
  rw [e2]
  omega
theorem sum_go {n : Nat} {S : List Int} (hS : Bt n S) : ∀ {ws : List Wd} {a : Wd}, (∀ v ∈ ws, Lw n v) -> Lw n a -> b2i (od (ws.foldl symI a) (tW S)) = (b2i (od a (tW S)) + (ansW ws S).sum) % 2
 | [], a, _, ha => by
  show b2i (od a (tW S)) = (b2i (od a (tW S)) + 0) % 2
  cases od a (tW S) <;> decide
 | w :: ws, a, hw, ha => by
  have h0 := hw w List.mem_cons_self
  have ih := sum_go hS (ws := ws) (a := symI a w) (fun v hv => hw v (List.mem_cons_of_mem _ hv)) (lw_sym ha h0)
  show b2i (od (ws.foldl symI (symI a w)) (tW S)) = _
  rw [ih, od_sym ha.1 h0.1 (tW_lw hS).1]
  unfold ansW
  rw [List.map_cons, List.sum_cons, sign_od hS h0]
  generalize (ws.map (signV S)).sum = z
  cases od a (tW S) <;> cases od w (tW S) <;> simp only [b2i, Bool.xor_false, Bool.xor_true, Bool.not_true, Bool.not_false, if_true, if_false, Bool.false_eq_true] <;> omega
theorem sign_sum {n : Nat} {S : List Int} (hS : Bt n S) {ws : List Wd} (hw : ∀ v ∈ ws, Lw n v) (hl : Lw n (sumW ws)) : signV S (sumW ws) = (ansW ws S).sum % 2 := by
 rw [sign_od hS hl]
 have := sum_go hS (ws := ws) (a := []) hw ⟨.nil, fun k hk => absurd hk List.not_mem_nil⟩
 rw [od_nil] at this
 unfold sumW
 rw [this]
 show (0 + _) % 2 = _
 rw [Int.zero_add]
theorem intsD_map : ∀ ns : List Int, intsD (ns.map .int) = some ns
 | [] => rfl
 | n :: ns => by
  show (intsD (ns.map .int)).map (n :: ·) = _
  rw [intsD_map ns]
  rfl
theorem at_s {S : List Int} {m : Int} (h0 : 0 <= m) (h1 : m < S.length) : L2.atI (S.map PyData.int) m = some (.int (atS S m)) := by
 obtain ⟨i, rfl⟩ : ∃ i : Nat, m = (i : Int) := ⟨m.toNat, by omega⟩
 have hi : i < S.length := by omega
 refine L2.atI_nat ?_
 rw [List.getElem?_map, List.getElem?_eq_getElem hi]
 unfold atS
 rw [show ((i : Int)).toNat = i by omega, List.getD, List.getElem?_eq_getElem hi]
 rfl
abbrev sgB : List MS := [.ite (.cmp .GtE (.var 2) (.bif .len [.var 1])) [.nev] []]
theorem sg_ok (G : Gm) {S : List Int} {m : Int} (h : m < S.length) {x0 s2 : Sl} (n2 : nm s2) : frTurn [2] false (sens G XF sgB) (.int m) [x0, .bo (dW S), s2] = .ok .nx [x0, .bo (dW S), .fz (.int m)] := by
 have c : ¬ ((S.length : Int) <= m) := by omega
 have e0 : dW S = .tuple (S.map .int) := rfl
 rw [e0]
 have e1 : ((S.map PyData.int).length : Int) = S.length := by rw [List.length_map]
 generalize S.map PyData.int = L at *
 simp [nm_slP n2, e1, c]
theorem c_sign (G : Gm) {S : List Int} {w : Wd} (h : ∀ m ∈ w, 0 <= m /\ m < S.length) (hl : w.length < 1000) : runD G XF dsign_of [dW w, dW S] = .ret (.int (signV S w)) [] := by
 rw [z_run (e0 := [.bo (dW w), .bo (dW S)]) rfl]
 obtain ⟨e', hr, y2, rfl, n2⟩ := fr_inv (turn := frTurn [2] false (sens G XF sgB)) (ds := w.map .int) (fun j e => ∃ y2, e = [.bo (dW w), .bo (dW S), y2] /\ nm y2) (by
   rintro j d e hd ⟨y2, rfl, m2⟩
   obtain ⟨m, hm, rfl⟩ := List.mem_map.mp (List.mem_of_getElem? hd)
   exact ⟨.nx, _, sg_ok G (h m hm).2 m2, .inl rfl, _, rfl, nm_fz⟩) (e := [.bo (dW w), .bo (dW S), .un]) ⟨.un, rfl, nm_un⟩
 have h1 : lcGo (lcTurn [2] [2] false (denT G none) (den G (.idx (.var 1) (.var 2))).v) (w.map .int) [.bo (dW w), .bo (dW S), .un] = .ok ((w.map (atS S)).map .int) [.bo (dW w), .bo (dW S), .un] := by
  have e0 : (w.map (atS S)).map PyData.int = w.filterMap fun m => some (.int (atS S m)) := by
   rw [filterMap_some, List.map_map]
   rfl
  rw [e0]
  refine lc_pure fun m hm => ?_
  have e1 : iop (dW S) (.int m) = some (.int (atS S m)) := at_s (h m hm).1 (h m hm).2
  simp [e1]
 have e2 : bi .sum [.list ((w.map (atS S)).map .int)] = some (.val (.int (w.map (atS S)).sum)) := by
  show (intsD _).map _ = _
  rw [intsD_map]
  rfl
 have e3 := o_mod (a := (w.map (atS S)).sum) (b := 2) (by decide)
 have b1 : w.length < big := by simp [big]; omega
 generalize hX : frTurn [2] false (sens G XF sgB) = tL at hr
 generalize hY : lcTurn [2] [2] false (denT G none) (den G (.idx (.var 1) (.var 2))).v = tM at h1
 unfold signV
 generalize (w.map (atS S)).map PyData.int = L at *
 simp [dsign_of, hX, it_w, hr, hY, h1, e2, e3, b1, nm_slW n2]
theorem cat_row {S : List Int} (h : S.length <= 100) (x : Int) : bop .Add (dW S) (.tuple [.int x]) = some (.val (dW (S ++ [x]))) := by
 have e2 : S.map PyData.int ++ [.int x] = (S ++ [x]).map .int := by simp
 show (if (S.map PyData.int).length + [PyData.int x].length <= big then some (R.val (.tuple (S.map PyData.int ++ [.int x]))) else none) = _
 rw [if_pos (by simp [big]; omega), e2]
 rfl
theorem rw_lc (g : Gm) {E : List (List Int)} (hE : ∀ S ∈ E, S.length <= 100) (hl : E.length < 1000) (x : Int) {R s2 : Sl} :
  lcRun [3] (lcTurn [3] [3] false (denT g none) (den g (.bin .Add (.var 3) (.tup [.con (.int x)]))).v) (.slot 1 false) [R, .mu false false (.lst (dL E)), s2, .un] =
   .ok (dL (E.map (· ++ [x]))) [R, .mu false false (.lst (dL E)), s2, .un] := by
 refine lcR_slot (e1 := [R, .mu false true (.lst (dL E)), s2, .un]) (e2 := [R, .mu false true (.lst (dL E)), s2, .un]) (e3 := [R, .mu false true (.lst (dL E)), s2, .un]) rfl rfl ?_ rfl
 have e0 : dL (E.map (· ++ [x])) = E.filterMap fun S => some (dW (S ++ [x])) := by
  rw [filterMap_some, dL, List.map_map]
  rfl
 rw [e0]
 refine lcN_pure (l := E) (enc := dW) (t := false) (i := 1) (e := [R, .mu false true (.lst (dL E)), s2, .un]) rfl (by omega) fun S hS => ?_
 have e1 := cat_row (hE S hS) x
 simp [e1]
abbrev rwL (x : Int) : ME := .lc [("_law_row", 3)] [3] false (.var 1) none (.bin .Add (.var 3) (.tup [.con (.int x)]))
abbrev rwB : List MS := [.asg 1 (.bin .Add (rwL 0) (rwL 1))]
theorem rw_turn (g : Gm) {n j : Nat} (hj : j < 8) {d : D} {R s2 : Sl} (n2 : nm s2) {Z : Ev.Env -> Prop} (hz : Z [R, .mu false false (.lst (dL (rowsN (j + 1)))), .fz d, .un]) :
  To (frTurn [2] false (sens g XF rwB) d [R, .mu false false (.lst (dL (rowsN j))), s2, .un]) (Nxt Z) := by
 have hE : ∀ S ∈ rowsN j, S.length <= 100 := fun S hS => by have := (rows_mem.mp hS).1; omega
 have hl : (rowsN j).length <= 2 ^ 8 := by rw [rows_len]; exact Nat.pow_le_pow_right (by decide) (by omega)
 have e1 := rw_lc g hE (by omega) 0 (R := R) (s2 := .fz d)
 have e2 := rw_lc g hE (by omega) 1 (R := R) (s2 := .fz d)
 have e3 : bop .Add (.list (dL ((rowsN j).map (· ++ [0])))) (.list (dL ((rowsN j).map (· ++ [1])))) = some (.fresh (.lst (dL (rowsN (j + 1))))) := by
  have er : rowsN (j + 1) = (rowsN j).map (· ++ [0]) ++ (rowsN j).map (· ++ [1]) := rfl
  rw [cat_l (by rw [dL_len, dL_len, List.length_map, List.length_map]; simp [big]; omega), er, dL_app]
 simp [-z_cons, stp, nm_slP n2, e1, e2, e3, hz]
theorem c_rows (g : Gm) {n : Nat} (hn : n <= 8) : runD g XF d_law_rows [.int n] = .fresh (.lst (dL (rowsN n))) [] := by
 refine run_eq (e0 := [.bo (.int n)]) rfl ?_
 have b1 : n <= big := by simp only [big]; omega
 simp [-z_cons, stp, d_law_rows, b1]
 refine to_frr (fun j e => j <= n /\ ∃ y2, nm y2 /\ e = [.bo (.int n), .mu false false (.lst (dL (rowsN j))), y2, .un]) ⟨Nat.zero_le _, .un, nm_un, rfl⟩ ?_ ?_
 . rintro j _ Z hj ⟨_, y2, m2, rfl⟩ hz
   exact rw_turn g (n := n) (by omega) m2 (hz _ ⟨hj, _, nm_fz, rfl⟩)
 . rintro _ ⟨_, y2, m2, rfl⟩
   simp [-z_cons, stp]
theorem lw_8 {n : Nat} {w : Wd} (hn : n <= 8) (h : Lw n w) : w.length <= 14 := len13 (lw_wk (m := n) (by omega) h)
theorem c_ans (k : Nat) {n : Nat} (hn : n <= 8) {ws : List Wd} (hw : ∀ v ∈ ws, Lw n v) (hl : ws.length <= 20) {S : List Int} (hS : Bt n S) :
  runD (gm defs XF (k + 1)) XF d_law_answers [.tuple (dL ws), dW S] = .ret (dW (ansW ws S)) [] := by
 refine run_eq (e0 := [.bo (.tuple (dL ws)), .bo (dW S)]) rfl ?_
 have h1 : lcGo (lcTurn [2] [2] false (denT (gm defs XF (k + 1)) none) (den (gm defs XF (k + 1)) (.cal "sign_of" [.var 2, .var 1])).v) (dL ws) [.bo (.tuple (dL ws)), .bo (dW S), .un] = .ok ((ansW ws S).map .int) [.bo (.tuple (dL ws)), .bo (dW S), .un] := by
  have e0 : (ansW ws S).map PyData.int = ws.filterMap fun w => some (.int (signV S w)) := by
   unfold ansW
   rw [filterMap_some, List.map_map]
   rfl
  rw [e0]
  refine lc_pure (l := ws) (enc := dW) fun w hm => ?_
  have := lw_8 hn (hw w hm)
  have e1 := c_sign (gm defs XF k) (S := S) (w := w) (fun m h => by rw [hS.1]; exact (hw w hm).2 m h) (by omega)
  simp [e1]
 have b1 : ws.length < big := by simp [big]; omega
 generalize hY : lcTurn [2] [2] false (denT (gm defs XF (k + 1)) none) (den (gm defs XF (k + 1)) (.cal "sign_of" [.var 2, .var 1])).v = tM at h1
 simp [-z_cons, stp, d_law_answers, hY, h1, b1]
 rfl
def kvC (ws : List Wd) (E : List (List Int)) : List (List Int × D) := (keysW ws E).map fun a => (a, .list (dL (clsW ws E a)))
theorem find_key (f : Wd -> D) (k : Wd) : ∀ K : List Wd, atT (K.map fun a => (a, f a)) k = if k ∈ K then some (f k) else none
 | [] => rfl
 | a :: K => by
  have ih := find_key f k K
  unfold atT at ih ⊢
  rw [List.map_cons, List.find?_cons]
  by_cases c : a = k
  . subst c
    simp
  . have c2 : ¬ k = a := fun z => c z.symm
    simp only [c, decide_false, List.mem_cons, c2, false_or]
    exact ih
theorem cls_snoc (ws : List Wd) (E : List (List Int)) (S : List Int) (a : Wd) : clsW ws (E ++ [S]) a = if ansW ws S = a then clsW ws E a ++ [S] else clsW ws E a := by
 unfold clsW
 rw [List.filter_append]
 by_cases c : ansW ws S = a
 . rw [if_pos c]; simp [c]
 . rw [if_neg c]; simp [c]
theorem at_kvC (ws : List Wd) (E : List (List Int)) (a : Wd) : atT (kvC ws E) a = if a ∈ keysW ws E then some (.list (dL (clsW ws E a))) else none := find_key (fun a => .list (dL (clsW ws E a))) a _
theorem got (ws : List Wd) (E : List (List Int)) (a : Wd) : (atT (kvC ws E) a).getD (.list []) = .list (dL (clsW ws E a)) := by
 rw [at_kvC]
 by_cases c : a ∈ keysW ws E
 . rw [if_pos c]; rfl
 . rw [if_neg c]
   have : clsW ws E a = [] := List.filter_eq_nil_iff.mpr fun S hS z => c (keys_mem.mpr ⟨S, hS, of_decide_eq_true z⟩)
   rw [this]
   rfl
theorem put_kvC (ws : List Wd) (E : List (List Int)) (S : List Int) : putT2 (kvC ws E) (ansW ws S) (.list (dL (clsW ws E (ansW ws S) ++ [S]))) = kvC ws (E ++ [S]) := by
 unfold putT2
 rw [at_kvC]
 unfold kvC
 rw [keys_snoc]
 by_cases c : ansW ws S ∈ keysW ws E
 . rw [if_pos c, if_pos c, Option.isSome_some, if_pos rfl, List.map_map]
   refine List.map_congr_left fun a _ => ?_
   rw [cls_snoc]
   by_cases z : a = ansW ws S
   . subst z
     simp
   . have z2 : ¬ ansW ws S = a := fun y => z y.symm
     simp [z, z2]
 . rw [if_neg c, if_neg c, Option.isSome_none, if_neg (by simp), List.map_append]
   congr 1
   . refine List.map_congr_left fun a ha => ?_
     rw [cls_snoc, if_neg fun y => c (by rw [y]; exact ha)]
   . rw [List.map_singleton, cls_snoc, if_pos rfl]
theorem key_w (a : Wd) : keyT (dW a) = some a := ints_map a
theorem cls_le (ws : List Wd) (E : List (List Int)) (a : Wd) : (clsW ws E a).length <= E.length := List.length_filter_le _ _
theorem keys_le (ws : List Wd) : ∀ (n : Nat) (E : List (List Int)), E.length = n -> (keysW ws E).length <= E.length
 | 0, E, h => by
  have : E = [] := List.length_eq_zero_iff.mp h
  subst this
  exact Nat.le_refl _
 | n + 1, E, h => by
  rcases List.eq_nil_or_concat E with rfl | ⟨T, S, rfl⟩
  . cases h
  rw [List.concat_eq_append] at *
  have := keys_le ws n T (by simpa using h)
  rw [keys_snoc, List.length_append]
  split
  . simp only [List.length_cons, List.length_nil]; omega
  . rw [List.length_append]; simp only [List.length_cons, List.length_nil]; omega
abbrev clB : List MS := [.asg 4 (.cal "_law_answers" [.var 0, .var 3]), .tdp 2 (.var 4) (.bin .Add (.tdg 2 (.var 4) (.lst [])) (.lst [.var 3]))]
theorem cl_turn (k : Nat) {n : Nat} (hn : n <= 8) {ws : List Wd} (hw : ∀ v ∈ ws, Lw n v) (hl : ws.length <= 20) {E : List (List Int)} (hE : E.length <= 256) {S : List Int} (hS : Bt n S) {R s3 s4 : Sl} (n3 : nm s3) (n4 : nm s4) {Z : Ev.Env -> Prop}
  (hz : ∀ y3 y4, nm y3 -> nm y4 -> Z [.bo (.tuple (dL ws)), R, .mu false false (.tr (.d (kvC ws (E ++ [S])))), y3, y4]) :
  To (frTurn [3] false (sens (gm defs XF (k + 2)) XF clB) (dW S) [.bo (.tuple (dL ws)), R, .mu false false (.tr (.d (kvC ws E))), s3, s4]) (Nxt Z) := by
 have e1 := c_ans k hn hw hl hS
 have e2 := key_w (ansW ws S)
 have e3 := got ws E (ansW ws S)
 have e4 : bop .Add (.list (dL (clsW ws E (ansW ws S)))) (.list [dW S]) = some (.fresh (.lst (dL (clsW ws E (ansW ws S) ++ [S])))) := by
  have := cls_le ws E (ansW ws S)
  rw [cat_l (by rw [dL_len]; simp [big]; omega), dL_app]
  rfl
 have e5 := put_kvC ws E S
 have b1 : (kvC ws E).length < big := by
  unfold kvC
  have := keys_le ws _ E rfl
  rw [List.length_map]
  simp only [big]
  omega
 have hz := hz (.fz (dW S)) (.fz (dW (ansW ws S))) nm_fz nm_fz
 rw [<- e5] at hz
 generalize kvC ws E = kv at *
 generalize dW (ansW ws S) = A at *
 generalize hd : dW S = dS at *
 generalize dL (clsW ws E (ansW ws S) ++ [S]) = L2 at *
 generalize dL (clsW ws E (ansW ws S)) = L1 at *
 simp [-z_cons, stp, nm_slP n3, nm_slP n4, e1, e2, e3, e4, b1, hz]
theorem c_classes (k : Nat) {n : Nat} (hn : n <= 8) {ws : List Wd} (hw : ∀ v ∈ ws, Lw n v) (hl : ws.length <= 20) :
  runD (gm defs XF (k + 2)) XF d_law_classes [.tuple (dL ws), .list (dL (rowsN n))] = .fresh (.tr (.d (kvC ws (rowsN n)))) [] := by
 refine run_eq (e0 := [.bo (.tuple (dL ws)), .bo (.list (dL (rowsN n)))]) rfl ?_
 have hR : (rowsN n).length <= 2 ^ 8 := by rw [rows_len]; exact Nat.pow_le_pow_right (by decide) hn
 have main : ∀ Q : Fl -> Ev.Env -> Prop, (∀ y3 y4, nm y3 -> nm y4 -> Q .nx [.bo (.tuple (dL ws)), .bo (.list (dL (rowsN n))), .mu false false (.tr (.d (kvC ws (rowsN n)))), y3, y4]) ->
   To (frGo (frTurn [3] false (sens (gm defs XF (k + 2)) XF clB)) (dL (rowsN n)) [.bo (.tuple (dL ws)), .bo (.list (dL (rowsN n))), .mu false false (.tr (.d [])), .un, .un]) Q := by
  intro Q hq
  refine to_fr (fun j e => ∃ y3 y4, nm y3 /\ nm y4 /\ e = [.bo (.tuple (dL ws)), .bo (.list (dL (rowsN n))), .mu false false (.tr (.d (kvC ws ((rowsN n).take j)))), y3, y4]) ⟨.un, .un, nm_un, nm_un, rfl⟩ ?_ ?_
  . rintro j d _ Z hd ⟨y3, y4, m3, m4, rfl⟩ hz
    rw [dL, List.getElem?_map, Option.map_eq_some_iff] at hd
    obtain ⟨S, hj, rfl⟩ := hd
    have hm := List.mem_of_getElem? hj
    refine cl_turn k hn hw hl (by rw [List.length_take]; omega) (rows_mem.mp hm) m3 m4 fun z3 z4 k3 k4 => hz _ ⟨z3, z4, k3, k4, ?_⟩
    rw [List.take_add_one, hj]
    rfl
  . rintro _ ⟨y3, y4, m3, m4, rfl⟩
    rw [dL_len, List.take_length]
    exact hq y3 y4 m3 m4
 generalize hB : sens (gm defs XF (k + 2)) XF clB = tB at main
 generalize dL (rowsN n) = L at *
 generalize kvC ws (rowsN n) = kv at *
 simp [-z_cons, stp, d_law_classes, hB]
 refine main _ fun y3 y4 m3 m4 => ?_
 simp [-z_cons, stp]
theorem st_wr {c : C} {d1 d2 : D} : startE [.b, .b, .l] [d1, d2, c.d] = some [.bo d1, .bo d2, .mu true false c] := by
 unfold startE startE startE startE
 rw [slOf_l]
 rfl
theorem sorted_keys {n : Nat} {ws : List Wd} : ∃ Ks : List Wd, bi .sorted [.list (keysT (kvC ws (rowsN n)))] = some (.fresh (.lst (dL Ks))) /\ ∀ a ∈ Ks, a ∈ keysW ws (rowsN n) := by
 have e : keysT (kvC ws (rowsN n)) = dL (keysW ws (rowsN n)) := by
  unfold keysT kvC dL
  rw [List.map_map]
  rfl
 rw [e]
 refine ⟨srtW (keysW ws (rowsN n)), ?_, fun a h => (srt_perm _).mem_iff.mp h⟩
 by_cases c : ws = []
 . subst c
   apply sorted_ws0
   have ne : keysW [] (rowsN n) ≠ [] := fun z => by
    have h : ([] : Wd) ∈ keysW [] (rowsN n) := by
     have hr : (rowsN n) ≠ [] := fun y => by have := rows_len n; rw [y] at this; exact absurd this (Nat.ne_of_lt (Nat.two_pow_pos n))
     obtain ⟨S, r, h⟩ := List.exists_cons_of_ne_nil hr
     exact keys_mem.mpr ⟨S, by rw [h]; exact List.mem_cons_self, rfl⟩
    rw [z] at h
    cases h
   obtain ⟨a, r, h⟩ := List.exists_cons_of_ne_nil ne
   have ha : a ∈ keysW [] (rowsN n) := by rw [h]; exact List.mem_cons_self
   obtain ⟨S, _, q⟩ := keys_mem.mp ha
   have : a = [] := q.symm
   subst this
   exact ⟨r, h⟩
 . refine sorted_ws fun a ha z => c ?_
   obtain ⟨S, _, q⟩ := keys_mem.mp ha
   rw [z] at q
   exact List.map_eq_nil_iff.mp q
theorem nin_2 {a b c : Int} : cop .NotIn (.int a) (.tuple [.int b, .int c]) = some (decide (a ≠ b /\ a ≠ c)) := by
 have h := in_w a [b, c]
 have h2 : inD (.int a) (.tuple [.int b, .int c]) = some (decide (a ∈ [b, c])) := h
 show (inD (.int a) (.tuple [.int b, .int c])).map (!·) = _
 rw [h2]
 simp [not_or]
abbrev onX : ME := .lc [("_law_signs", 6)] [6] false (.fz (.tdx 2 (.var 4))) (some (.cmp .Eq (.cal "sign_of" [.var 1, .var 6]) (.con (.int 1)))) (.var 6)
abbrev wrB : List MS := [.asg 5 (.bif .len [onX]),
  .ite (.and (.var 3) (.cmp .NotIn (.var 5) (.tup [.con (.int 0), .bif .len [.tdx 2 (.var 4)]]))) [.ret (.con (.bool false))] [],
  .ite (.and (.not (.var 3)) (.cmp .NotEq (.bin .Mult (.con (.int 2)) (.var 5)) (.bif .len [.tdx 2 (.var 4)]))) [.ret (.con (.bool false))] []]
theorem on_lc (k : Nat) {n : Nat} (hn : n <= 8) {ws : List Wd} {w a : Wd} (h : Lw n w) {R0 R2 R3 R4 R5 : Sl} :
  lcGo (lcTurn [6] [6] false (denT (gm defs XF (k + 1)) (some (.cmp .Eq (.cal "sign_of" [.var 1, .var 6]) (.con (.int 1))))) (den (gm defs XF (k + 1)) (.var 6)).v) (dL (clsW ws (rowsN n) a)) [R0, .bo (dW w), R2, R3, R4, R5, .un] =
   .ok (dL (onesW ws n w a)) [R0, .bo (dW w), R2, R3, R4, R5, .un] := by
 have e0 : dL (onesW ws n w a) = (clsW ws (rowsN n) a).filterMap fun S => if signV S w = 1 then some (dW S) else none := by
  have key : ∀ l : List (List Int), (l.filter fun S => decide (signV S w = 1)).map dW = l.filterMap fun S => if signV S w = 1 then some (dW S) else none := fun l => by
   induction l with
   | nil => rfl
   | cons S l ih =>
    rw [List.filter_cons, List.filterMap_cons]
    by_cases c : signV S w = 1
    . rw [if_pos (decide_eq_true c), if_pos c, List.map_cons, ih]
    . rw [if_neg (by rw [decide_eq_true_eq]; exact c), if_neg c]
      exact ih
  exact key _
 rw [e0]
 refine lc_pure (l := clsW ws (rowsN n) a) (enc := dW) fun S hS => ?_
 have hb := rows_mem.mp (List.mem_filter.mp hS).1
 have := lw_8 hn h
 have e1 := c_sign (gm defs XF k) (S := S) (w := w) (fun m hm => by rw [hb.1]; exact h.2 m hm) (by omega)
 by_cases c : signV S w = 1
 . simp [e1, c]
 . simp [e1, c]
theorem wr_turn (k : Nat) {n : Nat} (hn : n <= 8) {ws : List Wd} (hw : ∀ v ∈ ws, Lw n v) {w a : Wd} (h : Lw n w) (ha : a ∈ keysW ws (rowsN n)) {R0 s4 s5 : Sl} (n4 : nm s4) (n5 : nm s5) {Z : Ev.Env -> Prop}
  (hz : ∀ y4 y5, nm y4 -> nm y5 -> Z [R0, .bo (dW w), .mu true false (.tr (.d (kvC ws (rowsN n)))), .fz (.bool (mkB ws w)), y4, y5, .un]) :
  To (frTurn [4] false (sens (gm defs XF (k + 1)) XF wrB) (dW a) [R0, .bo (dW w), .mu true false (.tr (.d (kvC ws (rowsN n)))), .fz (.bool (mkB ws w)), s4, s5, .un]) (Nxt Z) := by
 have e1 := key_w a
 have e2 := at_kvC ws (rowsN n) a
 rw [if_pos ha] at e2
 have hR : (rowsN n).length <= 2 ^ 8 := by rw [rows_len]; exact Nat.pow_le_pow_right (by decide) hn
 have l1 := cls_le ws (rowsN n) a
 have l2 : (onesW ws n w a).length <= (clsW ws (rowsN n) a).length := List.length_filter_le _ _
 have e3 := on_lc k hn (ws := ws) (a := a) h (R0 := R0) (R2 := .mu true false (.tr (.d (kvC ws (rowsN n))))) (R3 := .fz (.bool (mkB ws w))) (R4 := .fz (dW a)) (R5 := s5)
 have b1 : (dL (clsW ws (rowsN n) a)).length < big := by rw [dL_len]; simp only [big]; omega
 have q1 : (((dL (clsW ws (rowsN n) a)).length : Nat) : Int) = (clsW ws (rowsN n) a).length := by rw [dL_len]
 have q2 : (((dL (onesW ws n w a)).length : Nat) : Int) = (onesW ws n w a).length := by rw [dL_len]
 have hz := hz (.fz (dW a)) (.fz (.int (onesW ws n w a).length)) nm_fz nm_fz
 have e4 := nin_2 (a := ((onesW ws n w a).length : Int)) (b := 0) (c := ((clsW ws (rowsN n) a).length : Int))
 have o1 := @ones_made n ws hw w a h ha
 have o2 := @ones_half n ws hw w a h ha
 generalize hY : lcTurn [6] [6] false (denT (gm defs XF (k + 1)) (some (.cmp .Eq (.cal "sign_of" [.var 1, .var 6]) (.con (.int 1))))) (den (gm defs XF (k + 1)) (.var 6)).v = tM at e3
 generalize kvC ws (rowsN n) = kv at *
 generalize dW a = dA at *
 generalize dW w = dw at *
 generalize dL (clsW ws (rowsN n) a) = L1 at *
 generalize dL (onesW ws n w a) = L2 at *
 generalize (onesW ws n w a).length = x at *
 generalize (clsW ws (rowsN n) a).length = y at *
 cases hk : mkB ws w with
 | true =>
  have o1 := o1 hk
  rw [hk] at hz e3
  have c : ¬ ((x : Int) ≠ 0 /\ (x : Int) ≠ (y : Int)) := by omega
  rw [decide_eq_false c] at e4
  simp [-z_cons, stp, nm_slP n4, nm_slP n5, e1, e2, hY, e3, b1, q1, q2, e4, hz]
 | false =>
  have o2 := o2 hk
  rw [hk] at hz e3
  have e5 : (2 : Int) * (x : Int) = (y : Int) := by omega
  have e6 : bop .Mult (.int 2) (.int (x : Int)) = some (.val (.int (y : Int))) := by rw [o_mul (.inl ⟨by decide, by decide⟩), e5]
  simp [-z_cons, stp, nm_slP n4, nm_slP n5, e1, e2, hY, e3, b1, q1, q2, e6, hz]
theorem kv_len {n : Nat} {ws : List Wd} : (kvC ws (rowsN n)).length = (keysW ws (rowsN n)).length := by
 unfold kvC
 rw [List.length_map]
theorem c_wr (k : Nat) {n : Nat} (hn : n <= 8) {ws : List Wd} (hw : ∀ v ∈ ws, Lw n v) {w : Wd} (h : Lw n w) :
  runD (gm defs XF (k + 4)) XF d_law_word_right [.tuple (dL ws), dW w, (C.tr (.d (kvC ws (rowsN n)))).d] = .ret (.bool true) [C.tr (.d (kvC ws (rowsN n)))] := by
 refine run_eq (e0 := [.bo (.tuple (dL ws)), .bo (dW w), .mu true false (.tr (.d (kvC ws (rowsN n))))]) st_wr ?_
 have e1 := c_mk k (lws_ws (m := n) (by omega) hw) (lw_wk (m := n) (by omega) h)
 obtain ⟨Ks, e2, hK⟩ := sorted_keys (n := n) (ws := ws)
 have hR : (rowsN n).length <= 2 ^ 8 := by rw [rows_len]; exact Nat.pow_le_pow_right (by decide) hn
 have b1 : (kvC ws (rowsN n)).length <= big := by
  have := keys_le ws _ (rowsN n) rfl
  rw [kv_len]
  simp only [big]
  omega
 have main : ∀ Q : Fl -> Ev.Env -> Prop, (∀ y4 y5, nm y4 -> nm y5 -> Q .nx [.bo (.tuple (dL ws)), .bo (dW w), .mu true false (.tr (.d (kvC ws (rowsN n)))), .fz (.bool (mkB ws w)), y4, y5, .un]) ->
   To (frGo (frTurn [4] false (sens (gm defs XF (k + 4)) XF wrB)) (dL Ks) [.bo (.tuple (dL ws)), .bo (dW w), .mu true false (.tr (.d (kvC ws (rowsN n)))), .fz (.bool (mkB ws w)), .un, .un, .un]) Q := by
  intro Q hq
  refine to_frm (fun e => ∃ y4 y5, nm y4 /\ nm y5 /\ e = [.bo (.tuple (dL ws)), .bo (dW w), .mu true false (.tr (.d (kvC ws (rowsN n)))), .fz (.bool (mkB ws w)), y4, y5, .un]) ⟨.un, .un, nm_un, nm_un, rfl⟩ ?_ ?_
  . rintro d _ Z hd ⟨y4, y5, m4, m5, rfl⟩ hz
    obtain ⟨a, ha, rfl⟩ := List.mem_map.mp hd
    exact wr_turn (k + 3) hn hw h (hK a ha) m4 m5 fun z4 z5 k4 k5 => hz _ ⟨z4, z5, k4, k5, rfl⟩
  . rintro _ ⟨y4, y5, m4, m5, rfl⟩
    exact hq y4 y5 m4 m5
 generalize hB : sens (gm defs XF (k + 4)) XF wrB = tB at main
 generalize kvC ws (rowsN n) = kv at *
 generalize dL Ks = LK at *
 generalize dL ws = LW at *
 simp [-z_cons, stp, d_law_word_right, hB, e1, e2, b1]
 refine main _ fun y4 y5 m4 m5 => ?_
 simp [-z_cons, stp]
noncomputable abbrev g6 : Gm := gm defs XF 6
theorem q_int (a b : Int) : eqD (.int a) (.int b) = some (decide (a = b)) := by rw [eq_of rfl rfl, eqv_int]
theorem sum_lw {m : Nat} {ws : List Wd} (hw : ∀ v ∈ ws, Lw m v) : Lw m (sumW ws) := by
 have key : ∀ {vs : List Wd} {a : Wd}, (∀ v ∈ vs, Lw m v) -> Lw m a -> Lw m (vs.foldl symI a) := by
  intro vs
  induction vs with
  | nil => exact fun _ h => h
  | cons v vs ih => exact fun h ha => ih (fun u hu => h u (List.mem_cons_of_mem _ hu)) (lw_sym ha (h v List.mem_cons_self))
 exact key hw ⟨.nil, fun k hk => absurd hk List.not_mem_nil⟩
theorem pick4 {u : Int} (h0 : 0 <= u) (h1 : u < 4) : ∃ m : Nat, m <= 8 /\ L2.atI [PyData.int 3, .int 4, .int 6, .int 8] u = some (.int m) := by
 have : u = 0 \/ u = 1 \/ u = 2 \/ u = 3 := by omega
 rcases this with rfl | rfl | rfl | rfl
 . exact ⟨3, by decide, rfl⟩
 . exact ⟨4, by decide, rfl⟩
 . exact ⟨6, by decide, rfl⟩
 . exact ⟨8, by decide, rfl⟩
theorem rank8 {n : Nat} (hn : n <= 8) {ws : List Wd} (hw : ∀ v ∈ ws, Lw n v) : (baseOf ws).length <= 8 := by
 have h1 := keys_len hw
 have h2 := keys_le ws _ (rowsN n) rfl
 rw [h1, rows_len] at h2
 have := (Nat.pow_le_pow_iff_right (by decide : 1 < 2)).mp h2
 omega
abbrev tlkC0 : ME := .cmp .NotEq (.bin .Mult (.bif .len [.tdx 7 (.var 13)]) (.tdl 7)) (.bif .len [.var 5])
abbrev tlkX : ME := .tlk [("_law_answers_here", 13)] [13] 7 (some tlkC0) (.var 13)
theorem tlk_wrap {c : Option (Ev.Env -> Res Bool)} {x : Vc} {kv : List (List Int × D)} (b1 : kv.length < big) {x0 x1 x2 x3 x4 x5 x6 x8 x9 x10 x11 x12 : Sl}
  (hl : lcGo (lcTurn [13] [13] false c x) (keysT kv) [x0, x1, x2, x3, x4, x5, x6, .bt (.d kv), x8, x9, x10, x11, x12, .un] = .ok [] [x0, x1, x2, x3, x4, x5, x6, .bt (.d kv), x8, x9, x10, x11, x12, .un]) :
  tlkC [13] [13] 7 c x [x0, x1, x2, x3, x4, x5, x6, .mu false false (.tr (.d kv)), x8, x9, x10, x11, x12, .un] = .ok (.fresh (.lst [])) [x0, x1, x2, x3, x4, x5, x6, .mu false false (.tr (.d kv)), x8, x9, x10, x11, x12, .un] := by
 have hw : wipeE ([x0, x1, x2, x3, x4, x5, x6, .mu false false (.tr (.d kv)), x8, x9, x10, x11, x12, .un].set 7 (Sl.bt (.d kv))) [13] = some [x0, x1, x2, x3, x4, x5, x6, .bt (.d kv), x8, x9, x10, x11, x12, .un] := rfl
 have hm : tdM ([x0, x1, x2, x3, x4, x5, x6, .mu false false (.tr (.d kv)), x8, x9, x10, x11, x12, Sl.un][7]?) = some (false, kv) := rfl
 unfold tlkC
 rw [hm]
 simp only [ofO, bind_ok]
 rw [hw]
 dsimp only
 rw [if_pos ⟨b1, by trivial⟩, hl]
 rfl
theorem tdl_b {G : Gm} {kv : List (List Int × D)} (b : kv.length <= big) {x0 x1 x2 x3 x4 x5 x6 x8 x9 x10 x11 x12 x13 : Sl} :
  (den G (.tdl 7)).v [x0, x1, x2, x3, x4, x5, x6, .bt (.d kv), x8, x9, x10, x11, x12, x13] = .ok (.val (.int ((kv.length : Nat) : Int))) [x0, x1, x2, x3, x4, x5, x6, .bt (.d kv), x8, x9, x10, x11, x12, x13] := by
 rw [z_tdl]
 have hm : tdS ([x0, x1, x2, x3, x4, x5, x6, Sl.bt (.d kv), x8, x9, x10, x11, x12, x13][7]?) = some kv := rfl
 rw [hm]
 simp only [ofO, bind_ok]
 rw [if_pos b]
theorem pairs_n {x y z : Nat} (hy : y <= 256) (h : x = y * z) : bop .Mult (.int (z : Int)) (.int (y : Int)) = some (.val (.int (x : Int))) := by
 subst h
 rw [o_mul (.inr ⟨by omega, by omega⟩), Nat.mul_comm]
 push_cast
 rfl
theorem c0 (G : Gm) {kv : List (List Int × D)} {dA : D} {a : Wd} {L1 L2 : List D} {x0 x1 x2 x3 x4 x6 x8 x9 x10 x11 x12 : Sl} {K N z : Int} (b0 : kv.length <= big) (e1 : keyT dA = some a) (e2 : atT kv a = some (.list L1)) (q1 : ((L1.length : Nat) : Int) = z) (q2 : ((L2.length : Nat) : Int) = N) (q3 : ((kv.length : Nat) : Int) = K)
  (m1 : bop .Mult (.int z) (.int K) = some (.val (.int N))) (m2 : eqD (.int N) (.int N) = some true) :
  (den G tlkC0).t [x0, x1, x2, x3, x4, .fz (.list L2), x6, .bt (.d kv), x8, x9, x10, x11, x12, .fz dA] = .ok false [x0, x1, x2, x3, x4, .fz (.list L2), x6, .bt (.d kv), x8, x9, x10, x11, x12, .fz dA] := by
 have hT := tdl_b (G := G) b0 (x0 := x0) (x1 := x1) (x2 := x2) (x3 := x3) (x4 := x4) (x5 := .fz (.list L2)) (x6 := x6) (x8 := x8) (x9 := x9) (x10 := x10) (x11 := x11) (x12 := x12) (x13 := .fz dA)
 rw [q3] at hT
 simp [-z_tdl, e1, e2, q1, q2, hT, m1, m2]
theorem c_turn0 {G : Gm} {kv : List (List Int × D)} {dA : D} {x0 x1 x2 x3 x4 x5 x6 x8 x9 x10 x11 x12 : Sl} (h : (den G tlkC0).t [x0, x1, x2, x3, x4, x5, x6, .bt (.d kv), x8, x9, x10, x11, x12, .fz dA] = .ok false [x0, x1, x2, x3, x4, x5, x6, .bt (.d kv), x8, x9, x10, x11, x12, .fz dA]) :
  lcTurn [13] [13] false (denT G (some tlkC0)) (den G (.var 13)).v dA [x0, x1, x2, x3, x4, x5, x6, .bt (.d kv), x8, x9, x10, x11, x12, .un] = .ok none [x0, x1, x2, x3, x4, x5, x6, .bt (.d kv), x8, x9, x10, x11, x12, .un] := by
 have e1 : denT G (some tlkC0) = some (den G tlkC0).t := rfl
 rw [e1]
 generalize (den G tlkC0).t = t at h ⊢
 have e2 : ∀ e, tstC (some t) e = t e := fun _ => rfl
 simp [e2, h]
theorem e_tlk (G : Gm) {n : Nat} (hn : n <= 8) {ws : List Wd} (hw : ∀ v ∈ ws, Lw n v) {x0 x1 x2 x3 x4 x6 x8 x9 x10 x11 x12 : Sl} :
  (den G tlkX).v [x0, x1, x2, x3, x4, .fz (.list (dL (rowsN n))), x6, .mu false false (.tr (.d (kvC ws (rowsN n)))), x8, x9, x10, x11, x12, .un] =
   .ok (.fresh (.lst [])) [x0, x1, x2, x3, x4, .fz (.list (dL (rowsN n))), x6, .mu false false (.tr (.d (kvC ws (rowsN n)))), x8, x9, x10, x11, x12, .un] := by
 have hR : (rowsN n).length <= 2 ^ 8 := by rw [rows_len]; exact Nat.pow_le_pow_right (by decide) hn
 have hK := keys_le ws _ (rowsN n) rfl
 have b0 : (kvC ws (rowsN n)).length <= big := by rw [kv_len]; simp only [big]; omega
 have hl : lcGo (lcTurn [13] [13] false (denT G (some tlkC0)) (den G (.var 13)).v) (keysT (kvC ws (rowsN n))) [x0, x1, x2, x3, x4, .fz (.list (dL (rowsN n))), x6, .bt (.d (kvC ws (rowsN n))), x8, x9, x10, x11, x12, .un] = .ok [] [x0, x1, x2, x3, x4, .fz (.list (dL (rowsN n))), x6, .bt (.d (kvC ws (rowsN n))), x8, x9, x10, x11, x12, .un] := by
  have e : keysT (kvC ws (rowsN n)) = dL (keysW ws (rowsN n)) := by
   unfold keysT kvC dL
   rw [List.map_map]
   rfl
  have e0 : ([] : List D) = (keysW ws (rowsN n)).filterMap fun _ => none := by simp
  rw [e, e0]
  refine lc_pure (l := keysW ws (rowsN n)) (enc := dW) fun a ha => ?_
  have e1 := key_w a
  have e2 := at_kvC ws (rowsN n) a
  rw [if_pos ha] at e2
  have l1 := cls_le ws (rowsN n) a
  have l2 := cls_len hw ha
  have l3 := keys_all hw
  have m1 : bop .Mult (.int ((clsW ws (rowsN n) a).length : Int)) (.int ((keysW ws (rowsN n)).length : Int)) = some (.val (.int ((rowsN n).length : Int))) := by
   rw [l2]
   exact pairs_n (by omega) l3
  have m2 := q_int (rowsN n).length (rowsN n).length
  rw [decide_eq_true rfl] at m2
  exact c_turn0 (c0 G b0 e1 e2 (by rw [dL_len]) (by rw [dL_len]) (by rw [kv_len]) m1 m2)
 have b1 : (kvC ws (rowsN n)).length < big := by rw [kv_len]; simp only [big]; omega
 rw [z_tlk]
 exact tlk_wrap b1 hl
abbrev szB : List MS := [.asg 9 (.bin .Mult (.con (.int 2)) (.var 9))]
abbrev sgnB : List MS := [.ite (.cmp .NotEq (.cal "sign_of" [.var 8, .var 11]) (.bin .Mod (.bif .sum [.cal "_law_answers" [.var 4, .var 11]]) (.con (.int 2)))) [.ret (.con (.bool false))] []]
abbrev wdB : List MS := [.ite (.not (.cal "_law_word_right" [.var 4, .var 12, .var 7])) [.ret (.con (.bool false))] []]
theorem sgn_turn {n : Nat} (hn : n <= 8) {ws : List Wd} (hw : ∀ v ∈ ws, Lw n v) (hl : ws.length <= 20) {S : List Int} (hS : Bt n S) {x0 x1 x2 x3 x5 x6 x7 x9 x10 x11 x12 x13 : Sl} (n11 : nm x11) {Z : Ev.Env -> Prop}
  (hz : Z [x0, x1, x2, x3, .fz (.tuple (dL ws)), x5, x6, x7, .fz (dW (sumW ws)), x9, x10, .fz (dW S), x12, x13]) :
  To (frTurn [11] false (sens g6 XF sgnB) (dW S) [x0, x1, x2, x3, .fz (.tuple (dL ws)), x5, x6, x7, .fz (dW (sumW ws)), x9, x10, x11, x12, x13]) (Nxt Z) := by
 have ls := sum_lw hw
 have l8 := lw_8 hn ls
 have e1 := c_sign (gm defs XF 5) (S := S) (w := sumW ws) (fun m hm => by rw [hS.1]; exact ls.2 m hm) (by omega)
 have e2 := c_ans 4 hn hw hl hS
 have e2 : runD (gm defs XF 5) XF d_law_answers [.tuple (dL ws), dW S] = .ret (dW (ansW ws S)) [] := e2
 have e3 : bi .sum [dW (ansW ws S)] = some (.val (.int (ansW ws S).sum)) := by
  show (intsD ((ansW ws S).map PyData.int)).map _ = _
  rw [intsD_map]
  rfl
 have e4 := o_mod (a := (ansW ws S).sum) (b := 2) (by decide)
 have e5 := sign_sum hS hw ls
 have e6 := q_int (signV S (sumW ws)) ((ansW ws S).sum % 2)
 rw [decide_eq_true e5] at e6
 generalize dW (ansW ws S) = A at *
 generalize dW (sumW ws) = B at *
 generalize dW S = C at *
 generalize dL ws = L at *
 simp [-z_cons, stp, nm_slP n11, e1, e2, e3, e4, e6, hz]
theorem wd_turn {n : Nat} (hn : n <= 8) {ws : List Wd} (hw : ∀ v ∈ ws, Lw n v) {w : Wd} (h : Lw n w) {x0 x1 x2 x3 x5 x6 x8 x9 x10 x11 x12 x13 : Sl} (n12 : nm x12) {Z : Ev.Env -> Prop}
  (hz : Z [x0, x1, x2, x3, .fz (.tuple (dL ws)), x5, x6, .mu false false (.tr (.d (kvC ws (rowsN n)))), x8, x9, x10, x11, .fz (dW w), x13]) :
  To (frTurn [12] false (sens g6 XF wdB) (dW w) [x0, x1, x2, x3, .fz (.tuple (dL ws)), x5, x6, .mu false false (.tr (.d (kvC ws (rowsN n)))), x8, x9, x10, x11, x12, x13]) (Nxt Z) := by
 have e1 := c_wr 1 hn hw h
 have e1 : runD (gm defs XF 5) XF d_law_word_right [.tuple (dL ws), dW w, (C.tr (.d (kvC ws (rowsN n)))).d] = .ret (.bool true) [C.tr (.d (kvC ws (rowsN n)))] := e1
 generalize dW w = C at *
 generalize dL ws = L at *
 generalize kvC ws (rowsN n) = kv at *
 simp [-z_cons, stp, nm_slP n12, e1, hz]
theorem to_app {G : Gm} {X : Xt} {Q : Fl -> Ev.Env -> Prop} {b : List MS} : ∀ {a : List MS} {e : Ev.Env}, To (sens G X a e) (Then G X b Q) -> To (sens G X (a ++ b) e) Q
 | [], e, h => by
  obtain ⟨f, e1, h1, h2⟩ := h
  cases h1
  exact h2
 | s :: a, e, h => by
  rw [List.cons_append, to_cons]
  rw [to_cons] at h
  obtain ⟨f, e1, h1, h2⟩ := h
  refine ⟨f, e1, h1, ?_⟩
  cases f with
  | nx => exact to_app h2
  | br => exact h2
  | ct => exact h2
  | rt r => exact h2
def nm7 (s : Sl) : Prop := s = .un \/ ∃ c, s = .mu false false c
theorem nm7_slP {s : Sl} (h : nm7 s) {q : Option Ev.Env} : slP (some s) q = q := by
 rcases h with rfl | ⟨c, rfl⟩ <;> rfl
theorem pick_mem {α : Type} {xs : List α} {n : Int} {x : α} (h : x ∈ pickL xs n) : x ∈ xs := by
 unfold pickL at h
 obtain ⟨i, _, hi⟩ := List.mem_filterMap.mp h
 exact List.mem_of_getElem? hi
abbrev lpA : List MS := [.asg 3 (.idx (.lst [.con (.int 3), .con (.int 4), .con (.int 6), .con (.int 8)]) (.cal "_law_draw" [.var 1, .con (.int 4)])), .asg 4 (.cal "_law_lot" [.var 1, .var 3, .con (.int 5)]),
  .unp [5, 6] (.tup [.cal "_law_rows" [.var 3], .cal "rank_of" [.var 4]]), .parT 7 8 (.cal "_law_classes" [.var 4, .var 5]) (.cal "sum_of" [.var 4]), .asg 9 (.con (.int 1))]
abbrev lpZ : List MS := [.fr [10] false (.rg1 (.var 6)) szB, .ite (.cmp .NotEq (.tdl 7) (.var 9)) [.ret (.con (.bool false))] [], .ite (.cmp .NotEq tlkX (.lst [])) [.ret (.con (.bool false))] [],
  .fr [11] false (.fz (.stp (.var 5) 5)) sgnB]
abbrev lpY : List MS := [.fr [12] false (.fz (.bin .Add (.lst [.var 8, .tup [], .cal "_law_word" [.var 1, .var 3], .cal "_law_word" [.var 1, .var 3]]) (.bif .list [.sli (.var 4) none (some (.con (.int 2)))]))) wdB]
theorem lapA {ns : List Int} {n : Nat} {F : C} (hF : Fd ns n F) (hn : n < 2 ^ 20) {x0 x2 s3 s4 s5 s6 s7 s8 s9 s10 s11 s12 : Sl} (n3 : nm s3) (n4 : nm s4) (n5 : nm s5) (n6 : nm s6) (n7 : nm7 s7) (n8 : nm s8) (n9 : nm s9) {Q : Fl -> Ev.Env -> Prop}
  (hq : ∀ F' (m : Nat) ws, Fd ns (n + 401) F' -> m <= 8 -> (∀ v ∈ ws, Lw m v) -> ws.length <= 5 ->
   Q .nx [x0, .mu false false F', x2, .fz (.int m), .fz (.tuple (dL ws)), .fz (.list (dL (rowsN m))), .fz (.int (baseOf ws).length), .mu false false (.tr (.d (kvC ws (rowsN m)))), .fz (dW (sumW ws)), .fz (.int 1), s10, s11, s12, .un]) :
  To (sens g6 XF lpA [x0, .mu false false F, x2, s3, s4, s5, s6, s7, s8, s9, s10, s11, s12, .un]) Q := by
 obtain ⟨v, F1, e1, v0, v1, h1⟩ := c_draw (gm defs XF 5) hF (by omega) (m := 4) (by decide) (by decide)
 obtain ⟨m, hm, e0⟩ := pick4 v0 v1
 obtain ⟨ws, F2, e2, h2, hw, hl⟩ := c_lot 3 h1 (by omega) (m := m) (by omega) (t := 5) (by decide)
 have e2 : runD (gm defs XF 5) XF d_law_lot [F1.d, .int m, .int 5] = .ret (.tuple (dL ws)) [F2] := e2
 have e3 := c_rows (gm defs XF 5) hm
 have hws := lws_ws (m := m) (by omega) hw
 have e4 : runD (gm defs XF 5) XF drank_of [.tuple (dL ws)] = .ret (.int (baseOf ws).length) [] := c_rank 2 hws
 have e5 : runD (gm defs XF 5) XF d_law_classes [.tuple (dL ws), .list (dL (rowsN m))] = .fresh (.tr (.d (kvC ws (rowsN m)))) [] := c_classes 3 hm hw (by omega)
 have e6 : runD (gm defs XF 5) XF dsum_of [.tuple (dL ws)] = .ret (dW (sumW ws)) [] := (c_sumof 4 hws).1
 have hq := hq F2 m ws (h2.mono (by omega)) hm hw hl
 generalize dL ws = L at *
 generalize dL (rowsN m) = R at *
 generalize kvC ws (rowsN m) = kv at *
 generalize dW (sumW ws) = S at *
 generalize (baseOf ws).length = r at *
 simp [-z_cons, stp, nm_slP n3, nm_slP n4, nm_slP n5, nm_slP n6, nm7_slP n7, nm_slP n8, nm_slP n9, e1, e0, e2, e3, e4, e5, e6, hq]
theorem lapZ {m : Nat} (hm : m <= 8) {ws : List Wd} (hw : ∀ v ∈ ws, Lw m v) (hl : ws.length <= 5) {x0 x1 x2 s10 s11 s12 : Sl} (n10 : nm s10) (n11 : nm s11) {Q : Fl -> Ev.Env -> Prop}
  (hq : ∀ y10 y11, nm y10 -> nm y11 ->
   Q .nx [x0, x1, x2, .fz (.int m), .fz (.tuple (dL ws)), .fz (.list (dL (rowsN m))), .fz (.int (baseOf ws).length), .mu false false (.tr (.d (kvC ws (rowsN m)))), .fz (dW (sumW ws)), .fz (.int ((2 ^ (baseOf ws).length : Nat) : Int)), y10, y11, s12, .un]) :
  To (sens g6 XF lpZ [x0, x1, x2, .fz (.int m), .fz (.tuple (dL ws)), .fz (.list (dL (rowsN m))), .fz (.int (baseOf ws).length), .mu false false (.tr (.d (kvC ws (rowsN m)))), .fz (dW (sumW ws)), .fz (.int 1), s10, s11, s12, .un]) Q := by
 have hr := rank8 hm hw
 have hR : (rowsN m).length <= 2 ^ 8 := by rw [rows_len]; exact Nat.pow_le_pow_right (by decide) hm
 have hK := keys_le ws _ (rowsN m) rfl
 have b0 : (kvC ws (rowsN m)).length <= big := by rw [kv_len]; simp only [big]; omega
 have q1 : (((kvC ws (rowsN m)).length : Nat) : Int) = ((2 ^ (baseOf ws).length : Nat) : Int) := by rw [kv_len, keys_len hw]
 have q2 := q_int ((2 ^ (baseOf ws).length : Nat) : Int) ((2 ^ (baseOf ws).length : Nat) : Int)
 rw [decide_eq_true rfl] at q2
 have q3 : eqD (.list []) (.list []) = some true := eq_l0 []
 have b1 : -(big : Int) <= ((baseOf ws).length : Int) /\ ((baseOf ws).length : Int) <= big := by simp only [big]; omega
 have tn : (((baseOf ws).length : Nat) : Int).toNat = (baseOf ws).length := by omega
 have lp1 : ∀ Q1 : Fl -> Ev.Env -> Prop, (∀ y10, nm y10 -> Q1 .nx [x0, x1, x2, .fz (.int m), .fz (.tuple (dL ws)), .fz (.list (dL (rowsN m))), .fz (.int (baseOf ws).length), .mu false false (.tr (.d (kvC ws (rowsN m)))), .fz (dW (sumW ws)), .fz (.int ((2 ^ (baseOf ws).length : Nat) : Int)), y10, s11, s12, .un]) ->
   To (frGo (frTurn [10] false (sens g6 XF szB)) (rngD 0 (baseOf ws).length) [x0, x1, x2, .fz (.int m), .fz (.tuple (dL ws)), .fz (.list (dL (rowsN m))), .fz (.int (baseOf ws).length), .mu false false (.tr (.d (kvC ws (rowsN m)))), .fz (dW (sumW ws)), .fz (.int 1), s10, s11, s12, .un]) Q1 := by
  intro Q1 hQ1
  refine to_frr (fun j e => ∃ y10, nm y10 /\ e = [x0, x1, x2, .fz (.int m), .fz (.tuple (dL ws)), .fz (.list (dL (rowsN m))), .fz (.int (baseOf ws).length), .mu false false (.tr (.d (kvC ws (rowsN m)))), .fz (dW (sumW ws)), .fz (.int ((2 ^ j : Nat) : Int)), y10, s11, s12, .un]) ⟨s10, n10, rfl⟩ ?_ ?_
  . rintro j _ Z hj ⟨y10, m10, rfl⟩ hz
    have o1 : bop .Mult (.int 2) (.int ((2 ^ j : Nat) : Int)) = some (.val (.int ((2 ^ (j + 1) : Nat) : Int))) := by
     rw [o_mul (.inl ⟨by decide, by decide⟩), Nat.pow_succ, Nat.mul_comm]
     push_cast
     rfl
    have hz := hz _ ⟨.fz (.int j), nm_fz, rfl⟩
    generalize ((2 ^ j : Nat) : Int) = a at *
    generalize ((2 ^ (j + 1) : Nat) : Int) = b at *
    generalize dL ws = L at *
    generalize dL (rowsN m) = R at *
    generalize kvC ws (rowsN m) = kv at *
    generalize dW (sumW ws) = S at *
    generalize (baseOf ws).length = r at *
    simp [-z_cons, stp, nm_slP m10, o1, hz]
  . rintro _ ⟨y10, m10, rfl⟩
    exact hQ1 y10 m10
 have lp2 : ∀ (Q2 : Fl -> Ev.Env -> Prop) y10, nm y10 -> (∀ y11, nm y11 -> Q2 .nx [x0, x1, x2, .fz (.int m), .fz (.tuple (dL ws)), .fz (.list (dL (rowsN m))), .fz (.int (baseOf ws).length), .mu false false (.tr (.d (kvC ws (rowsN m)))), .fz (dW (sumW ws)), .fz (.int ((2 ^ (baseOf ws).length : Nat) : Int)), y10, y11, s12, .un]) ->
   To (frGo (frTurn [11] false (sens g6 XF sgnB)) (pickL (dL (rowsN m)) 5) [x0, x1, x2, .fz (.int m), .fz (.tuple (dL ws)), .fz (.list (dL (rowsN m))), .fz (.int (baseOf ws).length), .mu false false (.tr (.d (kvC ws (rowsN m)))), .fz (dW (sumW ws)), .fz (.int ((2 ^ (baseOf ws).length : Nat) : Int)), y10, s11, s12, .un]) Q2 := by
  intro Q2 y10 m10 hq2
  refine to_frm (fun e => ∃ y11, nm y11 /\ e = [x0, x1, x2, .fz (.int m), .fz (.tuple (dL ws)), .fz (.list (dL (rowsN m))), .fz (.int (baseOf ws).length), .mu false false (.tr (.d (kvC ws (rowsN m)))), .fz (dW (sumW ws)), .fz (.int ((2 ^ (baseOf ws).length : Nat) : Int)), y10, y11, s12, .un]) ⟨s11, n11, rfl⟩ ?_ ?_
  . rintro d _ Z hd ⟨y11, m11, rfl⟩ hz
    obtain ⟨S, hS, rfl⟩ := List.mem_map.mp (pick_mem hd)
    exact sgn_turn hm hw (by omega) (rows_mem.mp hS) m11 (hz _ ⟨_, nm_fz, rfl⟩)
  . rintro _ ⟨y11, m11, rfl⟩
    exact hq2 y11 m11
 have et := fun {y10} => e_tlk g6 hm hw (x0 := x0) (x1 := x1) (x2 := x2) (x3 := .fz (.int m)) (x4 := .fz (.tuple (dL ws))) (x6 := .fz (.int (baseOf ws).length)) (x8 := .fz (dW (sumW ws))) (x9 := .fz (.int ((2 ^ (baseOf ws).length : Nat) : Int))) (x10 := y10) (x11 := s11) (x12 := s12)
 generalize hB : sens g6 XF szB = tB at lp1
 generalize hC : sens g6 XF sgnB = tC at lp2
 generalize hT : (den g6 tlkX).v = tT at et
 have ls : ∀ R : List D, stpD 5 (.list R) = some (.fresh (.lst (pickL R 5))) := fun R => rfl
 generalize ((2 ^ (baseOf ws).length : Nat) : Int) = two at *
 generalize dL ws = L at *
 generalize dL (rowsN m) = R at *
 generalize kvC ws (rowsN m) = kv at *
 generalize dW (sumW ws) = S at *
 generalize (baseOf ws).length = r at *
 simp [-z_cons, stp, hB, b1, tn]
 refine lp1 _ fun y10 m10 => ?_
 simp [-z_cons, stp, b0, q1, q2, hT, et, q3, ls, hC]
 refine lp2 _ y10 m10 fun y11 m11 => ?_
 have hq := hq y10 y11 m10 m11
 simp [-z_cons, stp, hq]
theorem lapY {ns : List Int} {n m : Nat} {F : C} (hF : Fd ns n F) (hn : n < 2 ^ 24) (hm : m <= 8) {ws : List Wd} (hw : ∀ v ∈ ws, Lw m v) (hl : ws.length <= 5) {x0 x2 s5 s6 s9 s10 s11 s12 : Sl} (n12 : nm s12) {Q : Fl -> Ev.Env -> Prop}
  (hq : ∀ F' y12, Fd ns (n + 100) F' -> nm y12 -> Q .nx [x0, .mu false false F', x2, .fz (.int m), .fz (.tuple (dL ws)), s5, s6, .mu false false (.tr (.d (kvC ws (rowsN m)))), .fz (dW (sumW ws)), s9, s10, s11, y12, .un]) :
  To (sens g6 XF lpY [x0, .mu false false F, x2, .fz (.int m), .fz (.tuple (dL ws)), s5, s6, .mu false false (.tr (.d (kvC ws (rowsN m)))), .fz (dW (sumW ws)), s9, s10, s11, s12, .un]) Q := by
 obtain ⟨w1, F1, e1, h1, k1, k2⟩ := c_word 4 hF (by omega) (m := m) (by omega)
 have e1 : runD (gm defs XF 5) XF d_law_word [F.d, .int m] = .ret (dW w1) [F1] := e1
 obtain ⟨w2, F2, e2, h2, k3, k4⟩ := c_word 4 h1 (by omega) (m := m) (by omega)
 have e2 : runD (gm defs XF 5) XF d_law_word [F1.d, .int m] = .ret (dW w2) [F2] := e2
 have e3 : sop (.tuple (dL ws)) none (some 2) = some (.val (.tuple (dL (ws.take 2)))) := take_t (ws := ws) 2
 have e4 : bop .Add (.list [dW (sumW ws), .tuple [], dW w1, dW w2]) (.list (dL (ws.take 2))) = some (.fresh (.lst (dL ([sumW ws, [], w1, w2] ++ ws.take 2)))) := add_l (a := [sumW ws, [], w1, w2]) (b := ws.take 2) (by
  have := List.length_take_le 2 ws
  simp [big]
  omega)
 have hW : ∀ v ∈ [sumW ws, [], w1, w2] ++ ws.take 2, Lw m v := fun v hv => by
  rcases List.mem_append.mp hv with y | y
  . simp only [List.mem_cons, List.not_mem_nil, or_false] at y
    rcases y with rfl | rfl | rfl | rfl
    . exact sum_lw hw
    . exact ⟨.nil, fun _ z => absurd z List.not_mem_nil⟩
    . exact ⟨k1.ris, k2⟩
    . exact ⟨k3.ris, k4⟩
  . exact hw v (List.mem_of_mem_take y)
 have lp : ∀ Q2 : Fl -> Ev.Env -> Prop, (∀ y12, nm y12 -> Q2 .nx [x0, .mu false false F2, x2, .fz (.int m), .fz (.tuple (dL ws)), s5, s6, .mu false false (.tr (.d (kvC ws (rowsN m)))), .fz (dW (sumW ws)), s9, s10, s11, y12, .un]) ->
   To (frGo (frTurn [12] false (sens g6 XF wdB)) (dL ([sumW ws, [], w1, w2] ++ ws.take 2)) [x0, .mu false false F2, x2, .fz (.int m), .fz (.tuple (dL ws)), s5, s6, .mu false false (.tr (.d (kvC ws (rowsN m)))), .fz (dW (sumW ws)), s9, s10, s11, s12, .un]) Q2 := by
  intro Q2 hq2
  refine to_frm (fun e => ∃ y12, nm y12 /\ e = [x0, .mu false false F2, x2, .fz (.int m), .fz (.tuple (dL ws)), s5, s6, .mu false false (.tr (.d (kvC ws (rowsN m)))), .fz (dW (sumW ws)), s9, s10, s11, y12, .un]) ⟨s12, n12, rfl⟩ ?_ ?_
  . rintro d _ Z hd ⟨y12, m12, rfl⟩ hz
    obtain ⟨v, hv, rfl⟩ := List.mem_map.mp hd
    exact wd_turn hm hw (hW v hv) m12 (hz _ ⟨_, nm_fz, rfl⟩)
  . rintro _ ⟨y12, m12, rfl⟩
    exact hq2 y12 m12
 generalize hC : sens g6 XF wdB = tC at lp
 generalize dL ([sumW ws, [], w1, w2] ++ ws.take 2) = Z at *
 generalize dL (ws.take 2) = L2 at *
 generalize dL ws = L at *
 generalize kvC ws (rowsN m) = kv at *
 generalize dW (sumW ws) = S at *
 generalize dW w1 = d1 at *
 generalize dW w2 = d2 at *
 simp [-z_cons, stp, e1, e2, e3, e4, hC]
 refine lp _ fun y12 m12 => ?_
 have hq := hq F2 y12 (h2.mono (by omega)) m12
 simp [-z_cons, stp, hq]
theorem lap {ns : List Int} {n : Nat} {F : C} (hF : Fd ns n F) (hn : n < 2 ^ 20) {d : D} {x0 s2 s3 s4 s5 s6 s7 s8 s9 s10 s11 s12 : Sl} (n2 : nm s2) (n3 : nm s3) (n4 : nm s4) (n5 : nm s5) (n6 : nm s6) (n7 : nm7 s7) (n8 : nm s8) (n9 : nm s9) (n10 : nm s10) (n11 : nm s11) (n12 : nm s12) {Z : Ev.Env -> Prop}
  (hz : ∀ F' y3 y4 y5 y6 y7 y8 y9 y10 y11 y12, Fd ns (n + 600) F' -> nm y3 -> nm y4 -> nm y5 -> nm y6 -> nm7 y7 -> nm y8 -> nm y9 -> nm y10 -> nm y11 -> nm y12 -> Z [x0, .mu false false F', .fz d, y3, y4, y5, y6, y7, y8, y9, y10, y11, y12, .un]) :
  To (frTurn [2] false (sens g6 XF (lpA ++ (lpZ ++ lpY))) d [x0, .mu false false F, s2, s3, s4, s5, s6, s7, s8, s9, s10, s11, s12, .un]) (Nxt Z) := by
 refine to_turn (by simp [nm_slP n2]; rfl) ?_
 refine to_app (lapA hF hn n3 n4 n5 n6 n7 n8 n9 fun F1 m ws h1 hm hw hl => ?_)
 refine to_app (lapZ hm hw hl n10 n11 fun y10 y11 m10 m11 => ?_)
 refine lapY h1 (by omega) hm hw hl n12 fun F2 y12 h2 m12 => ?_
 rw [nxt_nx]
 exact hz _ _ _ _ _ _ _ _ _ _ _ (h2.mono (by omega)) nm_fz nm_fz nm_fz nm_fz (.inr ⟨_, rfl⟩) nm_fz nm_fz m10 m11 m12
theorem law_t (ns : List Int) (h : ns.length <= 63) : runD g6 XF dlaw [.list (ns.map .int)] = .ret (.bool true) [] := by
 refine run_eq (e0 := [.bo (.list (ns.map .int))]) rfl ?_
 have a1 := c_feed (gm defs XF 5) ns h
 have hF : Fd ns 0 (FS ns 0 0 0) := ⟨0, 0, 0, rfl, by omega, by omega, by omega, by omega⟩
 generalize FS ns 0 0 0 = F at a1 hF
 have hb : dlaw.body = [.asg 1 (.cal "_law_feed" [.var 0]), .fr [2] false (.rg1 (.con (.int 2))) (lpA ++ (lpZ ++ lpY)), .ret (.con (.bool true))] := rfl
 have hmo : dlaw.mo = [.b] := rfl
 have hN : dlaw.N.length = 14 := rfl
 have t5 : (2 : Int).toNat = 2 := rfl
 have g5' : -(big : Int) <= 2 /\ (2 : Int) <= big := by decide
 have lp : ∀ Q : Fl -> Ev.Env -> Prop, (∀ e, (∃ F' y2 y3 y4 y5 y6 y7 y8 y9 y10 y11 y12, e = [.bo (.list (ns.map .int)), .mu false false F', y2, y3, y4, y5, y6, y7, y8, y9, y10, y11, y12, .un]) -> Q .nx e) ->
   To (frGo (frTurn [2] false (sens g6 XF (lpA ++ (lpZ ++ lpY)))) (rngD 0 2) [.bo (.list (ns.map .int)), .mu false false F, .un, .un, .un, .un, .un, .un, .un, .un, .un, .un, .un, .un]) Q := by
  intro Q hq
  refine to_frr (n := 2) (fun j e => ∃ F' y2 y3 y4 y5 y6 y7 y8 y9 y10 y11 y12, Fd ns (600 * j) F' /\ nm y2 /\ nm y3 /\ nm y4 /\ nm y5 /\ nm y6 /\ nm7 y7 /\ nm y8 /\ nm y9 /\ nm y10 /\ nm y11 /\ nm y12 /\ e = [.bo (.list (ns.map .int)), .mu false false F', y2, y3, y4, y5, y6, y7, y8, y9, y10, y11, y12, .un])
   ⟨F, .un, .un, .un, .un, .un, .un, .un, .un, .un, .un, .un, hF, nm_un, nm_un, nm_un, nm_un, nm_un, .inl rfl, nm_un, nm_un, nm_un, nm_un, nm_un, rfl⟩ ?_ ?_
  . rintro j _ Z hj ⟨F', y2, y3, y4, y5, y6, y7, y8, y9, y10, y11, y12, hF', n2, n3, n4, n5, n6, n7, n8, n9, n10, n11, n12, rfl⟩ hz
    exact lap hF' (by omega) n2 n3 n4 n5 n6 n7 n8 n9 n10 n11 n12 fun F2 z3 z4 z5 z6 z7 z8 z9 z10 z11 z12 h2 m3 m4 m5 m6 m7 m8 m9 m10 m11 m12 =>
     hz _ ⟨F2, _, z3, z4, z5, z6, z7, z8, z9, z10, z11, z12, h2.mono (by omega), nm_fz, m3, m4, m5, m6, m7, m8, m9, m10, m11, m12, rfl⟩
  . rintro _ ⟨F', y2, y3, y4, y5, y6, y7, y8, y9, y10, y11, y12, _, _, _, _, _, _, _, _, _, _, _, _, rfl⟩
    exact hq _ ⟨F', y2, y3, y4, y5, y6, y7, y8, y9, y10, y11, y12, rfl⟩
 generalize lpA ++ (lpZ ++ lpY) = B at hb lp
 rw [hb, hmo, hN]
 generalize hX : frTurn [2] false (sens g6 XF B) = tX at lp
 simp [-z_cons, stp, a1, t5, g5', hX]
 refine lp _ ?_
 rintro _ ⟨F', y2, y3, y4, y5, y6, y7, y8, y9, y10, y11, y12, rfl⟩
 simp [-z_cons, stp]
end K03
namespace K03
open Ev PySem PySem.Spec PyProof.Rows L2
theorem kb_no {K : PySem.W.Frag} {f : String} {fd : FuncData} {ps : List Str} (h : (KB.all fun q => q.1 != f) = true) : KbOk K KB f fd ps := by
 intro q hq hf
 have := List.all_eq_true.mp h q hq
 simp [hf] at this
theorem tb_mk {P : Program} {w : World} {K : PySem.W.Frag} {h : Heap} {mg : Str -> Option Value} (X : K.In h) (G : h.Ns mainGlobals mg)
  {f1 f2 f3 f4 f5 f6 f7 f8 f9 f10 f11 f12 f13 f14 f15 f16 f17 : Addr} {od1 an1 od2 an2 od3 an3 od4 an4 od5 an5 od6 an6 od7 an7 od8 an8 od9 an9 od10 an10 od11 an11 od12 an12 od13 an13 od14 an14 od15 an15 od16 an16 od17 an17 : Option Addr} {sl1 sl2 sl3 sl4 sl5 sl6 sl7 sl8 sl9 sl10 sl11 sl12 sl13 sl14 sl15 sl16 sl17 : Array (Option Value)}
  {oc1 kV1 dc1 pm1 cd1 ct1 oc2 kV2 dc2 pm2 cd2 ct2 oc3 kV3 dc3 pm3 cd3 ct3 oc4 kV4 dc4 pm4 cd4 ct4 oc5 kV5 dc5 pm5 cd5 ct5 oc6 kV6 dc6 pm6 cd6 ct6 oc7 kV7 dc7 pm7 cd7 ct7 oc8 kV8 dc8 pm8 cd8 ct8 oc9 kV9 dc9 pm9 cd9 ct9 oc10 kV10 dc10 pm10 cd10 ct10 oc11 kV11 dc11 pm11 cd11 ct11 oc12 kV12 dc12 pm12 cd12 ct12 oc13 kV13 dc13 pm13 cd13 ct13 oc14 kV14 dc14 pm14 cd14 ct14 oc15 kV15 dc15 pm15 cd15 ct15 oc16 kV16 dc16 pm16 cd16 ct16 oc17 kV17 dc17 pm17 cd17 ct17 : Value}
  (a1 : PySem.W.nsIn K mainGlobals "sum_two" = some (some (.ref f1))) (l1 : K.lookup f1 = some ⟨oc1, od1, .func (PySem.W.fnOf "sum_two" "sum_two" (defArgs (top 4)) (defBody (top 4)) (defScope (top 4)) .none kV1 dc1 pm1 an1 cd1 ct1), sl1⟩)
  (c1 : PySem.W.codeIn K cd1 "sum_two" = true) (k1 : PySem.W.keepIn K (.ref f1) = true)
  (a2 : PySem.W.nsIn K mainGlobals "sum_of" = some (some (.ref f2))) (l2 : K.lookup f2 = some ⟨oc2, od2, .func (PySem.W.fnOf "sum_of" "sum_of" (defArgs (top 5)) (defBody (top 5)) (defScope (top 5)) .none kV2 dc2 pm2 an2 cd2 ct2), sl2⟩)
  (c2 : PySem.W.codeIn K cd2 "sum_of" = true) (k2 : PySem.W.keepIn K (.ref f2) = true)
  (a3 : PySem.W.nsIn K mainGlobals "sign_of" = some (some (.ref f3))) (l3 : K.lookup f3 = some ⟨oc3, od3, .func (PySem.W.fnOf "sign_of" "sign_of" (defArgs (top 6)) (defBody (top 6)) (defScope (top 6)) .none kV3 dc3 pm3 an3 cd3 ct3), sl3⟩)
  (c3 : PySem.W.codeIn K cd3 "sign_of" = true) (k3 : PySem.W.keepIn K (.ref f3) = true)
  (a4 : PySem.W.nsIn K mainGlobals "reduced" = some (some (.ref f4))) (l4 : K.lookup f4 = some ⟨oc4, od4, .func (PySem.W.fnOf "reduced" "reduced" (defArgs (top 8)) (defBody (top 8)) (defScope (top 8)) .none kV4 dc4 pm4 an4 cd4 ct4), sl4⟩)
  (c4 : PySem.W.codeIn K cd4 "reduced" = true) (k4 : PySem.W.keepIn K (.ref f4) = true)
  (a5 : PySem.W.nsIn K mainGlobals "base_of" = some (some (.ref f5))) (l5 : K.lookup f5 = some ⟨oc5, od5, .func (PySem.W.fnOf "base_of" "base_of" (defArgs (top 9)) (defBody (top 9)) (defScope (top 9)) .none kV5 dc5 pm5 an5 cd5 ct5), sl5⟩)
  (c5 : PySem.W.codeIn K cd5 "base_of" = true) (k5 : PySem.W.keepIn K (.ref f5) = true)
  (a6 : PySem.W.nsIn K mainGlobals "makes" = some (some (.ref f6))) (l6 : K.lookup f6 = some ⟨oc6, od6, .func (PySem.W.fnOf "makes" "makes" (defArgs (top 10)) (defBody (top 10)) (defScope (top 10)) .none kV6 dc6 pm6 an6 cd6 ct6), sl6⟩)
  (c6 : PySem.W.codeIn K cd6 "makes" = true) (k6 : PySem.W.keepIn K (.ref f6) = true)
  (a7 : PySem.W.nsIn K mainGlobals "rank_of" = some (some (.ref f7))) (l7 : K.lookup f7 = some ⟨oc7, od7, .func (PySem.W.fnOf "rank_of" "rank_of" (defArgs (top 12)) (defBody (top 12)) (defScope (top 12)) .none kV7 dc7 pm7 an7 cd7 ct7), sl7⟩)
  (c7 : PySem.W.codeIn K cd7 "rank_of" = true) (k7 : PySem.W.keepIn K (.ref f7) = true)
  (a8 : PySem.W.nsIn K mainGlobals "_law_feed" = some (some (.ref f8))) (l8 : K.lookup f8 = some ⟨oc8, od8, .func (PySem.W.fnOf "_law_feed" "_law_feed" (defArgs (top 14)) (defBody (top 14)) (defScope (top 14)) .none kV8 dc8 pm8 an8 cd8 ct8), sl8⟩)
  (c8 : PySem.W.codeIn K cd8 "_law_feed" = true) (k8 : PySem.W.keepIn K (.ref f8) = true)
  (a9 : PySem.W.nsIn K mainGlobals "_law_draw" = some (some (.ref f9))) (l9 : K.lookup f9 = some ⟨oc9, od9, .func (PySem.W.fnOf "_law_draw" "_law_draw" (defArgs (top 15)) (defBody (top 15)) (defScope (top 15)) .none kV9 dc9 pm9 an9 cd9 ct9), sl9⟩)
  (c9 : PySem.W.codeIn K cd9 "_law_draw" = true) (k9 : PySem.W.keepIn K (.ref f9) = true)
  (a10 : PySem.W.nsIn K mainGlobals "_law_plus" = some (some (.ref f10))) (l10 : K.lookup f10 = some ⟨oc10, od10, .func (PySem.W.fnOf "_law_plus" "_law_plus" (defArgs (top 16)) (defBody (top 16)) (defScope (top 16)) .none kV10 dc10 pm10 an10 cd10 ct10), sl10⟩)
  (c10 : PySem.W.codeIn K cd10 "_law_plus" = true) (k10 : PySem.W.keepIn K (.ref f10) = true)
  (a11 : PySem.W.nsIn K mainGlobals "_law_word" = some (some (.ref f11))) (l11 : K.lookup f11 = some ⟨oc11, od11, .func (PySem.W.fnOf "_law_word" "_law_word" (defArgs (top 17)) (defBody (top 17)) (defScope (top 17)) .none kV11 dc11 pm11 an11 cd11 ct11), sl11⟩)
  (c11 : PySem.W.codeIn K cd11 "_law_word" = true) (k11 : PySem.W.keepIn K (.ref f11) = true)
  (a12 : PySem.W.nsIn K mainGlobals "_law_lot" = some (some (.ref f12))) (l12 : K.lookup f12 = some ⟨oc12, od12, .func (PySem.W.fnOf "_law_lot" "_law_lot" (defArgs (top 18)) (defBody (top 18)) (defScope (top 18)) .none kV12 dc12 pm12 an12 cd12 ct12), sl12⟩)
  (c12 : PySem.W.codeIn K cd12 "_law_lot" = true) (k12 : PySem.W.keepIn K (.ref f12) = true)
  (a13 : PySem.W.nsIn K mainGlobals "_law_rows" = some (some (.ref f13))) (l13 : K.lookup f13 = some ⟨oc13, od13, .func (PySem.W.fnOf "_law_rows" "_law_rows" (defArgs (top 19)) (defBody (top 19)) (defScope (top 19)) .none kV13 dc13 pm13 an13 cd13 ct13), sl13⟩)
  (c13 : PySem.W.codeIn K cd13 "_law_rows" = true) (k13 : PySem.W.keepIn K (.ref f13) = true)
  (a14 : PySem.W.nsIn K mainGlobals "_law_answers" = some (some (.ref f14))) (l14 : K.lookup f14 = some ⟨oc14, od14, .func (PySem.W.fnOf "_law_answers" "_law_answers" (defArgs (top 20)) (defBody (top 20)) (defScope (top 20)) .none kV14 dc14 pm14 an14 cd14 ct14), sl14⟩)
  (c14 : PySem.W.codeIn K cd14 "_law_answers" = true) (k14 : PySem.W.keepIn K (.ref f14) = true)
  (a15 : PySem.W.nsIn K mainGlobals "_law_classes" = some (some (.ref f15))) (l15 : K.lookup f15 = some ⟨oc15, od15, .func (PySem.W.fnOf "_law_classes" "_law_classes" (defArgs (top 21)) (defBody (top 21)) (defScope (top 21)) .none kV15 dc15 pm15 an15 cd15 ct15), sl15⟩)
  (c15 : PySem.W.codeIn K cd15 "_law_classes" = true) (k15 : PySem.W.keepIn K (.ref f15) = true)
  (a16 : PySem.W.nsIn K mainGlobals "_law_word_right" = some (some (.ref f16))) (l16 : K.lookup f16 = some ⟨oc16, od16, .func (PySem.W.fnOf "_law_word_right" "_law_word_right" (defArgs (top 22)) (defBody (top 22)) (defScope (top 22)) .none kV16 dc16 pm16 an16 cd16 ct16), sl16⟩)
  (c16 : PySem.W.codeIn K cd16 "_law_word_right" = true) (k16 : PySem.W.keepIn K (.ref f16) = true)
  (a17 : PySem.W.nsIn K mainGlobals "law" = some (some (.ref f17))) (l17 : K.lookup f17 = some ⟨oc17, od17, .func (PySem.W.fnOf "law" "law" (defArgs (top 23)) (defBody (top 23)) (defScope (top 23)) .none kV17 dc17 pm17 an17 cd17 ct17), sl17⟩)
  (c17 : PySem.W.codeIn K cd17 "law" = true) (k17 : PySem.W.keepIn K (.ref f17) = true)
  (z1 : PySem.W.nsIn K mainGlobals "len" = some none)
  (z2 : PySem.W.nsIn K mainGlobals "list" = some none)
  (z3 : PySem.W.nsIn K mainGlobals "range" = some none)
  (z4 : PySem.W.nsIn K mainGlobals "set" = some none)
  (z5 : PySem.W.nsIn K mainGlobals "sorted" = some none)
  (z6 : PySem.W.nsIn K mainGlobals "sum" = some none)
  (z7 : PySem.W.nsIn K mainGlobals "tuple" = some none)
  (hkt : ktB K = true)
  : Names K mg BN GL /\ (∀ e ∈ defs, ∃ st f fd, DefOk K mg BN GL KB e st f fd) /\ (∀ base x, XF.xc x ≠ [] -> XcOk P w K mg base x (XF.xc x)) /\ (∀ c x b, XF.sub c x = some b -> SubOk K mg c x b) /\ (∀ c f, XF.fld c f = true -> FldOk K mg c f) /\ (∀ x ∈ XF.kn, ∃ C, mg (T x) = some (.ref C)) /\ ∀ d ∈ XF.hds, ∃ st f fd, HdDef K mg BN GL KB d st f fd := by
 have hX : ∀ base : Heap, ∀ p ∈ xsX, XcOk P w K mg base p.1 p.2 := by
  intro base p hp
  cases hp
 have hS : ∀ p ∈ ssX, SubOk K mg p.1.1 p.1.2 p.2 := by
  intro p hp
  cases hp
 have hFl : ∀ p ∈ fsX, FldOk K mg p.1 p.2 := by
  intro p hp
  cases hp
 have hK : ∀ x ∈ knX, ∃ C, mg (T x) = some (.ref C) := by
  intro x hx
  cases hx
 have hH : ∀ d ∈ XF.hds, ∃ st f fd, HdDef K mg BN GL KB d st f fd := by
  intro d hd
  cases hd
 refine (fun (q : Names K mg BN GL /\ ∀ e ∈ defs, ∃ st f fd, DefOk K mg BN GL KB e st f fd) => ⟨q.1, q.2, fun base => mkX_xc (xs := xsX) (ss := ssX) (fs := fsX) (kn := knX) (hX base), mkX_sub (xs := xsX) (ss := ssX) (fs := fsX) (kn := knX) hS, mkX_fld (xs := xsX) (ss := ssX) (fs := fsX) (kn := knX) hFl, hK, hH⟩) ?_
 refine ⟨⟨fun x hx => ?_, fun p hp => ?_, hkt⟩, fun e he => ?_⟩
 . simp only [BN, List.mem_cons, List.not_mem_nil, or_false] at hx
   rcases hx with rfl | rfl | rfl | rfl | rfl | rfl | rfl
   . exact PySem.W.mg_none_of X G z1
   . exact PySem.W.mg_none_of X G z2
   . exact PySem.W.mg_none_of X G z3
   . exact PySem.W.mg_none_of X G z4
   . exact PySem.W.mg_none_of X G z5
   . exact PySem.W.mg_none_of X G z6
   . exact PySem.W.mg_none_of X G z7
 . cases hp
 . simp only [defs, List.mem_cons, List.not_mem_nil, or_false] at he
   rcases he with rfl | rfl | rfl | rfl | rfl | rfl | rfl | rfl | rfl | rfl | rfl | rfl | rfl | rfl | rfl | rfl | rfl
   . have F := fun_mk (x := T "sum_two") (qual := T "sum_two") (st := top 4) l1 c1 k1
     exact ⟨_, _, _, F, PySem.W.mg_of X G a1, bd_of (F.binds (ps := [T "one", T "other"]) (fun _ _ _ _ _ _ us hl => match us, hl with | [_, _], _ => rfl)) rfl, oksum_two, kb_no (by decide +kernel), rfl, a1⟩
   . have F := fun_mk (x := T "sum_of") (qual := T "sum_of") (st := top 5) l2 c2 k2
     exact ⟨_, _, _, F, PySem.W.mg_of X G a2, bd_of (F.binds (ps := [T "words"]) (fun _ _ _ _ _ _ us hl => match us, hl with | [_], _ => rfl)) rfl, oksum_of, kb_no (by decide +kernel), rfl, a2⟩
   . have F := fun_mk (x := T "sign_of") (qual := T "sign_of") (st := top 6) l3 c3 k3
     exact ⟨_, _, _, F, PySem.W.mg_of X G a3, bd_of (F.binds (ps := [T "word", T "signs"]) (fun _ _ _ _ _ _ us hl => match us, hl with | [_, _], _ => rfl)) rfl, oksign_of, kb_no (by decide +kernel), rfl, a3⟩
   . have F := fun_mk (x := T "reduced") (qual := T "reduced") (st := top 8) l4 c4 k4
     exact ⟨_, _, _, F, PySem.W.mg_of X G a4, bd_of (F.binds (ps := [T "rows", T "entry"]) (fun _ _ _ _ _ _ us hl => match us, hl with | [_, _], _ => rfl)) rfl, okreduced, kb_no (by decide +kernel), rfl, a4⟩
   . have F := fun_mk (x := T "base_of") (qual := T "base_of") (st := top 9) l5 c5 k5
     exact ⟨_, _, _, F, PySem.W.mg_of X G a5, bd_of (F.binds (ps := [T "words"]) (fun _ _ _ _ _ _ us hl => match us, hl with | [_], _ => rfl)) rfl, okbase_of, kb_no (by decide +kernel), rfl, a5⟩
   . have F := fun_mk (x := T "makes") (qual := T "makes") (st := top 10) l6 c6 k6
     exact ⟨_, _, _, F, PySem.W.mg_of X G a6, bd_of (F.binds (ps := [T "words", T "word"]) (fun _ _ _ _ _ _ us hl => match us, hl with | [_, _], _ => rfl)) rfl, okmakes, kb_no (by decide +kernel), rfl, a6⟩
   . have F := fun_mk (x := T "rank_of") (qual := T "rank_of") (st := top 12) l7 c7 k7
     exact ⟨_, _, _, F, PySem.W.mg_of X G a7, bd_of (F.binds (ps := [T "words"]) (fun _ _ _ _ _ _ us hl => match us, hl with | [_], _ => rfl)) rfl, okrank_of, kb_no (by decide +kernel), rfl, a7⟩
   . have F := fun_mk (x := T "_law_feed") (qual := T "_law_feed") (st := top 14) l8 c8 k8
     exact ⟨_, _, _, F, PySem.W.mg_of X G a8, bd_of (F.binds (ps := [T "_law_script"]) (fun _ _ _ _ _ _ us hl => match us, hl with | [_], _ => rfl)) rfl, ok_law_feed, kb_no (by decide +kernel), rfl, a8⟩
   . have F := fun_mk (x := T "_law_draw") (qual := T "_law_draw") (st := top 15) l9 c9 k9
     exact ⟨_, _, _, F, PySem.W.mg_of X G a9, bd_of (F.binds (ps := [T "_law_feed_here", T "_law_many"]) (fun _ _ _ _ _ _ us hl => match us, hl with | [_, _], _ => rfl)) rfl, ok_law_draw, kb_no (by decide +kernel), rfl, a9⟩
   . have F := fun_mk (x := T "_law_plus") (qual := T "_law_plus") (st := top 16) l10 c10 k10
     exact ⟨_, _, _, F, PySem.W.mg_of X G a10, bd_of (F.binds (ps := [T "_law_one", T "_law_other"]) (fun _ _ _ _ _ _ us hl => match us, hl with | [_, _], _ => rfl)) rfl, ok_law_plus, kb_no (by decide +kernel), rfl, a10⟩
   . have F := fun_mk (x := T "_law_word") (qual := T "_law_word") (st := top 17) l11 c11 k11
     exact ⟨_, _, _, F, PySem.W.mg_of X G a11, bd_of (F.binds (ps := [T "_law_feed_here", T "_law_many"]) (fun _ _ _ _ _ _ us hl => match us, hl with | [_, _], _ => rfl)) rfl, ok_law_word, kb_no (by decide +kernel), rfl, a11⟩
   . have F := fun_mk (x := T "_law_lot") (qual := T "_law_lot") (st := top 18) l12 c12 k12
     exact ⟨_, _, _, F, PySem.W.mg_of X G a12, bd_of (F.binds (ps := [T "_law_feed_here", T "_law_many", T "_law_most"]) (fun _ _ _ _ _ _ us hl => match us, hl with | [_, _, _], _ => rfl)) rfl, ok_law_lot, kb_no (by decide +kernel), rfl, a12⟩
   . have F := fun_mk (x := T "_law_rows") (qual := T "_law_rows") (st := top 19) l13 c13 k13
     exact ⟨_, _, _, F, PySem.W.mg_of X G a13, bd_of (F.binds (ps := [T "_law_many"]) (fun _ _ _ _ _ _ us hl => match us, hl with | [_], _ => rfl)) rfl, ok_law_rows, kb_no (by decide +kernel), rfl, a13⟩
   . have F := fun_mk (x := T "_law_answers") (qual := T "_law_answers") (st := top 20) l14 c14 k14
     exact ⟨_, _, _, F, PySem.W.mg_of X G a14, bd_of (F.binds (ps := [T "_law_some", T "_law_signs"]) (fun _ _ _ _ _ _ us hl => match us, hl with | [_, _], _ => rfl)) rfl, ok_law_answers, kb_no (by decide +kernel), rfl, a14⟩
   . have F := fun_mk (x := T "_law_classes") (qual := T "_law_classes") (st := top 21) l15 c15 k15
     exact ⟨_, _, _, F, PySem.W.mg_of X G a15, bd_of (F.binds (ps := [T "_law_some", T "_law_every"]) (fun _ _ _ _ _ _ us hl => match us, hl with | [_, _], _ => rfl)) rfl, ok_law_classes, kb_no (by decide +kernel), rfl, a15⟩
   . have F := fun_mk (x := T "_law_word_right") (qual := T "_law_word_right") (st := top 22) l16 c16 k16
     exact ⟨_, _, _, F, PySem.W.mg_of X G a16, bd_of (F.binds (ps := [T "_law_some", T "_law_word_here", T "_law_classes_here"]) (fun _ _ _ _ _ _ us hl => match us, hl with | [_, _, _], _ => rfl)) rfl, ok_law_word_right, kb_no (by decide +kernel), rfl, a16⟩
   . have F := fun_mk (x := T "law") (qual := T "law") (st := top 23) l17 c17 k17
     exact ⟨_, _, _, F, PySem.W.mg_of X G a17, bd_of (F.binds (ps := [T "_law_script"]) (fun _ _ _ _ _ _ us hl => match us, hl with | [_], _ => rfl)) rfl, oklaw, kb_no (by decide +kernel), rfl, a17⟩
end K03
open PySem PySem.W PyProof.Rows
set_option maxRecDepth 100000 in
set_option maxHeartbeats 0 in
theorem PySem.Challenge.cw_metbefore_k03_whole_signs_of_sums_holds : PySem.Challenge.rw_metbefore_k03_whole_signs_of_sums.Holds := by
 w_on; o_law; k_head; (case hw => w_witness2)
 k_fill
 refine Ev.walk_ev (l := PySem.Challenge.rw_metbefore_k03_whole_signs_of_sums) (n := 63) (k := 6) (Tb := K03.defs) (XF := K03.XF) (BN := K03.BN) (GL := K03.GL) (KB := K03.KB) (x := "_law_script") (dl := K03.dlaw) (LN := K03.LN) rfl (by decide) rfl ⟨rfl, by decide, by decide⟩ (fun w h Y => PySem.W.kIn_of Y) K03.fdlaw rfl rfl rfl rfl (by kernel_rfl) (fun w => by kernel_rfl) ?F K03.law_t
 case F =>
  intro w mg h KX G
  refine' K03.tb_mk KX G ?a1 ?l1 ?c1 ?k1 ?a2 ?l2 ?c2 ?k2 ?a3 ?l3 ?c3 ?k3 ?a4 ?l4 ?c4 ?k4 ?a5 ?l5 ?c5 ?k5 ?a6 ?l6 ?c6 ?k6 ?a7 ?l7 ?c7 ?k7 ?a8 ?l8 ?c8 ?k8 ?a9 ?l9 ?c9 ?k9 ?a10 ?l10 ?c10 ?k10 ?a11 ?l11 ?c11 ?k11 ?a12 ?l12 ?c12 ?k12 ?a13 ?l13 ?c13 ?k13 ?a14 ?l14 ?c14 ?k14 ?a15 ?l15 ?c15 ?k15 ?a16 ?l16 ?c16 ?k16 ?a17 ?l17 ?c17 ?k17 ?z1 ?z2 ?z3 ?z4 ?z5 ?z6 ?z7 ?hkt
  (case a1 => k_is); (case l1 => k_is); (case c1 => k_is); (case k1 => k_is)
  (case a2 => k_is); (case l2 => k_is); (case c2 => k_is); (case k2 => k_is)
  (case a3 => k_is); (case l3 => k_is); (case c3 => k_is); (case k3 => k_is)
  (case a4 => k_is); (case l4 => k_is); (case c4 => k_is); (case k4 => k_is)
  (case a5 => k_is); (case l5 => k_is); (case c5 => k_is); (case k5 => k_is)
  (case a6 => k_is); (case l6 => k_is); (case c6 => k_is); (case k6 => k_is)
  (case a7 => k_is); (case l7 => k_is); (case c7 => k_is); (case k7 => k_is)
  (case a8 => k_is); (case l8 => k_is); (case c8 => k_is); (case k8 => k_is)
  (case a9 => k_is); (case l9 => k_is); (case c9 => k_is); (case k9 => k_is)
  (case a10 => k_is); (case l10 => k_is); (case c10 => k_is); (case k10 => k_is)
  (case a11 => k_is); (case l11 => k_is); (case c11 => k_is); (case k11 => k_is)
  (case a12 => k_is); (case l12 => k_is); (case c12 => k_is); (case k12 => k_is)
  (case a13 => k_is); (case l13 => k_is); (case c13 => k_is); (case k13 => k_is)
  (case a14 => k_is); (case l14 => k_is); (case c14 => k_is); (case k14 => k_is)
  (case a15 => k_is); (case l15 => k_is); (case c15 => k_is); (case k15 => k_is)
  (case a16 => k_is); (case l16 => k_is); (case c16 => k_is); (case k16 => k_is)
  (case a17 => k_is); (case l17 => k_is); (case c17 => k_is); (case k17 => k_is)
  (case z1 => k_is); (case z2 => k_is); (case z3 => k_is); (case z4 => k_is)
  (case z5 => k_is); (case z6 => k_is); (case z7 => k_is); (case hkt => exact Ev.kt_of KX (by kernel_rfl))
#print axioms PySem.Challenge.cw_metbefore_k03_whole_signs_of_sums_holds
