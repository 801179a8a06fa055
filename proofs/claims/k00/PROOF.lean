import PyProof.Rows.All
import HandS.List
import PyProof.EqLayable
import PyProof.FitsInt
import PyProof.ReprReads
import HandS.ForMost
import HandS.Exc
import HandS.Lambda
import PyProof.ListMulRoad
import PyProof.FactsAll.tuple_2
import HandS.TupAny
import HandS.TupMul
import HandS.Deep
import HandS.IsInst
import HandS.Evl
import HandS.Dict
import HandS.RaiseMore
import HandS.Flow
import HandS.Walk
import HandS.Iter
import PyProof.Rows.ReprR
import PyProof.Draws
import PyProof.EnumMake
import PyProof.WalksMore
import HandS.Zip
import HandS.GenOver
import HandS.AnyAll
import HandS.ExcInit
import KE.KSuperObj
import KE.KExcSuper
import HandS.ExcSuper
import HandS.TryMany
import HandS.ExcField
import HandS.EndTab
import HandS.HeadWalk
import HandS.HeadHook4
import HandS.Words
import HandS.Head0
import HandS.Head1
import HandS.Head2
import HandS.HeadEnd
import HandS.HeadHook1
import HandS.HeadHook2
import PySem.Challenge.RW_wordkinds_k00_whole_words_and_machines
set_option Elab.async false
set_option linter.all false
/-! W1: a small pure language Q: data, expressions, statements, what they do. -/
namespace Q
open PySem L2

/-- data: immutable, frozen (flag false) or owned (flag true) -/
inductive D where
  | non | bl (b : Bool) | int (i : Int) | str (x : Str)
  | tup (xs : List D)
  | lst (m : Bool) (xs : List D)
  | dic (m : Bool) (ks : List Key) (xs : List D)
  | xc (c : Nat) (fs : List D)
  deriving Inhabited

mutual
/-- nothing in it is owned -/
def D.frozen : D → Bool
  | .tup xs => D.frozens xs
  | .lst m xs => !m && D.frozens xs
  | .dic m _ xs => !m && D.frozens xs
  | .xc _ _ => false
  | _ => true
def D.frozens : List D → Bool
  | [] => true
  | x :: xs => D.frozen x && D.frozens xs
end
mutual
def D.frz : D → D
  | .tup xs => .tup (D.frzs xs)
  | .lst _ xs => .lst false (D.frzs xs)
  | .dic _ ks xs => .dic false ks (D.frzs xs)
  | d => d
def D.frzs : List D → List D
  | [] => []
  | x :: xs => D.frz x :: D.frzs xs
end
mutual
/-- as data of the library -/
def D.py : D → Option PyData
  | .non => some .none
  | .bl b => some (.bool b)
  | .int i => some (.int i)
  | .str x => some (.str x)
  | .tup xs => (D.pys xs).map .tuple
  | .lst _ xs => (D.pys xs).map .list
  | _ => none
def D.pys : List D → Option (List PyData)
  | [] => some []
  | x :: xs => match D.py x, D.pys xs with
    | some a, some b => some (a :: b)
    | _, _ => none
end

inductive BOp | add | sub | mul | fdiv | mod | pow
  deriving DecidableEq
inductive COp | eq | ne | lt | le | gt | ge | isn | notn | mem | nmem
  deriving DecidableEq
inductive Ty | tuple | int | bool | str | list
  deriving DecidableEq
inductive Bl | len | isin (t : Ty) | tupleOf | listOf | intOf
  deriving DecidableEq
/-- targets -/
inductive Tg | v (i : Nat) | t (l : List Tg)

mutual
inductive E where
  | c (d : D)
  | var (i : Nat) | move (i : Nat) | peek (i : Nat) | bidx (a k : E)
  | glob (d : D) (x : Str)
  | bin (o : BOp) (a b : E) | neg (a : E)
  | cmp (o : COp) (a b : E) | chn (o1 o2 : COp) (a b c : E)
  | and (a b : E) | or (a b : E) | not (a : E) | ifx (t a b : E)
  | tup (es : List E) | lst (es : List E) | dic (ks : List Key) (es : List E)
  | idx (a k : E) | sli (a : E) (lo hi : Option E) | rev (a : E)
  | frz (a : E)
  | call (f : Nat) (es : List E)
  | callL (f : Nat) (body : E) | act
  | blt (b : Bl) (es : List E)
  | likes (a b : E)
  | comp (own : List Nat) (t : Tg) (src : Src) (cond : Option E) (elt : E)
  | allg (u : Bool) (own : List Nat) (t : Tg) (src : Src) (elt : E)
  | fld (i : Nat) (f : Str)
  | never
/-- what a for walks -/
inductive Src where
  | e (a : E) | rng1 (a : E) | rng2 (a b : E) | enum (a : E) | zip (a b : E)
end

inductive S where
  | set (i : Nat) (e : E)
  | par (is : List Nat) (es : List E)
  | unp (t : Tg) (e : E)
  | put (b k e : E)
  | app (i : Nat) (e : E)
  | aug (i : Nat) (o : BOp) (e : E)
  | expr (e : E)
  | ifs (t : E) (a b : List S)
  | fors (t : Tg) (src : Src) (body : List S)
  | while (t : E) (body : List S)
  | ret (e : E) | retN
  | raise (c : Nat) (es : List E)
  | try (body : List S) (cs : List (Nat × Option Nat)) (suites : List (List S))
  | pass | brk | cont
  | frz (i : Nat) | del (i : Nat) | never

abbrev Sl := List (Option D)
inductive R (α : Type) where
  | ok (a : α)
  | exc (c : Nat) (fs : List D) (sl : Sl)
  | bad
def R.bind {α β : Type} (r : R α) (f : α → R β) : R β := match r with
  | .ok a => f a
  | .exc c fs sl => .exc c fs sl
  | .bad => .bad
/-- a value that may lack -/
def R.of {α : Type} : Option α → R α
  | some a => .ok a
  | none => .bad
inductive Fl | nx | brk | cont | ret (d : D)
/-- a call's end: the value, the shared arguments behind it -/
inductive CR
  | ok (d : D) (io : Option D)
  | exc (c : Nat) (fs : List D) (io : Option D)
  | bad

/-! ### operations on data -/
def truth : D → Option Bool
  | .non => some false
  | .bl b => some b
  | .int i => some (i != 0)
  | .tup xs => some (!xs.isEmpty)
  | .lst _ xs => some (!xs.isEmpty)
  | .dic true _ xs => some (!xs.isEmpty)
  | .str x => if x.length ≤ sizeLine then some (x.length != 0) else none
  | _ => none
def bin : BOp → D → D → Option D
  | .add, .int i, .int j => some (.int (i + j))
  | .add, .tup xs, .tup ys => if xs.length + ys.length ≤ sizeLine && D.frozens xs && D.frozens ys then some (.tup (xs ++ ys)) else none
  | .add, .lst _ xs, .lst _ ys => if xs.length + ys.length ≤ sizeLine && D.frozens xs && D.frozens ys then some (.lst true (xs ++ ys)) else none
  | .sub, .int i, .int j => some (.int (i - j))
  | .mul, .int i, .int j => if (-(2 ^ 64) < i && i < 2 ^ 64) || (-(2 ^ 64) < j && j < 2 ^ 64) then some (.int (i * j)) else none
  | .mul, .tup xs, .int j => if -(2 ^ 63) ≤ j && j < 2 ^ 63 && xs.length * j.toNat ≤ sizeLine && D.frozens xs then some (.tup (List.replicate j.toNat xs).flatten) else none
  | .mul, .lst true xs, .int j => if -(2 ^ 63) ≤ j && j < 2 ^ 63 && xs.length * j.toNat ≤ sizeLine && D.frozens xs then some (.lst true (List.replicate j.toNat xs).flatten) else none
  | .fdiv, .int i, .int j => if j ≠ 0 ∧ j.natAbs < 1073741824 then some (.int (i.fdiv j)) else none
  | .mod, .int i, .int j => if j ≠ 0 then some (.int (i.fmod j)) else none
  | .pow, .int i, .int j => if 0 ≤ j ∧ j ≤ 1000000 ∧ i.natAbs < 2 ^ 64 then some (.int (i ^ j.toNat)) else none
  | _, _, _ => none
def eqD (a b : D) : Option Bool := match a.py, b.py with
  | some p, some q => if SeqAt.shaped p && SeqAt.shaped q then some (PyData.eqv p q) else none
  | _, _ => none
def memD (a : D) (xs : List D) : Option Bool := match a.py, D.pys xs with
  | some p, some ps => if SeqAt.shaped p && SeqAt.shaped (.list ps) then some (ps.any fun z => PyData.eqv z p) else none
  | _, _ => none
def isNon : D → Bool
  | .non => true
  | _ => false
def cmp : COp → D → D → Option D
  | .eq, a, b => (eqD a b).map .bl
  | .ne, a, b => (eqD a b).map fun k => .bl (!k)
  | .lt, .int i, .int j => some (.bl (decide (i < j)))
  | .le, .int i, .int j => some (.bl (decide (i ≤ j)))
  | .gt, .int i, .int j => some (.bl (decide (j < i)))
  | .ge, .int i, .int j => some (.bl (decide (j ≤ i)))
  | .isn, a, .non => some (.bl (isNon a))
  | .notn, a, .non => some (.bl (!isNon a))
  | .mem, a, .tup xs => (memD a xs).map .bl
  | .mem, a, .lst _ xs => (memD a xs).map .bl
  | .nmem, a, .tup xs => (memD a xs).map fun k => .bl (!k)
  | .nmem, a, .lst _ xs => (memD a xs).map fun k => .bl (!k)
  | _, _, _ => none
def keyD : D → Option Key
  | .int i => some (.inl i)
  | .str x => some (.inr x)
  | _ => none
def look (k : Key) : List Key → List D → Option D
  | a :: ks, x :: xs => if k = a then some x else look k ks xs
  | _, _ => none
/-- a[k], the item as it stands -/
def item : D → D → Option D
  | .tup xs, .int i => atI xs i
  | .lst _ xs, .int i => atI xs i
  | .dic _ ks xs, k => (keyD k).bind fun k => look k ks xs
  | _, _ => none
/-- a[k] = v -/
def setKey (k : Key) (v : D) : List Key → List D → List Key × List D
  | a :: ks, x :: xs => if k = a then (a :: ks, v :: xs) else ((a :: (setKey k v ks xs).1), x :: (setKey k v ks xs).2)
  | ks, xs => (ks ++ [k], xs ++ [v])
def putItem : D → D → D → Option D
  | .lst true xs, .int i, v => (ixN xs.length i).map fun j => .lst true (xs.set j v)
  | .dic true ks xs, k, v => (keyD k).bind fun k => if ks.length < sizeLine then some (.dic true (setKey k v ks xs).1 (setKey k v ks xs).2) else none
  | _, _, _ => none
def cutD (xs : List D) (lo hi : Option Int) : List D := (xs.drop (HT.sIx xs.length 0 lo)).take (HT.sIx xs.length xs.length hi - HT.sIx xs.length 0 lo)
def slice : D → Option Int → Option Int → Option D
  | .tup xs, lo, hi => if D.frozens xs then some (.tup (cutD xs lo hi)) else none
  | .lst _ xs, lo, hi => if D.frozens xs then some (.lst true (cutD xs lo hi)) else none
  | _, _, _ => none
def revD : D → Option D
  | .tup xs => if D.frozens xs then some (.tup xs.reverse) else none
  | .lst _ xs => if D.frozens xs then some (.lst true xs.reverse) else none
  | _ => none
def isTy : Ty → D → Option Bool
  | t, .non => some false
  | t, .bl _ => some (t == .int || t == .bool)
  | t, .int _ => some (t == .int)
  | t, .str _ => some (t == .str)
  | t, .tup _ => some (t == .tuple)
  | t, .lst _ _ => some (t == .list)
  | _, _ => none
def blt : Bl → List D → Option D
  | .len, [.tup xs] => some (.int xs.length)
  | .len, [.lst _ xs] => some (.int xs.length)
  | .len, [.dic _ _ xs] => some (.int xs.length)
  | .len, [.str x] => if x.length ≤ sizeLine then some (.int x.length) else none
  | .isin t, [d] => (isTy t d).map .bl
  | .tupleOf, [.tup xs] => if D.frozens xs then some (.tup xs) else none
  | .tupleOf, [.lst _ xs] => if D.frozens xs then some (.tup xs) else none
  | .listOf, [.tup xs] => if D.frozens xs then some (.lst true xs) else none
  | .listOf, [.lst _ xs] => if D.frozens xs then some (.lst true xs) else none
  | .intOf, [.int i] => some (.int i)
  | _, _ => none
def isSeqD : D → Bool
  | .tup _ => true
  | .lst _ _ => true
  | _ => false
/-- repr of a list, a tuple -/
def shD (a : D) : Option Str := match a.py with
  | some p => if isSeqD a && p.showable && SeqAt.shaped p && decide (p.shown.length ≤ sizeLine) then some p.shown else none
  | none => none
/-- what a for walks over -/
def items : D → Option (List D)
  | .tup xs => if D.frozens xs then some xs else none
  | .lst false xs => some xs
  | _ => none
def rangeD (lo hi : Int) : List D := (List.range (hi - lo).toNat).map fun (i : Nat) => .int (lo + (i : Int))
def enumD (xs : List D) : List D := (List.range xs.length).zipWith (fun (i : Nat) x => D.tup [.int (i : Int), x]) xs
def small62 (i : Int) : Bool := -(2 ^ 62) ≤ i && i < 2 ^ 62

/-! ### slots -/
def getX (i : Nat) (sl : Sl) : Option D := (sl[i]?).bind id
/-- no exception -/
def noXc : D → Option D
  | .xc _ _ => none
  | d => some d
def get (i : Nat) (sl : Sl) : Option D := (getX i sl).bind noXc
mutual
def asg : Tg → D → Sl → Option Sl
  | .v i, d, sl => some (sl.set i (some d))
  | .t l, .tup xs, sl => asgs l xs sl
  | .t _, _, _ => none
def asgs : List Tg → List D → Sl → Option Sl
  | [], [], sl => some sl
  | t :: ts, d :: ds, sl => (asg t d sl).bind fun sl' => asgs ts ds sl'
  | _, _, _ => none
end
/-- the slots of the numbers forgotten -/
def wipeS (sl : Sl) : List Nat → Sl
  | [] => sl
  | v :: vs => (wipeS sl vs).set v none
/-- they stand empty -/
def clear (sl : Sl) (own : List Nat) : Bool := own.all fun v => (getX v sl).isNone
mutual
/-- the slots that a target sets -/
def Tg.slots : Tg → List Nat
  | .v i => [i]
  | .t l => Tg.slotss l
def Tg.slotss : List Tg → List Nat
  | [] => []
  | x :: xs => Tg.slots x ++ Tg.slotss xs
end

structure Fn where
  np : Nat
  ns : Nat
  io : Option Nat
  body : List S
  lmb : Bool := false
structure G where
  fns : Nat → Option Fn
  sub : Nat → Nat → Option Bool
  cfs : Nat → List Str
  fuel : Nat

/-- is it a peek -/
def E.pk : E → Bool
  | .peek _ => true
  | .bidx _ _ => true
  | _ => false
/-- the slot that a peek looks at -/
def E.root : E → Nat
  | .peek i => i
  | .bidx a _ => a.root
  | _ => 0

mutual
/-- it changes no slot and nothing that is owned -/
def E.pure : E → Bool
  | .c _ => true
  | .var _ => true
  | .peek _ => true
  | .bidx x y => E.pure x && E.pure y
  | .glob _ _ => true
  | .bin _ x y => E.pure x && E.pure y
  | .neg x => E.pure x
  | .cmp _ x y => E.pure x && E.pure y
  | .chn _ _ x y z => E.pure x && E.pure y && E.pure z
  | .and x y => E.pure x && E.pure y
  | .or x y => E.pure x && E.pure y
  | .not x => E.pure x
  | .ifx x y z => E.pure x && E.pure y && E.pure z
  | .tup es => E.pures es
  | .lst es => E.pures es
  | .dic _ es => E.pures es
  | .idx x y => E.pure x && E.pure y
  | .sli x y z => E.pure x && E.pureO y && E.pureO z
  | .rev x => E.pure x
  | .blt _ es => E.pures es
  | .likes x y => E.pure x && E.pure y
  | .fld _ _ => true
  | _ => false
def E.pures : List E → Bool
  | [] => true
  | e :: es => E.pure e && E.pures es
def E.pureO : Option E → Bool
  | none => true
  | some e => E.pure e
end
/-- an exception's field -/
def fldD (f : Str) : List Str → List D → Option D
  | a :: ns, x :: xs => if f = a then some x else fldD f ns xs
  | _, _ => none
/-- what is locked -/
def viewD : Option D → Option D
  | some d => if d.frozen then some d else none
  | none => none
def viewS (sl : Sl) : Sl := sl.map viewD
structure Below where
  call : Nat → List D → CR
  callL : Nat → ((Nat → List D → CR) → CR) → CR
  act : CR

/-- the shared argument of a call: the slot that it peeks at -/
def ioArg (io : Option Nat) (es : List E) : Option (Nat × Nat) := match io with
  | none => none
  | some j => match es[j]? with
    | some (.peek i) => some (j, i)
    | _ => none
/-- its value as it stands behind the arguments -/
def reread (sl : Sl) (o : Option (Nat × Nat)) (ds : List D) : Option (List D) := match o with
  | none => some ds
  | some (j, i) => (get i sl).map fun d => ds.set j d
def writeBack (sl : Sl) (o : Option (Nat × Nat)) (d : Option D) : Sl := match o, d with
  | some (_, i), some d => sl.set i (some d)
  | _, _ => sl

section
variable (g : G)
def exFor (t : Tg) (body : Sl → R (Fl × Sl)) : List D → Sl → R (Fl × Sl)
  | [], sl => .ok (.nx, sl)
  | d :: ds, sl => (R.of (asg t d sl)).bind fun sl1 => (body sl1).bind fun p => match p.1 with
    | .nx => exFor t body ds p.2
    | .cont => exFor t body ds p.2
    | .brk => .ok (.nx, p.2)
    | .ret v => .ok (.ret v, p.2)
def exWhile (test : Sl → R (Bool × Sl)) (body : Sl → R (Fl × Sl)) : Nat → Sl → R (Fl × Sl)
  | 0, _ => .bad
  | n + 1, sl => (test sl).bind fun p => match p.1 with
    | false => .ok (.nx, p.2)
    | true => (body p.2).bind fun q => match q.1 with
      | .nx => exWhile test body n q.2
      | .cont => exWhile test body n q.2
      | .brk => .ok (.nx, q.2)
      | .ret v => .ok (.ret v, q.2)
/-- a comprehension's items: those made so far ahead -/
def exComp (own : List Nat) (t : Tg) (cond : Sl → R (Bool × Sl)) (elt : Sl → R (D × Sl)) : List D → Sl → R (List D × Sl)
  | [], sl => .ok ([], sl)
  | d :: ds, sl => (R.of (asg t d (wipeS sl own))).bind fun sl1 => (cond sl1).bind fun p => match p.1 with
    | true => (elt p.2).bind fun q => if q.1.frozen then (exComp own t cond elt ds q.2).bind fun r => .ok (q.1 :: r.1, r.2) else .bad
    | false => exComp own t cond elt ds p.2
def exAll (u : Bool) (own : List Nat) (t : Tg) (elt : Sl → R (D × Sl)) : List D → Sl → R (Bool × Sl)
  | [], sl => .ok (u, sl)
  | d :: ds, sl => (R.of (asg t d (wipeS sl own))).bind fun sl1 => (elt sl1).bind fun q => match q.1 with
    | .bl k => if k = u then exAll u own t elt ds q.2 else .ok (k, q.2)
    | _ => .bad
/-- what a lambda's body is behind its call -/
def actOf : R (D × Sl) → CR
  | .ok p => .ok p.1 none
  | .exc c fs _ => .exc c fs none
  | .bad => .bad
def noExc {α : Type} : R α → R α
  | .exc _ _ _ => .bad
  | r => r

def afterCall (o : Option (Nat × Nat)) (sl : Sl) : CR → R (D × Sl)
  | .ok d io => .ok (d, writeBack sl o io)
  | .exc c fs io => .exc c fs (writeBack sl o io)
  | .bad => .bad

mutual
def ev (b : Below) : E → Sl → R (D × Sl)
  | .c d, sl => .ok (d, sl)
  | .var i, sl => (R.of (get i sl)).bind fun d => if d.frozen then .ok (d, sl) else .bad
  | .move i, sl => (R.of (get i sl)).bind fun d => .ok (d, sl.set i none)
  | .peek i, sl => (R.of (get i sl)).bind fun d => .ok (d, sl)
  | .bidx a k, sl => (ev b a sl).bind fun p => (ev b k p.2).bind fun q => (R.of (item p.1 q.1)).bind fun d => .ok (d, q.2)
  | .glob d _, sl => .ok (d, sl)
  | .bin o a c, sl => (ev b a sl).bind fun p => (ev b c p.2).bind fun q => (R.of (bin o p.1 q.1)).bind fun d => .ok (d, q.2)
  | .neg a, sl => (ev b a sl).bind fun p => match p.1 with
    | .int i => .ok (.int (-i), p.2)
    | _ => .bad
  | .cmp o a c, sl => (ev b a sl).bind fun p => (ev b c p.2).bind fun q => (R.of (cmp o p.1 q.1)).bind fun d => .ok (d, q.2)
  | .chn o1 o2 a c e, sl => (ev b a sl).bind fun p => (ev b c p.2).bind fun q => (R.of (cmp o1 p.1 q.1)).bind fun d => match d with
    | .bl true => (ev b e q.2).bind fun r => (R.of (cmp o2 q.1 r.1)).bind fun d2 => .ok (d2, r.2)
    | .bl false => .ok (.bl false, q.2)
    | _ => .bad
  | .and a c, sl => (ev b a sl).bind fun p => (R.of (truth p.1)).bind fun k => match k with
    | true => ev b c p.2
    | false => .ok p
  | .or a c, sl => (ev b a sl).bind fun p => (R.of (truth p.1)).bind fun k => match k with
    | false => ev b c p.2
    | true => .ok p
  | .not a, sl => (ev b a sl).bind fun p => (R.of (truth p.1)).bind fun k => .ok (.bl (!k), p.2)
  | .ifx t a c, sl => (ev b t sl).bind fun p => (R.of (truth p.1)).bind fun k => match k with
    | true => ev b a p.2
    | false => ev b c p.2
  | .tup es, sl => (evs b es sl).bind fun p => if p.1.length ≤ sizeLine then .ok (.tup p.1, p.2) else .bad
  | .lst es, sl => (evs b es sl).bind fun p => if p.1.length ≤ sizeLine then .ok (.lst true p.1, p.2) else .bad
  | .dic ks es, sl => (evs b es sl).bind fun p => .ok (.dic true ks p.1, p.2)
  | .idx a k, sl => (ev b a sl).bind fun p => (ev b k p.2).bind fun q => (R.of (item p.1 q.1)).bind fun d => if d.frozen then .ok (d, q.2) else .bad
  | .sli a lo hi, sl => (ev b a sl).bind fun p => (evo b lo p.2).bind fun q => (evo b hi q.2).bind fun r => (R.of (slice p.1 q.1 r.1)).bind fun d => .ok (d, r.2)
  | .rev a, sl => (ev b a sl).bind fun p => (R.of (revD p.1)).bind fun d => .ok (d, p.2)
  | .frz a, sl => (ev b a sl).bind fun p => .ok (p.1.frz, p.2)
  | .call f es, sl => (R.of (g.fns f)).bind fun F => (evs b es sl).bind fun p =>
      (R.of (reread p.2 (ioArg F.io es) p.1)).bind fun ds => afterCall (ioArg F.io es) p.2 (b.call f ds)
  | .callL f x, sl => afterCall none sl (b.callL f fun k => actOf (ev ⟨k, fun _ _ => .bad, .bad⟩ x (viewS sl)))
  | .act, sl => afterCall none sl b.act
  | .blt o es, sl => (evs b es sl).bind fun p => (R.of (blt o p.1)).bind fun d => .ok (d, p.2)
  | .likes a c, sl => (ev b a sl).bind fun p => (R.of (shD p.1)).bind fun s1 => (ev b c p.2).bind fun q => (R.of (shD q.1)).bind fun s2 => .ok (.bl (decide (s1 = s2)), q.2)
  | .comp own t src cond elt, sl => (evSrc b src sl).bind fun p =>
      if clear p.2 own then (noExc (exComp own t (evCond b cond) (ev b elt) p.1 p.2)).bind fun q => if q.1.length ≤ sizeLine then .ok (.lst true q.1, wipeS q.2 own) else .bad else .bad
  | .allg u own t src elt, sl => (evSrc b src sl).bind fun p =>
      if clear p.2 own then (noExc (exAll u own t (ev b elt) p.1 p.2)).bind fun q => .ok (.bl q.1, wipeS q.2 own) else .bad
  | .fld i f, sl => (R.of (getX i sl)).bind fun d => match d with
    | .xc c fs => (R.of (fldD f (g.cfs c) fs)).bind fun v => .ok (v, sl)
    | _ => .bad
  | .never, _ => .bad
def evs (b : Below) : List E → Sl → R (List D × Sl)
  | [], sl => .ok ([], sl)
  | e :: es, sl => (ev b e sl).bind fun p => (evs b es p.2).bind fun q => .ok (p.1 :: q.1, q.2)
def evo (b : Below) : Option E → Sl → R (Option Int × Sl)
  | none, sl => .ok (none, sl)
  | some e, sl => (ev b e sl).bind fun p => match p.1 with
    | .int i => .ok (some i, p.2)
    | _ => .bad
def evCond (b : Below) : Option E → Sl → R (Bool × Sl)
  | none, sl => .ok (true, sl)
  | some e, sl => (ev b e sl).bind fun p => (R.of (truth p.1)).bind fun k => .ok (k, p.2)
def evSrc (b : Below) : Src → Sl → R (List D × Sl)
  | .rng1 a, sl => (ev b a sl).bind fun p => match p.1 with
    | .int j => if small62 j then .ok (rangeD 0 j, p.2) else .bad
    | _ => .bad
  | .rng2 a c, sl => (ev b a sl).bind fun p => (ev b c p.2).bind fun q => match p.1, q.1 with
    | .int i, .int j => if small62 i && small62 j then .ok (rangeD i j, q.2) else .bad
    | _, _ => .bad
  | .enum a, sl => (ev b a sl).bind fun p => (R.of (items p.1)).bind fun xs => .ok (enumD xs, p.2)
  | .zip a c, sl => (ev b a sl).bind fun p => (ev b c p.2).bind fun q => (R.of (items p.1)).bind fun xs => (R.of (items q.1)).bind fun ys =>
      .ok (List.zipWith (fun x y => .tup [x, y]) xs ys, q.2)
  | .e a, sl => (ev b a sl).bind fun p => (R.of (items p.1)).bind fun xs => .ok (xs, p.2)
end

section
variable (b : Below)
/-- what stands at a peek becomes another -/
def pkPut : E → D → Sl → Option Sl
  | .peek i, d, sl => some (sl.set i (some d))
  | .bidx a k, d, sl => match ev g b a sl with
    | .ok p => match ev g b k p.2 with
      | .ok q => (putItem p.1 q.1 d).bind fun d' => pkPut a d' sl
      | _ => none
    | _ => none
  | _, _, _ => none
def appD : D → D → Option D
  | .lst true xs, d => if xs.length < sizeLine then some (.lst true (xs ++ [d])) else none
  | _, _ => none
def setAll : List Nat → List D → Sl → Option Sl
  | [], [], sl => some sl
  | i :: is, d :: ds, sl => setAll is ds (sl.set i (some d))
  | _, _, _ => none
def unset : Option Nat → Sl → Sl
  | none, sl => sl
  | some i, sl => sl.set i none
def inR : Option Nat → Sl → Bool
  | none, _ => true
  | some i, sl => decide (i < sl.length)
def setX : Option Nat → D → Sl → Sl
  | none, _, sl => sl
  | some i, d, sl => sl.set i (some d)
mutual
def ex : S → Sl → R (Fl × Sl)
  | .set i e, sl => (ev g b e sl).bind fun p => .ok (.nx, p.2.set i (some p.1))
  | .par is es, sl => (evs g b es sl).bind fun p => (R.of (setAll is p.1 p.2)).bind fun s => .ok (.nx, s)
  | .unp t e, sl => (ev g b e sl).bind fun p => if p.1.frozen then (R.of (asg t p.1 p.2)).bind fun s => .ok (.nx, s) else .bad
  | .put c k e, sl => (ev g b e sl).bind fun p => (ev g b c p.2).bind fun q => (ev g b k q.2).bind fun r =>
      (R.of (putItem q.1 r.1 p.1)).bind fun d => (R.of (pkPut g b c d r.2)).bind fun s => .ok (.nx, s)
  | .app i e, sl => (R.of (get i sl)).bind fun d0 => match d0 with
    | .lst true _ => (ev g b e sl).bind fun p => (R.of (get i p.2)).bind fun d => (R.of (appD d p.1)).bind fun d' => .ok (.nx, p.2.set i (some d'))
    | _ => .bad
  | .aug i o e, sl => (R.of (get i sl)).bind fun d => (ev g b e sl).bind fun p => match d, p.1 with
    | .int x, .int y => (R.of (bin o (.int x) (.int y))).bind fun z => .ok (.nx, p.2.set i (some z))
    | _, _ => .bad
  | .expr e, sl => (ev g b e sl).bind fun p => .ok (.nx, p.2)
  | .ifs t x y, sl => (ev g b t sl).bind fun p => (R.of (truth p.1)).bind fun k => match k with
    | true => exs x p.2
    | false => exs y p.2
  | .fors t src body, sl => (evSrc g b src sl).bind fun p => exFor t (exs body) p.1 p.2
  | .while t body, sl => exWhile (evCond g b (some t)) (exs body) g.fuel sl
  | .ret e, sl => (ev g b e sl).bind fun p => .ok (.ret p.1, p.2)
  | .retN, sl => .ok (.ret .non, sl)
  | .raise c es, sl => (evs g b es sl).bind fun p => if D.frozens p.1 then .exc c p.1 p.2 else .bad
  | .try body cs suites, sl => match exs body sl with
    | .exc c fs sl1 => exH c fs sl1 cs suites
    | r => r
  | .pass, sl => .ok (.nx, sl)
  | .brk, sl => .ok (.brk, sl)
  | .cont, sl => .ok (.cont, sl)
  | .frz i, sl => (R.of (get i sl)).bind fun d => .ok (.nx, sl.set i (some d.frz))
  | .del i, sl => .ok (.nx, sl.set i none)
  | .never, _ => .bad
def exs : List S → Sl → R (Fl × Sl)
  | [], sl => .ok (.nx, sl)
  | s :: ss, sl => (ex s sl).bind fun p => match p.1 with
    | .nx => exs ss p.2
    | f => .ok (f, p.2)
/-- the clauses, one after another -/
def exH (c : Nat) (fs : List D) (sl : Sl) : List (Nat × Option Nat) → List (List S) → R (Fl × Sl)
  | (k, i) :: cs, suite :: suites => match g.sub c k with
    | some true => if inR i sl then (noExc (exs suite (setX i (.xc c fs) sl))).bind fun p => .ok (p.1, unset i p.2) else .bad
    | some false => exH c fs sl cs suites
    | none => .bad
  | _, _ => .exc c fs sl
end
end
end

/-! ### calls -/
/-- a call's end; the shared argument as it stands -/
def endCR (io : Option Nat) (sl : Sl) (k : Option D → CR) : CR := match io with
  | none => k none
  | some j => match get j sl with
    | some d => k (some d)
    | none => .bad
def bodyEnd (io : Option Nat) : R (Fl × Sl) → CR
  | .ok (.ret d, sl) => endCR io sl (.ok d)
  | .ok (.nx, sl) => endCR io sl (.ok .non)
  | .ok _ => .bad
  | .exc c fs sl => endCR io sl (.exc c fs)
  | .bad => .bad
def startS (ns : Nat) (ds : List (Option D)) : Sl := ds ++ List.replicate (ns - ds.length) none
def callF (g : G) (b : Below) (f : Nat) (ds : List D) : CR := match g.fns f with
  | none => .bad
  | some F => if ds.length = F.np ∧ F.lmb = false then bodyEnd F.io (exs g b F.body (startS F.ns (ds.map some))) else .bad
def callLF (g : G) (b : Below) (f : Nat) (a : (Nat → List D → CR) → CR) : CR := match g.fns f with
  | none => .bad
  | some F => if F.io = none ∧ F.lmb = true then bodyEnd F.io (exs g { b with act := a b.call } F.body (startS F.ns [none])) else .bad
def belowN (g : G) : Nat → Below
  | 0 => ⟨fun _ _ => .bad, fun _ _ => .bad, .bad⟩
  | n + 1 => ⟨callF g (belowN g n), callLF g (belowN g n), .bad⟩
namespace Snd
@[scoped simp] theorem bind_def {α β : Type} (r : R α) (f : α → R β) : r.bind f = match r with
  | .ok a => f a
  | .exc c fs sl => .exc c fs sl
  | .bad => .bad := rfl
@[scoped simp] theorem of_def {α : Type} (o : Option α) : R.of o = match o with
  | some a => .ok a
  | none => .bad := rfl
end Snd
end Q

set_option maxRecDepth 100000
set_option linter.all false
namespace Q
def b_is_whole : List S := [.ret (.and (.blt (.isin .int) [.var 0]) (.not (.blt (.isin .bool) [.var 0])))]
def F_is_whole : Fn := ⟨1, 1, none, b_is_whole, false⟩
def b_is_number : List S := [.ret (.and (.call 0 [.var 0]) (.chn .le .le (.var 1) (.var 0) (.var 2)))]
def F_is_number : Fn := ⟨3, 3, none, b_is_number, false⟩
def g_is_word_1 : E := .call 1 [.var 2, .c (.int 0), .bin .sub (.var 1) (.c (.int 1))]
def b_is_word : List S := [.ifs (.or (.not (.blt (.isin .tuple) [.var 0])) (.cmp .gt (.blt .len [.var 0]) (.glob (.int 2000) "LONGEST_WORD"))) [.ret (.c (.bl false))] [], .ret (.allg true [2] (.v 2) (.e (.var 0)) g_is_word_1)]
def F_is_word : Fn := ⟨2, 3, none, b_is_word, false⟩
def b_need_word : List S := [.ifs (.not (.call 2 [.var 0, .var 1])) [.raise 1 [.var 0]] [], .ret (.var 0)]
def F_need_word : Fn := ⟨2, 2, none, b_need_word, false⟩
def l_wrong_steps_1 : List S := [.ifs (.not (.call 1 [.var 5, .c (.int 0), .bin .sub (.blt .len [.var 0]) (.c (.int 1))])) [.ret (.frz (.tup [.var 2, .var 4]))] []]
def l_wrong_steps_2 : List S := [.ifs (.or (.not (.blt (.isin .tuple) [.var 3])) (.cmp .ne (.blt .len [.var 3]) (.var 1))) [.ret (.frz (.tup [.var 2]))] [], .fors (.t [.v 4, .v 5]) (.enum (.var 3)) l_wrong_steps_1]
def b_wrong_steps : List S := [.ifs (.or (.not (.blt (.isin .tuple) [.var 0])) (.not (.chn .le .le (.c (.int 1)) (.blt .len [.var 0]) (.glob (.int 60) "MOST_STATES")))) [.ret (.frz (.tup []))] [], .fors (.t [.v 2, .v 3]) (.enum (.var 0)) l_wrong_steps_2, .ret (.c .non)]
def F_wrong_steps : Fn := ⟨2, 6, none, b_wrong_steps, false⟩
def l_wrong_lets_1 : List S := [.ifs (.or (.not (.call 1 [.var 3, .c (.int 0), .bin .sub (.var 1) (.c (.int 1))])) (.and (.cmp .gt (.var 2) (.c (.int 0))) (.cmp .ge (.idx (.var 0) (.bin .sub (.var 2) (.c (.int 1)))) (.var 3)))) [.ret (.frz (.tup [.var 2]))] []]
def b_wrong_lets : List S := [.ifs (.not (.blt (.isin .tuple) [.var 0])) [.ret (.frz (.tup []))] [], .fors (.t [.v 2, .v 3]) (.enum (.var 0)) l_wrong_lets_1, .ret (.c .non)]
def F_wrong_lets : Fn := ⟨2, 4, none, b_wrong_lets, false⟩
def b_wrong_machine : List S := [.ifs (.or (.not (.blt (.isin .tuple) [.var 0])) (.cmp .ne (.blt .len [.var 0]) (.c (.int 3)))) [.ret (.frz (.tup []))] [], .ifs (.not (.call 1 [.idx (.var 0) (.c (.int 0)), .c (.int 1), .glob (.int 4) "MOST_LETTERS"])) [.ret (.frz (.tup [.c (.int 0)]))] [], .set 1 (.call 4 [.idx (.var 0) (.c (.int 1)), .idx (.var 0) (.c (.int 0))]), .ifs (.cmp .notn (.var 1) (.c .non)) [.ret (.frz (.bin .add (.tup [.c (.int 1)]) (.var 1)))] [], .set 1 (.call 5 [.idx (.var 0) (.c (.int 2)), .blt .len [.idx (.var 0) (.c (.int 1))]]), .ret (.ifx (.cmp .isn (.var 1) (.c .non)) (.c .non) (.frz (.bin .add (.tup [.c (.int 2)]) (.var 1))))]
def F_wrong_machine : Fn := ⟨1, 2, none, b_wrong_machine, false⟩
def b_need_machine : List S := [.set 1 (.call 6 [.var 0]), .ifs (.cmp .notn (.var 1) (.c .non)) [.raise 2 [.var 1]] [], .ret (.var 0)]
def F_need_machine : Fn := ⟨1, 2, none, b_need_machine, false⟩
def l_end_from_1 : List S := [.set 1 (.idx (.idx (.var 0) (.var 1)) (.var 3))]
def b_end_from : List S := [.fors (.v 3) (.e (.var 2)) l_end_from_1, .ret (.var 1)]
def F_end_from : Fn := ⟨3, 4, none, b_end_from, false⟩
def b_lets_so : List S := [.ret (.cmp .mem (.call 8 [.idx (.var 0) (.c (.int 1)), .c (.int 0), .var 1]) (.idx (.var 0) (.c (.int 2))))]
def F_lets_so : Fn := ⟨2, 2, none, b_lets_so, false⟩
def b_end_of : List S := [.expr (.call 7 [.var 0]), .ret (.call 8 [.idx (.var 0) (.c (.int 1)), .c (.int 0), .call 3 [.var 1, .idx (.var 0) (.c (.int 0))]])]
def F_end_of : Fn := ⟨2, 2, none, b_end_of, false⟩
def b_lets : List S := [.expr (.call 7 [.var 0]), .ret (.call 9 [.var 0, .call 3 [.var 1, .idx (.var 0) (.c (.int 0))]])]
def F_lets : Fn := ⟨2, 2, none, b_lets, false⟩
def c__law_begin_1 : E := .ifx (.cmp .ge (.var 2) (.bin .pow (.c (.int 10)) (.c (.int 18)))) (.var 2) (.c (.int 0))
def b__law_begin : List S := [.set 1 (.ifx (.cmp .ne (.var 0) (.lst [])) (.frz (.blt .listOf [.var 0])) (.frz (.lst [.c (.int 0)]))), .ret (.dic [(.inr "cells"), (.inr "lefts"), (.inr "at")] [.var 1, .comp [2] (.v 2) (.e (.var 1)) none c__law_begin_1, .c (.int 0)])]
def F__law_begin : Fn := ⟨1, 3, none, b__law_begin, false⟩
def b__law_mixed : List S := [.set 0 (.bin .mod (.blt .intOf [.var 0]) (.c (.int 2147483647))), .ret (.bin .mod (.bin .mul (.bin .mod (.bin .add (.bin .add (.bin .mul (.var 0) (.bin .add (.c (.int 48271)) (.bin .mul (.bin .mul (.c (.int 2)) (.var 1)) (.var 1)))) (.bin .mul (.c (.int 69621)) (.var 1))) (.c (.int 11))) (.c (.int 2147483647))) (.c (.int 69621))) (.c (.int 2147483629)))]
def F__law_mixed : Fn := ⟨2, 2, none, b__law_mixed, false⟩
def b__law_draw : List S := [.set 2 (.idx (.peek 0) (.c (.str "at"))), .put (.peek 0) (.c (.str "at")) (.bin .add (.var 2) (.c (.int 1))), .set 3 (.bin .mod (.blt .intOf [.var 2]) (.blt .len [.idx (.peek 0) (.c (.str "cells"))])), .set 4 (.idx (.bidx (.peek 0) (.c (.str "lefts"))) (.var 3)), .ifs (.cmp .gt (.var 4) (.c (.int 0))) [.put (.bidx (.peek 0) (.c (.str "lefts"))) (.var 3) (.bin .fdiv (.var 4) (.var 1)), .ret (.bin .mod (.blt .intOf [.var 4]) (.var 1))] [], .set 5 (.call 13 [.call 13 [.idx (.bidx (.peek 0) (.c (.str "cells"))) (.var 3), .var 2], .bin .add (.c (.int 40)) (.var 2)]), .ret (.bin .mod (.bin .fdiv (.blt .intOf [.bin .add (.bin .mul (.var 5) (.c (.int 2147483647))) (.call 13 [.var 5, .bin .add (.c (.int 7)) (.var 2)])]) (.c (.int 64))) (.var 1))]
def F__law_draw : Fn := ⟨2, 6, some 0, b__law_draw, false⟩
def b__law_of : List S := [.ret (.idx (.var 1) (.call 14 [.peek 0, .blt .len [.var 1]]))]
def F__law_of : Fn := ⟨2, 2, some 0, b__law_of, false⟩
def c__law_machine_1 : E := .call 14 [.peek 0, .var 3]
def l__law_machine_1 : List S := [.app 4 (.blt .tupleOf [.comp [6] (.v 6) (.rng1 (.var 1)) none c__law_machine_1])]
def q__law_machine_1 : E := .cmp .eq (.call 14 [.peek 0, .c (.int 2)]) (.c (.int 0))
def c__law_machine_2 : E := .var 5
def b__law_machine : List S := [.set 3 (.bin .add (.c (.int 1)) (.call 14 [.peek 0, .var 2])), .set 4 (.lst []), .fors (.v 5) (.rng1 (.var 3)) l__law_machine_1, .del 5, .ret (.frz (.tup [.var 1, .blt .tupleOf [.peek 4], .blt .tupleOf [.comp [5] (.v 5) (.rng1 (.var 3)) (some q__law_machine_1) c__law_machine_2]]))]
def F__law_machine : Fn := ⟨3, 7, some 0, b__law_machine, false⟩
def c__law_word_1 : E := .call 14 [.peek 0, .var 1]
def b__law_word : List S := [.ret (.blt .tupleOf [.comp [3] (.v 3) (.rng1 (.call 14 [.peek 0, .bin .add (.var 2) (.c (.int 1))])) none c__law_word_1])]
def F__law_word : Fn := ⟨3, 4, some 0, b__law_word, false⟩
def b__law_like : List S := [.ret (.likes (.var 0) (.var 1))]
def F__law_like : Fn := ⟨2, 2, none, b__law_like, false⟩
def l__law_end_1 : List S := [.set 3 (.idx (.idx (.idx (.var 0) (.c (.int 1))) (.var 3)) (.var 4))]
def b__law_end : List S := [.set 3 (.var 1), .fors (.v 4) (.e (.var 2)) l__law_end_1, .ret (.var 3)]
def F__law_end : Fn := ⟨3, 5, none, b__law_end, false⟩
def b__law_lets : List S := [.ret (.cmp .mem (.call 19 [.var 0, .c (.int 0), .var 1]) (.idx (.var 0) (.c (.int 2))))]
def F__law_lets : Fn := ⟨2, 2, none, b__law_lets, false⟩
def b__law_caught : List S := [.set 1 (.c .non), .try [.set 1 (.frz (.lst [.c (.str "told"), .act]))] [(2, some 2), (1, some 2)] [[.set 1 (.frz (.lst [.c (.str "machine"), .fld 2 "place"]))], [.set 1 (.frz (.lst [.c (.str "word"), .fld 2 "value"]))]], .ret (.var 1)]
def F__law_caught : Fn := ⟨1, 3, none, b__law_caught, true⟩
def b__law_odd : List S := [.unp (.t [.v 2, .v 3, .v 4]) (.var 1), .set 5 (.blt .len [.var 3]), .par [6, 7] [.call 14 [.peek 0, .var 5], .call 14 [.peek 0, .var 2]], .set 8 (.call 15 [.peek 0, .frz (.lst [.var 5, .neg (.c (.int 1)), .c .non, .c (.bl true), .c (.str "0"), .frz (.tup [.c (.int 0)]), .frz (.lst [.c (.int 0)])])]), .set 9 (.frz (.bin .add (.bin .add (.frz (.sli (.idx (.var 3) (.var 6)) none (some (.var 7)))) (.tup [.var 8])) (.bin .mul (.tup [.c .non]) (.bin .sub (.bin .sub (.var 2) (.var 7)) (.c (.int 1)))))), .set 10 (.lst [.frz (.tup [.c .non, .frz (.tup [])]), .frz (.tup [.frz (.tup [.var 2, .var 3]), .frz (.tup [])]), .frz (.tup [.frz (.lst [.var 2, .var 3, .var 4]), .frz (.tup [])]), .frz (.tup [.frz (.tup [.c (.int 0), .c .non, .c .non]), .frz (.tup [.c (.int 0)])]), .frz (.tup [.frz (.tup [.c (.int 5), .var 3, .var 4]), .frz (.tup [.c (.int 0)])])]), .set 10 (.bin .add (.move 10) (.lst [.frz (.tup [.frz (.tup [.c (.bl true), .var 3, .var 4]), .frz (.tup [.c (.int 0)])]), .frz (.tup [.frz (.tup [.var 2, .frz (.tup []), .c .non]), .frz (.tup [.c (.int 1)])]), .frz (.tup [.frz (.tup [.var 2, .frz (.blt .listOf [.var 3]), .var 4]), .frz (.tup [.c (.int 1)])])])), .set 10 (.bin .add (.move 10) (.lst [.frz (.tup [.frz (.tup [.var 2, .frz (.bin .mul (.tup [.frz (.bin .mul (.tup [.c (.int 0)]) (.var 2))]) (.c (.int 61))), .var 4]), .frz (.tup [.c (.int 1)])]), .frz (.tup [.frz (.tup [.var 2, .frz (.bin .add (.bin .add (.frz (.sli (.var 3) none (some (.var 6)))) (.tup [.c .non])) (.frz (.sli (.var 3) (some (.bin .add (.var 6) (.c (.int 1)))) none))), .c .non]), .frz (.tup [.c (.int 1), .var 6])])])), .set 10 (.bin .add (.move 10) (.lst [.frz (.tup [.frz (.tup [.var 2, .frz (.bin .add (.bin .add (.frz (.sli (.var 3) none (some (.var 6)))) (.tup [.frz (.bin .add (.idx (.var 3) (.var 6)) (.tup [.c (.int 0)]))])) (.frz (.sli (.var 3) (some (.bin .add (.var 6) (.c (.int 1)))) none))), .c .non]), .frz (.tup [.c (.int 1), .var 6])])])), .set 10 (.bin .add (.move 10) (.bin .mul (.lst [.frz (.tup [.frz (.tup [.var 2, .frz (.bin .add (.bin .add (.frz (.sli (.var 3) none (some (.var 6)))) (.tup [.var 9])) (.bin .mul (.tup [.c .non]) (.bin .sub (.bin .sub (.var 5) (.var 6)) (.c (.int 1))))), .c .non]), .frz (.tup [.c (.int 1), .var 6, .var 7])])]) (.c (.int 3)))), .set 10 (.bin .add (.move 10) (.lst [.frz (.tup [.frz (.tup [.var 2, .var 3, .c .non]), .frz (.tup [.c (.int 2)])]), .frz (.tup [.frz (.tup [.var 2, .var 3, .frz (.blt .listOf [.var 4])]), .frz (.tup [.c (.int 2)])]), .frz (.tup [.frz (.tup [.var 2, .var 3, .frz (.tup [.var 8])]), .frz (.tup [.c (.int 2), .c (.int 0)])])])), .set 10 (.bin .add (.move 10) (.lst [.frz (.tup [.frz (.tup [.var 2, .var 3, .frz (.bin .add (.var 4) (.tup [.var 5]))]), .frz (.tup [.c (.int 2), .blt .len [.var 4]])])])), .ifs (.cmp .ne (.var 4) (.tup [])) [.set 10 (.bin .add (.move 10) (.bin .mul (.lst [.frz (.tup [.frz (.tup [.var 2, .var 3, .frz (.bin .add (.bin .add (.var 4) (.frz (.sli (.var 4) (some (.neg (.c (.int 1)))) none))) (.tup [.c .non]))]), .frz (.tup [.c (.int 2), .blt .len [.var 4]])])]) (.c (.int 2))))] [], .ifs (.cmp .gt (.blt .len [.var 4]) (.c (.int 1))) [.app 10 (.frz (.tup [.frz (.tup [.var 2, .var 3, .frz (.rev (.var 4))]), .frz (.tup [.c (.int 2), .c (.int 1)])]))] [], .ret (.call 15 [.peek 0, .frz (.move 10)])]
def F__law_odd : Fn := ⟨2, 11, some 0, b__law_odd, false⟩
def l_law_1 : List S := [.set 5 (.call 17 [.peek 1, .idx (.var 3) (.c (.int 0)), .c (.int 9)]), .set 6 (.frz (.lst [.call 10 [.var 3, .var 5], .call 11 [.var 3, .var 5]])), .ifs (.not (.call 18 [.var 6, .frz (.lst [.call 19 [.var 3, .c (.int 0), .var 5], .call 20 [.var 3, .var 5]])])) [.ret (.c (.bl false))] []]
def l_law_2 : List S := [.set 3 (.call 16 [.peek 1, .bin .add (.c (.int 1)) (.call 14 [.peek 1, .c (.int 4)]), .c (.int 7)]), .fors (.v 4) (.rng1 (.c (.int 4))) l_law_1, .ifs (.not (.call 18 [.call 7 [.var 3], .var 3])) [.ret (.c (.bl false))] [], .unp (.t [.v 7, .v 8]) (.call 22 [.peek 1, .var 3]), .set 9 (.call 15 [.peek 1, .frz (.lst [.c .non, .frz (.lst [.c (.int 0)]), .frz (.tup [.idx (.var 3) (.c (.int 0))]), .frz (.tup [.neg (.c (.int 1))]), .frz (.tup [.c (.bl true)]), .frz (.tup [.c (.str "0")]), .frz (.bin .mul (.tup [.c (.int 0)]) (.c (.int 2001))), .c (.int 0), .frz (.tup [.c .non, .c (.int 0)])])]), .set 6 (.frz (.lst [.callL 21 (.call 7 [.var 7]), .callL 21 (.call 10 [.var 7, .var 9]), .callL 21 (.call 11 [.var 7, .c .non])])), .set 6 (.frz (.bin .add (.var 6) (.lst [.callL 21 (.call 10 [.var 3, .var 9]), .callL 21 (.call 11 [.var 3, .var 9])]))), .ifs (.not (.call 18 [.var 6, .frz (.bin .add (.bin .mul (.lst [.frz (.lst [.c (.str "machine"), .var 8])]) (.c (.int 3))) (.bin .mul (.lst [.frz (.lst [.c (.str "word"), .var 9])]) (.c (.int 2))))])) [.ret (.c (.bl false))] []]
def b_law : List S := [.set 1 (.call 12 [.var 0]), .fors (.v 2) (.rng1 (.c (.int 3))) l_law_2, .set 10 (.frz (.tup [.c (.int 1), .frz (.tup [.frz (.tup [.c (.int 1)]), .frz (.tup [.c (.int 0)])]), .frz (.tup [.c (.int 0)])])), .ret (.call 18 [.frz (.lst [.call 11 [.var 10, .frz (.bin .mul (.tup [.c (.int 0)]) (.c (.int 2000)))], .call 11 [.var 10, .frz (.bin .mul (.tup [.c (.int 0)]) (.c (.int 1999)))]]), .frz (.lst [.c (.bl true), .c (.bl false)])])]
def F_law : Fn := ⟨1, 11, none, b_law, false⟩
end Q

set_option Elab.async false
set_option linter.all false
set_option maxRecDepth 100000
set_option maxHeartbeats 4000000
/-! M1: how a Q text is run by hand. -/
namespace Q
namespace Run
open PySem L2

/-- it ends well -/
def Wp {α : Type} (r : R α) (Z : α → Prop) : Prop := ∃ a, r = .ok a ∧ Z a
theorem Wp.mono {α : Type} {r : R α} {Y Z : α → Prop} (h : Wp r Y) (i : ∀ a, Y a → Z a) : Wp r Z := by
  obtain ⟨a, e, y⟩ := h
  exact ⟨a, e, i a y⟩
theorem Wp.eq {α : Type} {r : R α} {a : α} {Z : α → Prop} (e : r = .ok a) (z : Z a) : Wp r Z := ⟨a, e, z⟩
@[scoped simp] theorem Wp_ok {α : Type} {a : α} {Z : α → Prop} : Wp (.ok a) Z ↔ Z a := ⟨fun ⟨_, e, z⟩ => by cases e; exact z, fun z => ⟨a, rfl, z⟩⟩
@[scoped simp] theorem Wp_bind {α β : Type} {r : R α} {f : α → R β} {Z : β → Prop} : Wp (r.bind f) Z ↔ Wp r fun a => Wp (f a) Z := by
  constructor
  · rintro ⟨b, e, z⟩
    cases r with
    | ok a => exact ⟨a, rfl, b, e, z⟩
    | exc c fs sl => cases e
    | bad => cases e
  · rintro ⟨a, rfl, h⟩
    exact h
@[scoped simp] theorem Wp_noExc {α : Type} {r : R α} {Z : α → Prop} : Wp (noExc r) Z ↔ Wp r Z := by
  cases r with
  | ok a => exact Iff.rfl
  | exc c fs sl => exact ⟨fun ⟨_, e, _⟩ => (by cases e), fun ⟨_, e, _⟩ => (by cases e)⟩
  | bad => exact Iff.rfl
/-- the loop: an invariant, by how many were walked -/
theorem for_inv {t : Tg} {body : Sl → R (Fl × Sl)} {Z : Fl × Sl → Prop} (I : Nat → Sl → Prop) : ∀ {xs : List D} {k : Nat} {sl : Sl},
    I k sl → (∀ j d sl, xs[j]? = some d → I (k + j) sl → Wp (R.of (asg t d sl)) fun sl1 => Wp (body sl1) fun p => match p.1 with
      | .nx => I (k + j + 1) p.2
      | .cont => I (k + j + 1) p.2
      | .brk => Z (.nx, p.2)
      | .ret v => Z (.ret v, p.2)) → (∀ sl, I (k + xs.length) sl → Z (.nx, sl)) → Wp (exFor t body xs sl) Z
  | [], k, sl, h, _, he => by
    show Wp (.ok (.nx, sl)) Z
    exact Wp_ok.mpr (he sl h)
  | x :: xs, k, sl, h, hs, he => by
    show Wp ((R.of (asg t x sl)).bind _) Z
    refine Wp_bind.mpr ((hs 0 x sl rfl h).mono fun sl1 h1 => Wp_bind.mpr (h1.mono fun p hp => ?_))
    have next : ∀ sl2, I (k + 0 + 1) sl2 → Wp (exFor t body xs sl2) Z := fun sl2 h2 => by
      refine for_inv I h2 (fun j d sl e hj => ?_) fun sl hl => he sl ?_
      · have := hs (j + 1) d sl (by simpa using e)
        simp only [show k + (j + 1) = k + 0 + 1 + j by omega] at this
        exact this hj
      · rw [List.length_cons]
        rw [show k + (xs.length + 1) = k + 0 + 1 + xs.length by omega]
        exact hl
    obtain ⟨f, s⟩ := p
    cases f with
    | nx => exact next s hp
    | cont => exact next s hp
    | brk => exact Wp_ok.mpr hp
    | ret v => exact Wp_ok.mpr hp
/-- a comprehension: what was made so far -/
theorem comp_inv {own : List Nat} {t : Tg} {cond : Sl → R (Bool × Sl)} {elt : Sl → R (D × Sl)} {Z : List D × Sl → Prop} (I : Nat → List D → Sl → Prop) : ∀ {xs : List D} {k : Nat} {acc : List D} {sl : Sl},
    I k acc sl → (∀ j d acc sl, xs[j]? = some d → I (k + j) acc sl → Wp (R.of (asg t d (wipeS sl own))) fun sl1 => Wp (cond sl1) fun p => match p.1 with
      | true => Wp (elt p.2) fun q => q.1.frozen = true ∧ I (k + j + 1) (acc ++ [q.1]) q.2
      | false => I (k + j + 1) acc p.2) → (∀ ys sl, I (k + xs.length) (acc ++ ys) sl → Z (ys, sl)) → Wp (exComp own t cond elt xs sl) Z
  | [], k, acc, sl, h, _, he => by
    show Wp (.ok ([], sl)) Z
    exact Wp_ok.mpr (he [] sl (by rw [List.append_nil]; exact h))
  | x :: xs, k, acc, sl, h, hs, he => by
    show Wp ((R.of (asg t x (wipeS sl own))).bind _) Z
    refine Wp_bind.mpr ((hs 0 x acc sl rfl h).mono fun sl1 h1 => Wp_bind.mpr (h1.mono fun p hp => ?_))
    have next : ∀ acc2 sl2 (Y : List D × Sl → Prop), (∀ ys sl, I (k + 0 + 1 + xs.length) (acc2 ++ ys) sl → Y (ys, sl)) → I (k + 0 + 1) acc2 sl2 → Wp (exComp own t cond elt xs sl2) Y := fun acc2 sl2 Y hY h2 => by
      refine comp_inv I h2 (fun j d acc sl e hj => ?_) hY
      have := hs (j + 1) d acc sl (by simpa using e)
      simp only [show k + (j + 1) = k + 0 + 1 + j by omega] at this
      exact this hj
    obtain ⟨f, s⟩ := p
    have el : k + (x :: xs).length = k + 0 + 1 + xs.length := by rw [List.length_cons]; omega
    cases f with
    | true =>
      refine Wp_bind.mpr (Wp.mono hp fun q hq => ?_)
      rw [if_pos hq.1]
      refine Wp_bind.mpr (next _ _ _ (fun ys sl hl => Wp_ok.mpr (he (q.1 :: ys) sl ?_)) hq.2)
      rw [el, show acc ++ q.1 :: ys = acc ++ [q.1] ++ ys by simp]
      exact hl
    | false => exact next acc s Z (fun ys sl hl => he ys sl (by rw [el]; exact hl)) hp
/-- all, any -/
theorem all_inv {u : Bool} {own : List Nat} {t : Tg} {elt : Sl → R (D × Sl)} {Z : Bool × Sl → Prop} (I : Nat → Sl → Prop) : ∀ {xs : List D} {k : Nat} {sl : Sl},
    I k sl → (∀ j d sl, xs[j]? = some d → I (k + j) sl → Wp (R.of (asg t d (wipeS sl own))) fun sl1 => Wp (elt sl1) fun q => ∃ b, q.1 = .bl b ∧ (b = u → I (k + j + 1) q.2) ∧ (b ≠ u → Z (b, q.2))) → (∀ sl, I (k + xs.length) sl → Z (u, sl)) → Wp (exAll u own t elt xs sl) Z
  | [], k, sl, h, _, he => by
    show Wp (.ok (u, sl)) Z
    exact Wp_ok.mpr (he sl h)
  | x :: xs, k, sl, h, hs, he => by
    show Wp ((R.of (asg t x (wipeS sl own))).bind _) Z
    refine Wp_bind.mpr ((hs 0 x sl rfl h).mono fun sl1 h1 => Wp_bind.mpr (h1.mono fun p hp => ?_))
    obtain ⟨f, s⟩ := p
    obtain ⟨b, rfl, h1, h2⟩ := hp
    show Wp (if b = u then exAll u own t elt xs s else .ok (b, s)) Z
    by_cases e : b = u
    · rw [if_pos e]
      refine all_inv I (h1 e) (fun j d sl e hj => ?_) fun sl hl => he sl ?_
      · have := hs (j + 1) d sl (by simpa using e)
        simp only [show k + (j + 1) = k + 0 + 1 + j by omega] at this
        exact this hj
      · rw [List.length_cons, show k + (xs.length + 1) = k + 0 + 1 + xs.length by omega]
        exact hl
    · rw [if_neg e]
      exact Wp_ok.mpr (h2 e)
theorem while_inv {test : Sl → R (Bool × Sl)} {body : Sl → R (Fl × Sl)} {Z : Fl × Sl → Prop} (I : Nat → Sl → Prop) : ∀ {n k : Nat} {sl : Sl},
    I k sl → k < n → (∀ k sl, I k sl → Wp (test sl) fun p => match p.1 with
      | false => Z (.nx, p.2)
      | true => 0 < k ∧ Wp (body p.2) fun q => match q.1 with
        | .nx => ∃ j, j < k ∧ I j q.2
        | .cont => ∃ j, j < k ∧ I j q.2
        | .brk => Z (.nx, q.2)
        | .ret v => Z (.ret v, q.2)) → Wp (exWhile test body n sl) Z
  | 0, k, sl, h, hk, _ => absurd hk (Nat.not_lt_zero _)
  | n + 1, k, sl, h, hk, hs => by
    show Wp ((test sl).bind _) Z
    refine Wp_bind.mpr ((hs k sl h).mono fun p hp => ?_)
    obtain ⟨b, s⟩ := p
    cases b with
    | false => exact Wp_ok.mpr hp
    | true =>
      obtain ⟨h0, hp⟩ := hp
      refine Wp_bind.mpr (Wp.mono hp fun q hq => ?_)
      have next : ∀ sl2, (∃ j, j < k ∧ I j sl2) → Wp (exWhile test body n sl2) Z := fun sl2 ⟨j, hj, h2⟩ => while_inv I h2 (by omega) hs
      obtain ⟨f, s⟩ := q
      cases f with
      | nx => exact next s hq
      | cont => exact next s hq
      | brk => exact Wp_ok.mpr hq
      | ret v => exact Wp_ok.mpr hq
/-- a call, by its body -/
theorem call_by {g : G} {n f : Nat} {F : Fn} {ds : List D} {r : CR} (hf : g.fns f = some F) (hn : ds.length = F.np) (hl : F.lmb = false) (h : Wp (exs g (belowN g n) F.body (startS F.ns (ds.map some))) fun p => bodyEnd F.io (.ok p) = r) : (belowN g (n + 1)).call f ds = r := by
  show callF g (belowN g n) f ds = r
  unfold callF
  rw [hf]
  simp only
  rw [if_pos ⟨hn, hl⟩]
  obtain ⟨p, e, z⟩ := h
  rw [e]
  exact z
theorem call_ex {α : Type} {g : G} {n f : Nat} {F : Fn} {ds : List D} {r : α → CR} {Z : α → Prop} (hf : g.fns f = some F) (hn : ds.length = F.np) (hl : F.lmb = false) (h : Wp (exs g (belowN g n) F.body (startS F.ns (ds.map some))) fun p => ∃ a, Z a ∧ bodyEnd F.io (.ok p) = r a) : ∃ a, Z a ∧ (belowN g (n + 1)).call f ds = r a := by
  obtain ⟨p, e, a, z, h⟩ := h
  exact ⟨a, z, call_by hf hn hl ⟨p, e, h⟩⟩

/-- what range walks; kept shut, so that its bound is never reckoned -/
def rngR (p : D × Sl) : R (List D × Sl) := match p.1 with
  | .int j => if small62 j then .ok (rangeD 0 j, p.2) else .bad
  | _ => .bad
def rngR2 (a : D) (q : D × Sl) : R (List D × Sl) := match a, q.1 with
  | .int i, .int j => if small62 i && small62 j then .ok (rangeD i j, q.2) else .bad
  | _, _ => .bad
def small40 (k : Nat) : Prop := k < 2 ^ 40
theorem small_nat {k : Nat} (h : small40 k) : small62 (k : Int) = true := by
  unfold small40 at h
  simp [small62]
  omega
theorem rngR_nat {k : Nat} {sl : Sl} (h : small40 k) : rngR (.int (k : Int), sl) = .ok ((List.range k).map fun (i : Nat) => .int (i : Int), sl) := by
  unfold rngR rangeD
  simp only
  rw [if_pos (small_nat h), show ((k : Int) - 0).toNat = k by omega]
  simp
theorem rngR2_nat {a k : Nat} {sl : Sl} (h1 : small40 a) (h2 : small40 k) : rngR2 (.int (a : Int)) (.int (k : Int), sl) = .ok ((List.range (k - a)).map fun (i : Nat) => .int ((a + i : Nat) : Int), sl) := by
  unfold rngR2 rangeD
  simp only
  rw [if_pos (by rw [small_nat h1, small_nat h2]; rfl), show ((k : Int) - (a : Int)).toNat = k - a by omega]
  simp
/-- a call with a lambda; kept shut -/
def lamR (g : G) (b : Below) (f : Nat) (x : E) (sl : Sl) : CR := b.callL f fun k => actOf (ev g ⟨k, fun _ _ => .bad, .bad⟩ x (viewS sl))
/-! ### the equations, for simp -/
section
set_option autoImplicit true
variable {g : G} {b : Below}
@[scoped simp] theorem ev_c0 : ev g b (.c d) sl = .ok (d, sl) := by first | (rw [ev]; done) | (rw [ev]; rfl)
@[scoped simp] theorem ev_var1 : ev g b (.var i) sl = (R.of (get i sl)).bind fun d => if d.frozen then .ok (d, sl) else .bad := by first | (rw [ev]; done) | (rw [ev]; rfl)
@[scoped simp] theorem ev_move2 : ev g b (.move i) sl = (R.of (get i sl)).bind fun d => .ok (d, sl.set i none) := by first | (rw [ev]; done) | (rw [ev]; rfl)
@[scoped simp] theorem ev_peek3 : ev g b (.peek i) sl = (R.of (get i sl)).bind fun d => .ok (d, sl) := by first | (rw [ev]; done) | (rw [ev]; rfl)
@[scoped simp] theorem ev_bidx4 : ev g b (.bidx a k) sl = (ev g b a sl).bind fun p => (ev g b k p.2).bind fun q => (R.of (item p.1 q.1)).bind fun d => .ok (d, q.2) := by first | (rw [ev]; done) | (rw [ev]; rfl)
@[scoped simp] theorem ev_glob5 : ev g b (.glob d x) sl = .ok (d, sl) := by first | (rw [ev]; done) | (rw [ev]; rfl)
@[scoped simp] theorem ev_bin6 : ev g b (.bin o a c) sl = (ev g b a sl).bind fun p => (ev g b c p.2).bind fun q => (R.of (bin o p.1 q.1)).bind fun d => .ok (d, q.2) := by first | (rw [ev]; done) | (rw [ev]; rfl)
@[scoped simp] theorem ev_neg7 : ev g b (.neg a) sl = (ev g b a sl).bind fun p => match p.1 with
    | .int i => .ok (.int (-i), p.2)
    | _ => .bad := by first | (rw [ev]; done) | (rw [ev]; rfl)
@[scoped simp] theorem ev_cmp8 : ev g b (.cmp o a c) sl = (ev g b a sl).bind fun p => (ev g b c p.2).bind fun q => (R.of (cmp o p.1 q.1)).bind fun d => .ok (d, q.2) := by first | (rw [ev]; done) | (rw [ev]; rfl)
@[scoped simp] theorem ev_chn9 : ev g b (.chn o1 o2 a c e) sl = (ev g b a sl).bind fun p => (ev g b c p.2).bind fun q => (R.of (cmp o1 p.1 q.1)).bind fun d => match d with
    | .bl true => (ev g b e q.2).bind fun r => (R.of (cmp o2 q.1 r.1)).bind fun d2 => .ok (d2, r.2)
    | .bl false => .ok (.bl false, q.2)
    | _ => .bad := by first | (rw [ev]; done) | (rw [ev]; rfl)
@[scoped simp] theorem ev_and10 : ev g b (.and a c) sl = (ev g b a sl).bind fun p => (R.of (truth p.1)).bind fun k => match k with
    | true => ev g b c p.2
    | false => .ok p := by first | (rw [ev]; done) | (rw [ev]; rfl)
@[scoped simp] theorem ev_or11 : ev g b (.or a c) sl = (ev g b a sl).bind fun p => (R.of (truth p.1)).bind fun k => match k with
    | false => ev g b c p.2
    | true => .ok p := by first | (rw [ev]; done) | (rw [ev]; rfl)
@[scoped simp] theorem ev_not12 : ev g b (.not a) sl = (ev g b a sl).bind fun p => (R.of (truth p.1)).bind fun k => .ok (.bl (!k), p.2) := by first | (rw [ev]; done) | (rw [ev]; rfl)
@[scoped simp] theorem ev_ifx13 : ev g b (.ifx t a c) sl = (ev g b t sl).bind fun p => (R.of (truth p.1)).bind fun k => match k with
    | true => ev g b a p.2
    | false => ev g b c p.2 := by first | (rw [ev]; done) | (rw [ev]; rfl)
@[scoped simp] theorem ev_tup14 : ev g b (.tup es) sl = (evs g b es sl).bind fun p => if p.1.length ≤ sizeLine then .ok (.tup p.1, p.2) else .bad := by first | (rw [ev]; done) | (rw [ev]; rfl)
@[scoped simp] theorem ev_lst15 : ev g b (.lst es) sl = (evs g b es sl).bind fun p => if p.1.length ≤ sizeLine then .ok (.lst true p.1, p.2) else .bad := by first | (rw [ev]; done) | (rw [ev]; rfl)
@[scoped simp] theorem ev_dic16 : ev g b (.dic ks es) sl = (evs g b es sl).bind fun p => .ok (.dic true ks p.1, p.2) := by first | (rw [ev]; done) | (rw [ev]; rfl)
@[scoped simp] theorem ev_idx17 : ev g b (.idx a k) sl = (ev g b a sl).bind fun p => (ev g b k p.2).bind fun q => (R.of (item p.1 q.1)).bind fun d => if d.frozen then .ok (d, q.2) else .bad := by first | (rw [ev]; done) | (rw [ev]; rfl)
@[scoped simp] theorem ev_sli18 : ev g b (.sli a lo hi) sl = (ev g b a sl).bind fun p => (evo g b lo p.2).bind fun q => (evo g b hi q.2).bind fun r => (R.of (slice p.1 q.1 r.1)).bind fun d => .ok (d, r.2) := by first | (rw [ev]; done) | (rw [ev]; rfl)
@[scoped simp] theorem ev_rev19 : ev g b (.rev a) sl = (ev g b a sl).bind fun p => (R.of (revD p.1)).bind fun d => .ok (d, p.2) := by first | (rw [ev]; done) | (rw [ev]; rfl)
@[scoped simp] theorem ev_frz20 : ev g b (.frz a) sl = (ev g b a sl).bind fun p => .ok (p.1.frz, p.2) := by first | (rw [ev]; done) | (rw [ev]; rfl)
@[scoped simp] theorem ev_call21 : ev g b (.call f es) sl = (R.of (g.fns f)).bind fun F => (evs g b es sl).bind fun p =>
      (R.of (reread p.2 (ioArg F.io es) p.1)).bind fun ds => afterCall (ioArg F.io es) p.2 (b.call f ds) := by first | (rw [ev]; done) | (rw [ev]; rfl)
@[scoped simp] theorem ev_callL : ev g b (.callL f x) sl = afterCall none sl (lamR g b f x sl) := by rw [ev]; rfl
@[scoped simp] theorem ev_act23 : ev g b (.act) sl = afterCall none sl b.act := by first | (rw [ev]; done) | (rw [ev]; rfl)
@[scoped simp] theorem ev_blt24 : ev g b (.blt o es) sl = (evs g b es sl).bind fun p => (R.of (blt o p.1)).bind fun d => .ok (d, p.2) := by first | (rw [ev]; done) | (rw [ev]; rfl)
@[scoped simp] theorem ev_likes25 : ev g b (.likes a c) sl = (ev g b a sl).bind fun p => (R.of (shD p.1)).bind fun s1 => (ev g b c p.2).bind fun q => (R.of (shD q.1)).bind fun s2 => .ok (.bl (decide (s1 = s2)), q.2) := by first | (rw [ev]; done) | (rw [ev]; rfl)
@[scoped simp] theorem ev_comp26 : ev g b (.comp own t src cnd elt) sl = (evSrc g b src sl).bind fun p =>
      if clear p.2 own then (noExc (exComp own t (evCond g b cnd) (ev g b elt) p.1 p.2)).bind fun q => if q.1.length ≤ sizeLine then .ok (.lst true q.1, wipeS q.2 own) else .bad else .bad := by first | (rw [ev]; done) | (rw [ev]; rfl)
@[scoped simp] theorem ev_allg27 : ev g b (.allg u own t src elt) sl = (evSrc g b src sl).bind fun p =>
      if clear p.2 own then (noExc (exAll u own t (ev g b elt) p.1 p.2)).bind fun q => .ok (.bl q.1, wipeS q.2 own) else .bad := by first | (rw [ev]; done) | (rw [ev]; rfl)
@[scoped simp] theorem ev_fld28 : ev g b (.fld i f) sl = (R.of (getX i sl)).bind fun d => match d with
    | .xc c fs => (R.of (fldD f (g.cfs c) fs)).bind fun v => .ok (v, sl)
    | _ => .bad := by first | (rw [ev]; done) | (rw [ev]; rfl)
@[scoped simp] theorem ev_never29 : ev g b (.never) sl = .bad := by first | (rw [ev]; done) | (rw [ev]; rfl)
@[scoped simp] theorem evs_nil0 : evs g b [] sl = .ok ([], sl) := by first | (rw [evs]; done) | (rw [evs]; rfl)
@[scoped simp] theorem evs_e1 : evs g b (e :: es) sl = (ev g b e sl).bind fun p => (evs g b es p.2).bind fun q => .ok (p.1 :: q.1, q.2) := by first | (rw [evs]; done) | (rw [evs]; rfl)
@[scoped simp] theorem evo_none0 : evo g b none sl = .ok (none, sl) := by first | (rw [evo]; done) | (rw [evo]; rfl)
@[scoped simp] theorem evo_some1 : evo g b (some e) sl = (ev g b e sl).bind fun p => match p.1 with
    | .int i => .ok (some i, p.2)
    | _ => .bad := by first | (rw [evo]; done) | (rw [evo]; rfl)
@[scoped simp] theorem evCond_none0 : evCond g b none sl = .ok (true, sl) := by first | (rw [evCond]; done) | (rw [evCond]; rfl)
@[scoped simp] theorem evCond_some1 : evCond g b (some e) sl = (ev g b e sl).bind fun p => (R.of (truth p.1)).bind fun k => .ok (k, p.2) := by first | (rw [evCond]; done) | (rw [evCond]; rfl)
@[scoped simp] theorem evSrc_rng1 : evSrc g b (.rng1 a) sl = (ev g b a sl).bind rngR := by first | (rw [evSrc]; done) | (rw [evSrc]; rfl)
@[scoped simp] theorem evSrc_rng2 : evSrc g b (.rng2 a c) sl = (ev g b a sl).bind fun p => (ev g b c p.2).bind fun q => rngR2 p.1 q := by first | (rw [evSrc]; done) | (rw [evSrc]; rfl)
@[scoped simp] theorem evSrc_enum2 : evSrc g b (.enum a) sl = (ev g b a sl).bind fun p => (R.of (items p.1)).bind fun xs => .ok (enumD xs, p.2) := by first | (rw [evSrc]; done) | (rw [evSrc]; rfl)
@[scoped simp] theorem evSrc_zip3 : evSrc g b (.zip a c) sl = (ev g b a sl).bind fun p => (ev g b c p.2).bind fun q => (R.of (items p.1)).bind fun xs => (R.of (items q.1)).bind fun ys =>
      .ok (List.zipWith (fun x y => .tup [x, y]) xs ys, q.2) := by first | (rw [evSrc]; done) | (rw [evSrc]; rfl)
@[scoped simp] theorem evSrc_e4 : evSrc g b (.e a) sl = (ev g b a sl).bind fun p => (R.of (items p.1)).bind fun xs => .ok (xs, p.2) := by first | (rw [evSrc]; done) | (rw [evSrc]; rfl)
@[scoped simp] theorem ex_set0 : ex g b (.set i e) sl = (ev g b e sl).bind fun p => .ok (.nx, p.2.set i (some p.1)) := by first | (rw [ex]; done) | (rw [ex]; rfl)
@[scoped simp] theorem ex_par1 : ex g b (.par is es) sl = (evs g b es sl).bind fun p => (R.of (setAll is p.1 p.2)).bind fun s => .ok (.nx, s) := by first | (rw [ex]; done) | (rw [ex]; rfl)
@[scoped simp] theorem ex_unp2 : ex g b (.unp t e) sl = (ev g b e sl).bind fun p => if p.1.frozen then (R.of (asg t p.1 p.2)).bind fun s => .ok (.nx, s) else .bad := by first | (rw [ex]; done) | (rw [ex]; rfl)
@[scoped simp] theorem ex_put3 : ex g b (.put c k e) sl = (ev g b e sl).bind fun p => (ev g b c p.2).bind fun q => (ev g b k q.2).bind fun r =>
      (R.of (putItem q.1 r.1 p.1)).bind fun d => (R.of (pkPut g b c d r.2)).bind fun s => .ok (.nx, s) := by first | (rw [ex]; done) | (rw [ex]; rfl)
@[scoped simp] theorem ex_app4 : ex g b (.app i e) sl = (R.of (get i sl)).bind fun d0 => match d0 with
    | .lst true _ => (ev g b e sl).bind fun p => (R.of (get i p.2)).bind fun d => (R.of (appD d p.1)).bind fun d' => .ok (.nx, p.2.set i (some d'))
    | _ => .bad := by first | (rw [ex]; done) | (rw [ex]; rfl)
@[scoped simp] theorem ex_aug5 : ex g b (.aug i o e) sl = (R.of (get i sl)).bind fun d => (ev g b e sl).bind fun p => match d, p.1 with
    | .int x, .int y => (R.of (bin o (.int x) (.int y))).bind fun z => .ok (.nx, p.2.set i (some z))
    | _, _ => .bad := by first | (rw [ex]; done) | (rw [ex]; rfl)
@[scoped simp] theorem ex_expr6 : ex g b (.expr e) sl = (ev g b e sl).bind fun p => .ok (.nx, p.2) := by first | (rw [ex]; done) | (rw [ex]; rfl)
@[scoped simp] theorem ex_ifs7 : ex g b (.ifs t x y) sl = (ev g b t sl).bind fun p => (R.of (truth p.1)).bind fun k => match k with
    | true => exs g b x p.2
    | false => exs g b y p.2 := by first | (rw [ex]; done) | (rw [ex]; rfl)
@[scoped simp] theorem ex_fors8 : ex g b (.fors t src body) sl = (evSrc g b src sl).bind fun p => exFor t (exs g b body) p.1 p.2 := by first | (rw [ex]; done) | (rw [ex]; rfl)
@[scoped simp] theorem ex_while9 : ex g b (.while t body) sl = exWhile (evCond g b (some t)) (exs g b body) g.fuel sl := by first | (rw [ex]; done) | (rw [ex]; rfl)
@[scoped simp] theorem ex_ret10 : ex g b (.ret e) sl = (ev g b e sl).bind fun p => .ok (.ret p.1, p.2) := by first | (rw [ex]; done) | (rw [ex]; rfl)
@[scoped simp] theorem ex_retN11 : ex g b (.retN) sl = .ok (.ret .non, sl) := by first | (rw [ex]; done) | (rw [ex]; rfl)
@[scoped simp] theorem ex_raise12 : ex g b (.raise c es) sl = (evs g b es sl).bind fun p => if D.frozens p.1 then .exc c p.1 p.2 else .bad := by first | (rw [ex]; done) | (rw [ex]; rfl)
@[scoped simp] theorem ex_try13 : ex g b (.try body cs suites) sl = match exs g b body sl with
    | .exc c fs sl1 => exH g b c fs sl1 cs suites
    | r => r := by first | (rw [ex]; done) | (rw [ex]; rfl)
@[scoped simp] theorem ex_pass14 : ex g b (.pass) sl = .ok (.nx, sl) := by first | (rw [ex]; done) | (rw [ex]; rfl)
@[scoped simp] theorem ex_brk15 : ex g b (.brk) sl = .ok (.brk, sl) := by first | (rw [ex]; done) | (rw [ex]; rfl)
@[scoped simp] theorem ex_cont16 : ex g b (.cont) sl = .ok (.cont, sl) := by first | (rw [ex]; done) | (rw [ex]; rfl)
@[scoped simp] theorem ex_frz17 : ex g b (.frz i) sl = (R.of (get i sl)).bind fun d => .ok (.nx, sl.set i (some d.frz)) := by first | (rw [ex]; done) | (rw [ex]; rfl)
@[scoped simp] theorem ex_del18 : ex g b (.del i) sl = .ok (.nx, sl.set i none) := by first | (rw [ex]; done) | (rw [ex]; rfl)
@[scoped simp] theorem ex_never19 : ex g b (.never) sl = .bad := by first | (rw [ex]; done) | (rw [ex]; rfl)
@[scoped simp] theorem exs_nil0 : exs g b [] sl = .ok (.nx, sl) := by first | (rw [exs]; done) | (rw [exs]; rfl)
@[scoped simp] theorem exs_s1 : exs g b (s :: ss) sl = (ex g b s sl).bind fun p => match p.1 with
    | .nx => exs g b ss p.2
    | f => .ok (f, p.2) := by first | (rw [exs]; done) | (rw [exs]; rfl)

@[scoped simp] theorem get_zero : get 0 (some d :: sl) = noXc d := id rfl
@[scoped simp] theorem get_succ : get (i + 1) (x :: sl) = get i sl := id rfl
@[scoped simp] theorem getX_zero : getX 0 (x :: sl) = x := id rfl
@[scoped simp] theorem getX_succ : getX (i + 1) (x :: sl) = getX i sl := id rfl
@[scoped simp] theorem noXc_non : noXc .non = some .non := id rfl
@[scoped simp] theorem noXc_bl : noXc (.bl c) = some (.bl c) := id rfl
@[scoped simp] theorem noXc_int : noXc (.int c) = some (.int c) := id rfl
@[scoped simp] theorem noXc_str : noXc (.str c) = some (.str c) := id rfl
@[scoped simp] theorem noXc_tup : noXc (.tup c) = some (.tup c) := id rfl
@[scoped simp] theorem noXc_lst : noXc (.lst m c) = some (.lst m c) := id rfl
@[scoped simp] theorem noXc_dic : noXc (.dic m k c) = some (.dic m k c) := id rfl
@[scoped simp] theorem fzn_non : D.frozen .non = true := id rfl
@[scoped simp] theorem fzn_bl : D.frozen (.bl c) = true := id rfl
@[scoped simp] theorem fzn_int : D.frozen (.int c) = true := id rfl
@[scoped simp] theorem fzn_str : D.frozen (.str c) = true := id rfl
@[scoped simp] theorem fzn_tup : D.frozen (.tup c) = D.frozens c := by simp [D.frozen]
@[scoped simp] theorem fzn_lst : D.frozen (.lst m c) = (!m && D.frozens c) := by simp [D.frozen]
@[scoped simp] theorem fzn_dic : D.frozen (.dic m ks c) = (!m && D.frozens c) := by simp [D.frozen]
@[scoped simp] theorem fzs_nil : D.frozens [] = true := id rfl
@[scoped simp] theorem fzs_cons : D.frozens (x :: xs) = (x.frozen && D.frozens xs) := by simp [D.frozens]
@[scoped simp] theorem frz_tup : D.frz (.tup c) = .tup (D.frzs c) := by rw [D.frz]
@[scoped simp] theorem frz_lst : D.frz (.lst m c) = .lst false (D.frzs c) := by rw [D.frz]
@[scoped simp] theorem frz_int : D.frz (.int c) = .int c := id rfl
@[scoped simp] theorem frz_non : D.frz .non = .non := id rfl
@[scoped simp] theorem frz_bl : D.frz (.bl c) = .bl c := id rfl
@[scoped simp] theorem frz_str : D.frz (.str c) = .str c := id rfl
@[scoped simp] theorem frzs_nil : D.frzs [] = [] := id rfl
@[scoped simp] theorem frzs_cons : D.frzs (x :: xs) = x.frz :: D.frzs xs := by rw [D.frzs]
@[scoped simp] theorem wipeS_nil : wipeS sl [] = sl := id rfl
@[scoped simp] theorem wipeS_cons : wipeS sl (v :: vs) = (wipeS sl vs).set v none := id rfl
@[scoped simp] theorem asg_v : asg (.v i) d sl = some (sl.set i (some d)) := by simp [asg]
@[scoped simp] theorem asg_t : asg (.t l) (.tup xs) sl = asgs l xs sl := by simp [asg]
@[scoped simp] theorem asgs_nil : asgs [] [] sl = some sl := by simp [asgs]
@[scoped simp] theorem asgs_cons : asgs (t :: ts) (d :: ds) sl = (asg t d sl).bind fun sl' => asgs ts ds sl' := by simp [asgs]
@[scoped simp] theorem setAll_nil : setAll [] [] sl = some sl := id rfl
@[scoped simp] theorem setAll_cons : setAll (i :: is) (d :: ds) sl = setAll is ds (sl.set i (some d)) := id rfl
@[scoped simp] theorem ioArg_none : ioArg none es = none := id rfl
@[scoped simp] theorem ioArg_0 : ioArg (some 0) (.peek i :: es) = some (0, i) := id rfl
@[scoped simp] theorem reread_none : reread sl none ds = some ds := id rfl
@[scoped simp] theorem reread_some : reread sl (some (j, i)) ds = (get i sl).map fun d => ds.set j d := id rfl
@[scoped simp] theorem writeBack_n1 : writeBack sl none d = sl := by cases d <;> rfl
@[scoped simp] theorem writeBack_n2 : writeBack sl o none = sl := by cases o <;> rfl
@[scoped simp] theorem writeBack_some : writeBack sl (some (j, i)) (some d) = sl.set i (some d) := id rfl
@[scoped simp] theorem afterCall_ok : afterCall o sl (.ok d io) = .ok (d, writeBack sl o io) := id rfl
@[scoped simp] theorem afterCall_exc : afterCall o sl (.exc c fs io) = .exc c fs (writeBack sl o io) := id rfl
@[scoped simp] theorem endCR_none' : endCR none sl k = k none := id rfl
@[scoped simp] theorem endCR_some : endCR (some j) sl k = (match get j sl with | some d => k (some d) | none => .bad) := id rfl
@[scoped simp] theorem bodyEnd_ret : bodyEnd io (.ok (.ret d, sl)) = endCR io sl (.ok d) := id rfl
@[scoped simp] theorem bodyEnd_nx : bodyEnd io (.ok (.nx, sl)) = endCR io sl (.ok .non) := id rfl
@[scoped simp] theorem bodyEnd_exc : bodyEnd io (.exc c fs sl) = endCR io sl (.exc c fs) := id rfl
@[scoped simp] theorem startS_def : startS ns ds = ds ++ List.replicate (ns - ds.length) none := id rfl
@[scoped simp] theorem keyD_int : keyD (.int i) = some (.inl i) := id rfl
@[scoped simp] theorem keyD_str : keyD (.str i) = some (.inr i) := id rfl
@[scoped simp] theorem item_tup : item (.tup xs) (.int i) = atI xs i := id rfl
@[scoped simp] theorem item_lst : item (.lst m xs) (.int i) = atI xs i := id rfl
@[scoped simp] theorem item_dic : item (.dic m ks xs) k = (keyD k).bind fun k => look k ks xs := id rfl
@[scoped simp] theorem truth_non : truth .non = some false := id rfl
@[scoped simp] theorem truth_bl : truth (.bl c) = some c := id rfl
@[scoped simp] theorem truth_int : truth (.int i) = some (i != 0) := id rfl
@[scoped simp] theorem noExc_ok {α : Type} {a : α} : noExc (.ok a) = .ok a := id rfl
@[scoped simp] theorem bind_ok {α β : Type} {a : α} {f : α → R β} : (R.ok a).bind f = f a := id rfl
@[scoped simp] theorem bind_exc {α β : Type} {f : α → R β} : (R.exc c fs sl : R α).bind f = .exc c fs sl := id rfl
@[scoped simp] theorem of_some {α : Type} {a : α} : R.of (some a) = .ok a := id rfl
@[scoped simp] theorem blt_len_tup : blt .len [.tup xs] = some (.int xs.length) := id rfl
@[scoped simp] theorem blt_len_lst : blt .len [.lst m xs] = some (.int xs.length) := id rfl
@[scoped simp] theorem blt_isin : blt (.isin t) [d] = (isTy t d).map .bl := id rfl
@[scoped simp] theorem blt_intOf : blt .intOf [.int i] = some (.int i) := id rfl
@[scoped simp] theorem blt_tupleOf_tup : blt .tupleOf [.tup xs] = if D.frozens xs then some (.tup xs) else none := id rfl
@[scoped simp] theorem blt_tupleOf_lst : blt .tupleOf [.lst m xs] = if D.frozens xs then some (.tup xs) else none := id rfl
@[scoped simp] theorem blt_listOf_tup : blt .listOf [.tup xs] = if D.frozens xs then some (.lst true xs) else none := id rfl
@[scoped simp] theorem blt_listOf_lst : blt .listOf [.lst m xs] = if D.frozens xs then some (.lst true xs) else none := id rfl
@[scoped simp] theorem items_tup : items (.tup xs) = if D.frozens xs then some xs else none := id rfl
@[scoped simp] theorem items_lst : items (.lst false xs) = some xs := id rfl
@[scoped simp] theorem cmp_lt : cmp .lt (.int i) (.int j) = some (.bl (decide (i < j))) := id rfl
@[scoped simp] theorem cmp_le : cmp .le (.int i) (.int j) = some (.bl (decide (i ≤ j))) := id rfl
@[scoped simp] theorem cmp_gt : cmp .gt (.int i) (.int j) = some (.bl (decide (j < i))) := id rfl
@[scoped simp] theorem cmp_ge : cmp .ge (.int i) (.int j) = some (.bl (decide (j ≤ i))) := id rfl
@[scoped simp] theorem cmp_isn : cmp .isn a .non = some (.bl (isNon a)) := id rfl
@[scoped simp] theorem cmp_notn : cmp .notn a .non = some (.bl (!isNon a)) := id rfl
@[scoped simp] theorem cmp_eq : cmp .eq a c = (eqD a c).map .bl := id rfl
@[scoped simp] theorem cmp_ne : cmp .ne a c = (eqD a c).map fun k => .bl (!k) := id rfl
@[scoped simp] theorem cmp_mem_tup : cmp .mem a (.tup xs) = (memD a xs).map .bl := id rfl
@[scoped simp] theorem cmp_mem_lst : cmp .mem a (.lst m xs) = (memD a xs).map .bl := id rfl
@[scoped simp] theorem cmp_nmem_tup : cmp .nmem a (.tup xs) = (memD a xs).map fun k => .bl (!k) := id rfl
@[scoped simp] theorem cmp_nmem_lst : cmp .nmem a (.lst m xs) = (memD a xs).map fun k => .bl (!k) := id rfl
@[scoped simp] theorem bin_addi : bin .add (.int i) (.int j) = some (.int (i + j)) := id rfl
@[scoped simp] theorem bin_subi : bin .sub (.int i) (.int j) = some (.int (i - j)) := id rfl
@[scoped simp] theorem isNon_non : isNon .non = true := id rfl
@[scoped simp] theorem isNon_tup : isNon (.tup xs) = false := id rfl
@[scoped simp] theorem isNon_int : isNon (.int xs) = false := id rfl
end
end Run
end Q

set_option Elab.async false
set_option linter.all false
set_option maxRecDepth 100000
set_option maxHeartbeats 4000000
/-! M2: numbers, words, machines as data; what the program tells of them. -/
namespace Q
namespace Run
open PySem L2

abbrev nat (n : Nat) : D := .int (n : Int)
def nats (l : List Nat) : D := .tup (l.map nat)
theorem fz_all : ∀ {l : List D}, (∀ x ∈ l, x.frozen = true) → D.frozens l = true
  | [], _ => rfl
  | x :: l, h => by
    simp only [D.frozens, Bool.and_eq_true]
    exact ⟨h x (.head _), fz_all fun y hy => h y (.tail _ hy)⟩
theorem fz_mem : ∀ {l : List D} {x : D}, D.frozens l = true → x ∈ l → x.frozen = true
  | _ :: l, _, h, .head _ => by
    simp only [D.frozens, Bool.and_eq_true] at h
    exact h.1
  | _ :: l, _, h, .tail _ m => by
    simp only [D.frozens, Bool.and_eq_true] at h
    exact fz_mem h.2 m
theorem fz_get {xs : List D} {k : Nat} {x : D} (h : D.frozens xs = true) (e : xs[k]? = some x) : x.frozen = true := fz_mem h (List.mem_of_getElem? e)
theorem fz_map {α : Type} {l : List α} {f : α → D} (h : ∀ a, (f a).frozen = true) : D.frozens (l.map f) = true := fz_all fun x hx => by
  obtain ⟨a, _, rfl⟩ := List.mem_map.mp hx
  exact h a
@[scoped simp] theorem fz_nats {l : List Nat} : D.frozens (l.map nat) = true := fz_map fun _ => rfl
@[scoped simp] theorem frozen_nats {l : List Nat} : (nats l).frozen = true := by simp [nats, D.frozen]
@[scoped simp] theorem noXc_nats {l : List Nat} : noXc (nats l) = some (nats l) := id rfl
@[scoped simp] theorem noXc_nat {n : Nat} : noXc (nat n) = some (nat n) := id rfl
@[scoped simp] theorem fz_rows {l : List (List Nat)} : D.frozens (l.map nats) = true := fz_map fun _ => frozen_nats
theorem noXc_fz {d : D} (h : d.frozen = true) : noXc d = some d := by cases d <;> first | rfl | cases h

@[scoped simp] theorem isTy_tuple_non : isTy .tuple .non = some false := id rfl
@[scoped simp] theorem isTy_tuple_bl {b : Bool} : isTy .tuple (.bl b) = some false := id rfl
@[scoped simp] theorem isTy_tuple_int {i : Int} : isTy .tuple (.int i) = some false := id rfl
@[scoped simp] theorem isTy_tuple_str {x : Str} : isTy .tuple (.str x) = some false := id rfl
@[scoped simp] theorem isTy_tuple_tup {xs : List D} : isTy .tuple (.tup xs) = some true := id rfl
@[scoped simp] theorem isTy_tuple_lst {m : Bool} {xs : List D} : isTy .tuple (.lst m xs) = some false := id rfl
@[scoped simp] theorem isTy_int_non : isTy .int .non = some false := id rfl
@[scoped simp] theorem isTy_int_bl {b : Bool} : isTy .int (.bl b) = some true := id rfl
@[scoped simp] theorem isTy_int_int {i : Int} : isTy .int (.int i) = some true := id rfl
@[scoped simp] theorem isTy_int_str {x : Str} : isTy .int (.str x) = some false := id rfl
@[scoped simp] theorem isTy_int_tup {xs : List D} : isTy .int (.tup xs) = some false := id rfl
@[scoped simp] theorem isTy_int_lst {m : Bool} {xs : List D} : isTy .int (.lst m xs) = some false := id rfl
@[scoped simp] theorem isTy_bool_non : isTy .bool .non = some false := id rfl
@[scoped simp] theorem isTy_bool_bl {b : Bool} : isTy .bool (.bl b) = some true := id rfl
@[scoped simp] theorem isTy_bool_int {i : Int} : isTy .bool (.int i) = some false := id rfl
@[scoped simp] theorem isTy_bool_str {x : Str} : isTy .bool (.str x) = some false := id rfl
@[scoped simp] theorem isTy_bool_tup {xs : List D} : isTy .bool (.tup xs) = some false := id rfl
@[scoped simp] theorem isTy_bool_lst {m : Bool} {xs : List D} : isTy .bool (.lst m xs) = some false := id rfl
@[scoped simp] theorem isTy_str_non : isTy .str .non = some false := id rfl
@[scoped simp] theorem isTy_str_bl {b : Bool} : isTy .str (.bl b) = some false := id rfl
@[scoped simp] theorem isTy_str_int {i : Int} : isTy .str (.int i) = some false := id rfl
@[scoped simp] theorem isTy_str_str {x : Str} : isTy .str (.str x) = some true := id rfl
@[scoped simp] theorem isTy_str_tup {xs : List D} : isTy .str (.tup xs) = some false := id rfl
@[scoped simp] theorem isTy_str_lst {m : Bool} {xs : List D} : isTy .str (.lst m xs) = some false := id rfl
@[scoped simp] theorem isTy_list_non : isTy .list .non = some false := id rfl
@[scoped simp] theorem isTy_list_bl {b : Bool} : isTy .list (.bl b) = some false := id rfl
@[scoped simp] theorem isTy_list_int {i : Int} : isTy .list (.int i) = some false := id rfl
@[scoped simp] theorem isTy_list_str {x : Str} : isTy .list (.str x) = some false := id rfl
@[scoped simp] theorem isTy_list_tup {xs : List D} : isTy .list (.tup xs) = some false := id rfl
@[scoped simp] theorem isTy_list_lst {m : Bool} {xs : List D} : isTy .list (.lst m xs) = some true := id rfl
mutual
/-- plain locked data: numbers, texts, tuples, lists -/
def gd : D → Bool
  | .tup xs => gds xs
  | .lst m xs => !m && gds xs
  | .dic _ _ _ => false
  | .xc _ _ => false
  | _ => true
def gds : List D → Bool
  | [] => true
  | x :: xs => gd x && gds xs
end
mutual
theorem good_fz : ∀ {d : D}, gd d = true → d.frozen = true
  | .tup xs, h => by
    simp only [gd] at h
    simp [goods_fz h]
  | .lst m xs, h => by
    simp only [gd, Bool.and_eq_true] at h
    simp [goods_fz h.2]
    simpa using h.1
  | .non, _ => rfl
  | .bl _, _ => rfl
  | .int _, _ => rfl
  | .str _, _ => rfl
  | .dic _ _ _, h => by simp [gd] at h
  | .xc _ _, h => by simp [gd] at h
theorem goods_fz : ∀ {xs : List D}, gds xs = true → D.frozens xs = true
  | [], _ => rfl
  | x :: xs, h => by
    simp only [gds, Bool.and_eq_true] at h
    simp [good_fz h.1, goods_fz h.2]
end
theorem good_mem : ∀ {l : List D} {x : D}, gds l = true → x ∈ l → gd x = true
  | _ :: l, _, h, .head _ => by
    simp only [gds, Bool.and_eq_true] at h
    exact h.1
  | _ :: l, _, h, .tail _ m => by
    simp only [gds, Bool.and_eq_true] at h
    exact good_mem h.2 m
theorem good_get {xs : List D} {k : Nat} {x : D} (h : gds xs = true) (e : xs[k]? = some x) : gd x = true := good_mem h (List.mem_of_getElem? e)
theorem good_all : ∀ {l : List D}, (∀ x ∈ l, gd x = true) → gds l = true
  | [], _ => rfl
  | x :: l, h => by
    simp only [gds, Bool.and_eq_true]
    exact ⟨h x (.head _), good_all fun y hy => h y (.tail _ hy)⟩
theorem good_map {α : Type} {l : List α} {f : α → D} (h : ∀ a, gd (f a) = true) : gds (l.map f) = true := good_all fun x hx => by
  obtain ⟨a, _, rfl⟩ := List.mem_map.mp hx
  exact h a
@[scoped simp] theorem good_non : gd .non = true := id rfl
@[scoped simp] theorem good_bl {c : Bool} : gd (.bl c) = true := id rfl
@[scoped simp] theorem good_int {c : Int} : gd (.int c) = true := id rfl
@[scoped simp] theorem good_str {c : Str} : gd (.str c) = true := id rfl
@[scoped simp] theorem good_tup {xs : List D} : gd (.tup xs) = gds xs := by rw [gd]
@[scoped simp] theorem good_lst {m : Bool} {xs : List D} : gd (.lst m xs) = (!m && gds xs) := by rw [gd]
@[scoped simp] theorem good_dic {m : Bool} {ks : List Key} {xs : List D} : gd (.dic m ks xs) = false := by rw [gd]
@[scoped simp] theorem good_xc {c : Nat} {xs : List D} : gd (.xc c xs) = false := by rw [gd]
@[scoped simp] theorem goods_nil : gds [] = true := id rfl
@[scoped simp] theorem goods_cons {x : D} {xs : List D} : gds (x :: xs) = (gd x && gds xs) := by rw [gds]
@[scoped simp] theorem goods_app : ∀ {xs ys : List D}, gds (xs ++ ys) = (gds xs && gds ys)
  | [], ys => by simp
  | x :: xs, ys => by simp [goods_app (xs := xs), Bool.and_assoc]
@[scoped simp] theorem fzs_app : ∀ {xs ys : List D}, D.frozens (xs ++ ys) = (D.frozens xs && D.frozens ys)
  | [], ys => by simp
  | x :: xs, ys => by simp [fzs_app (xs := xs), Bool.and_assoc]
@[scoped simp] theorem goods_nats {l : List Nat} : gds (l.map nat) = true := good_map fun _ => rfl
@[scoped simp] theorem good_nats {l : List Nat} : gd (nats l) = true := by simp [nats]
@[scoped simp] theorem good_rows {l : List (List Nat)} : gds (l.map nats) = true := good_map fun _ => good_nats
def isInt : D → Bool
  | .int _ => true
  | _ => false
def isNum (lo hi : Int) : D → Bool
  | .int i => decide (lo ≤ i) && decide (i ≤ hi)
  | _ => false

structure HNum (g : G) : Prop where
  f0 : g.fns 0 = some F_is_whole
  f1 : g.fns 1 = some F_is_number
structure HWord (g : G) : Prop extends HNum g where
  f2 : g.fns 2 = some F_is_word
  f3 : g.fns 3 = some F_need_word
structure HMach (g : G) : Prop extends HNum g where
  f4 : g.fns 4 = some F_wrong_steps
  f5 : g.fns 5 = some F_wrong_lets
  f6 : g.fns 6 = some F_wrong_machine
  f7 : g.fns 7 = some F_need_machine

theorem noXc_good {d : D} (h : gd d = true) : noXc d = some d := noXc_fz (good_fz h)
theorem len1 : (1 : Nat) ≤ sizeLine := by decide
theorem len2 : (2 : Nat) ≤ sizeLine := by decide
theorem len3 : (3 : Nat) ≤ sizeLine := by decide
@[scoped simp] theorem lenk1 {α : Type} {a : α} : [a].length ≤ sizeLine := len1
@[scoped simp] theorem len0' : (0 : Nat) ≤ sizeLine := by decide
@[scoped simp] theorem len1' : (0 + 1 : Nat) ≤ sizeLine := by decide
@[scoped simp] theorem len2' : (0 + 1 + 1 : Nat) ≤ sizeLine := by decide
@[scoped simp] theorem len3' : (0 + 1 + 1 + 1 : Nat) ≤ sizeLine := by decide
@[scoped simp] theorem eqD_int {i j : Int} : eqD (.int i) (.int j) = some (decide (i = j)) := by
  simp [eqD, D.py, SeqAt.shaped, PyData.canLay0, PyData.depth, PyData.eqv]
  rfl
/-- the first told thing -/
def firstW {α : Type} (W : Nat → Option α) (n : Nat) : Option α := (List.range n).findSome? W
theorem firstW_zero {α : Type} {W : Nat → Option α} : firstW W 0 = none := rfl
theorem firstW_succ {α : Type} {W : Nat → Option α} {n : Nat} : firstW W (n + 1) = (W 0).or (firstW (fun k => W (k + 1)) n) := by
  unfold firstW
  rw [List.range_succ_eq_map, List.findSome?_cons, List.findSome?_map]
  cases W 0 <;> rfl
theorem firstW_none {α : Type} {W : Nat → Option α} {n : Nat} (h : ∀ k, k < n → W k = none) : firstW W n = none := by
  unfold firstW
  rw [List.findSome?_eq_none_iff]
  exact fun k hk => h k (List.mem_range.mp hk)
theorem firstW_some {α : Type} {r : α} : ∀ {W : Nat → Option α} {n j : Nat} (hj : j < n) (e : W j = some r) (h : ∀ k, k < j → W k = none), firstW W n = some r
  | W, 0, j, hj, _, _ => absurd hj (Nat.not_lt_zero _)
  | W, n + 1, 0, _, e, _ => by rw [firstW_succ, e]; rfl
  | W, n + 1, j + 1, hj, e, h => by
    rw [firstW_succ, h 0 (Nat.succ_pos _)]
    exact firstW_some (Nat.lt_of_succ_lt_succ hj) e fun k hk => h (k + 1) (Nat.succ_lt_succ hk)
theorem for_find {t : Tg} {body : Sl → R (Fl × Sl)} : ∀ (I : Nat → Sl → Prop) {items : List D} (W : Nat → Option D) {sl : Sl}, I 0 sl →
    (∀ j d sl, items[j]? = some d → I j sl → Wp (R.of (asg t d sl)) fun sl1 => Wp (body sl1) fun p => match W j with
      | none => p.1 = Fl.nx ∧ I (j + 1) p.2
      | some r => p.1 = Fl.ret r) → Wp (exFor t body items sl) fun p => match firstW W items.length with
      | none => p.1 = Fl.nx ∧ I items.length p.2
      | some r => p.1 = Fl.ret r
  | I, [], W, sl, h, _ => by
    exact ⟨(Fl.nx, sl), rfl, rfl, h⟩
  | I, x :: xs, W, sl, h, hs => by
    show Wp ((R.of (asg t x sl)).bind _) _
    refine Wp_bind.mpr ((hs 0 x sl rfl h).mono fun sl1 h1 => Wp_bind.mpr (h1.mono fun p hp => ?_))
    rw [List.length_cons, firstW_succ]
    obtain ⟨f, s⟩ := p
    cases e : W 0 with
    | none =>
      rw [e] at hp
      obtain ⟨rfl, hI⟩ := hp
      rw [Option.none_or]
      exact for_find (fun k => I (k + 1)) (fun k => W (k + 1)) hI fun j d sl ej hj => hs (j + 1) d sl (by simpa using ej) hj
    | some r =>
      rw [e] at hp
      cases hp
      exact Wp_ok.mpr rfl
theorem enum_get {xs : List D} {j : Nat} {d : D} (h : (enumD xs)[j]? = some d) : ∃ x, xs[j]? = some x ∧ d = .tup [.int (j : Int), x] := by
  unfold enumD at h
  rw [List.getElem?_zipWith] at h
  by_cases hj : j < xs.length
  · rw [List.getElem?_range hj, List.getElem?_eq_getElem hj] at h
    exact ⟨xs[j], List.getElem?_eq_getElem hj, (Option.some.inj h).symm⟩
  · rw [List.getElem?_eq_none (by simpa using hj)] at h
    cases h
@[scoped simp] theorem enum_len {xs : List D} : (enumD xs).length = xs.length := by
  unfold enumD
  simp
theorem atI_nat {α : Type} {xs : List α} {k : Nat} {x : α} (h : xs[k]? = some x) : atI xs (k : Int) = some x := by
  have hk : k < xs.length := (List.getElem?_eq_some_iff.mp h).1
  simp [atI, ixN, hk]
  exact (List.getElem?_eq_some_iff.mp h).2

section
variable {g : G} {n : Nat}
theorem call_is_whole (h : HNum g) {d : D} (p : gd d = true) : (belowN g (n + 1)).call 0 [d] = .ok (.bl (isInt d)) none := by
  refine call_by h.f0 rfl rfl ?_
  have f := good_fz p
  have x := noXc_fz f
  cases d <;> simp_all [F_is_whole, b_is_whole, isInt]
theorem call_is_number (h : HNum g) {d : D} {lo hi : Int} (p : gd d = true) : (belowN g (n + 2)).call 1 [d, .int lo, .int hi] = .ok (.bl (isNum lo hi d)) none := by
  refine call_by h.f1 rfl rfl ?_
  have f := good_fz p
  have x := noXc_fz f
  have e := call_is_whole (n := n) h p
  cases d with
  | int i =>
    simp [F_is_number, b_is_number, isInt, isNum, h.f0, F_is_whole, e]
    cases q : decide (lo ≤ i) <;> simp
  | _ => simp_all [F_is_number, b_is_number, isInt, isNum, h.f0, F_is_whole]
def rowW (cnt many spot : Nat) : Option D → Option (List Nat)
  | some (.tup xs) => if xs.length = cnt then firstW (fun j => match xs[j]? with
      | some x => if isNum 0 ((many : Int) - 1) x then none else some [spot, j]
      | none => none) cnt else some [spot]
  | _ => some [spot]
def stepsW (cnt : Nat) : D → Option (List Nat)
  | .tup rows => if 1 ≤ rows.length ∧ rows.length ≤ 60 then firstW (fun i => rowW cnt rows.length i rows[i]?) rows.length else some []
  | _ => some []
def resD : Option (List Nat) → D
  | none => .non
  | some l => nats l
theorem firstW_map {α β : Type} {f : α → β} {W : Nat → Option α} {n : Nat} : firstW (fun i => (W i).map f) n = (firstW W n).map f := by
  unfold firstW
  induction List.range n with
  | nil => rfl
  | cons x l ih =>
    rw [List.findSome?_cons, List.findSome?_cons]
    cases W x with
    | none => simpa using ih
    | some y => rfl
theorem call_wrong_steps (h : HMach g) {v : D} {cnt : Nat} (p : gd v = true) : (belowN g (n + 3)).call 4 [v, nat cnt] = .ok (resD (stepsW cnt v)) none := by
  refine call_by h.f4 rfl rfl ?_
  have x := noXc_good p
  have fv := good_fz p
  cases v with
  | tup rows =>
    have q1 := good_fz p
    simp only [good_tup] at p
    simp only [fzn_tup] at q1
    by_cases c1 : 1 ≤ (rows.length : Int)
    · by_cases c2 : (rows.length : Int) ≤ 60
      · simp [F_wrong_steps, b_wrong_steps, q1, c1, c2]
        refine (for_find (fun _ sl => ∃ a b c d, sl = [some (.tup rows), some (nat cnt), a, b, c, d]) (fun i => (rowW cnt rows.length i rows[i]?).map nats) ⟨_, _, _, _, rfl⟩ ?_).mono ?_
        · rintro j d sl hd ⟨a1, a2, a3, a4, rfl⟩
          obtain ⟨row, hr, rfl⟩ := enum_get hd
          have gr := good_get p hr
          have fr := good_fz gr
          have nr := noXc_good gr
          simp [l_wrong_steps_2, fr, nr]
          rw [hr]
          cases row with
          | tup xs =>
            simp only [good_tup] at gr
            simp only [fzn_tup] at fr
            by_cases c3 : xs.length = cnt
            · simp [c3, fr]
              refine (for_find (fun _ sl => ∃ a b c d, sl = [some (.tup rows), some (nat cnt), some (nat j), a, b, c]) (fun i => (match xs[i]? with
                | some x => if isNum 0 ((rows.length : Int) - 1) x then none else some [j, i]
                | none => none).map nats) ⟨_, _, _, 0, rfl⟩ ?_).mono ?_
              · rintro i d sl hd ⟨a1, a2, a3, a4, rfl⟩
                obtain ⟨x, hx, rfl⟩ := enum_get hd
                have gx := good_get gr hx
                have fx := good_fz gx
                have nx := noXc_good gx
                have e := call_is_number (n := n) (lo := 0) (hi := (rows.length : Int) - 1) h.toHNum gx
                simp [l_wrong_steps_1, fx, nx, h.f1, F_is_number, q1, e]
                rw [hx]
                cases eN : isNum 0 ((rows.length : Int) - 1) x <;> simp [eN, nats]
              · intro a ha
                rw [firstW_map, enum_len, c3] at ha
                simp only [rowW, if_pos c3]
                cases ef : firstW (fun i => match xs[i]? with
                  | some x => if isNum 0 ((rows.length : Int) - 1) x then none else some [j, i]
                  | none => none) cnt with
                | none =>
                  rw [ef] at ha
                  obtain ⟨q1, a1, a2, a3, a4, q2⟩ := ha
                  simp [q1, q2]
                | some r =>
                  rw [ef] at ha
                  have ha : a.1 = Fl.ret (nats r) := ha
                  simp [ha]
            · simp [c3, Int.ofNat_inj, rowW, nats]
          | _ => simp [rowW, nats] <;> simp_all
        · intro a ha
          rw [firstW_map, enum_len] at ha
          have c3 : 1 ≤ rows.length ∧ rows.length ≤ 60 := ⟨by omega, by omega⟩
          simp only [stepsW, if_pos c3]
          cases ef : firstW (fun i => rowW cnt rows.length i rows[i]?) rows.length with
          | none =>
            rw [ef] at ha
            obtain ⟨q1, a1, a2, a3, a4, q2⟩ := ha
            simp [q1, q2, resD]
          | some r =>
            rw [ef] at ha
            have ha : a.1 = Fl.ret (nats r) := ha
            simp [ha, resD]
      · have c3 : ¬ (1 ≤ rows.length ∧ rows.length ≤ 60) := by omega
        simp [F_wrong_steps, b_wrong_steps, q1, c1, c2, stepsW, if_neg c3, resD, nats]
    · have c3 : ¬ (1 ≤ rows.length ∧ rows.length ≤ 60) := by omega
      simp [F_wrong_steps, b_wrong_steps, q1, c1, stepsW, if_neg c3, resD, nats]
  | _ => simp_all [F_wrong_steps, b_wrong_steps, stepsW, resD, nats]
def intOf : D → Int
  | .int i => i
  | _ => 0
@[scoped simp] theorem intOf_int {i : Int} : intOf (.int i) = i := id rfl
def letW (many : Nat) (xs : List D) (i : Nat) : Option (List Nat) := match xs[i]? with
  | some x => if isNum 0 ((many : Int) - 1) x && (i == 0 || decide (intOf (xs[i - 1]?.getD .non) < intOf x)) then none else some [i]
  | none => none
def letsW (many : Nat) : D → Option (List Nat)
  | .tup xs => firstW (letW many xs) xs.length
  | _ => some []
theorem call_wrong_lets (h : HMach g) {v : D} {many : Nat} (p : gd v = true) : (belowN g (n + 3)).call 5 [v, nat many] = .ok (resD (letsW many v)) none := by
  refine call_by h.f5 rfl rfl ?_
  have x := noXc_good p
  have fv := good_fz p
  cases v with
  | tup xs =>
    have q1 := good_fz p
    simp only [good_tup] at p
    simp only [fzn_tup] at q1
    simp [F_wrong_lets, b_wrong_lets, q1]
    refine (for_find (fun k sl => (∃ a b, sl = [some (.tup xs), some (nat many), a, b]) ∧ ∀ i, i < k → ∃ z, xs[i]? = some (.int z)) (fun i => (letW many xs i).map nats) ⟨⟨_, _, rfl⟩, fun i hi => absurd hi (Nat.not_lt_zero _)⟩ ?_).mono ?_
    · rintro j d sl hd ⟨⟨a1, a2, rfl⟩, hp⟩
      obtain ⟨x, hx, rfl⟩ := enum_get hd
      have gx := good_get p hx
      have fx := good_fz gx
      have nx := noXc_good gx
      have e := call_is_number (n := n) (lo := 0) (hi := (many : Int) - 1) h.toHNum gx
      simp [l_wrong_lets_1, fx, nx, h.f1, F_is_number, e, letW, hx]
      cases eN : isNum 0 ((many : Int) - 1) x with
      | false => simp [nats]
      | true =>
        cases x with
        | int z =>
          by_cases hj : j = 0
          · subst hj
            simp
            exact ⟨z, hx⟩
          · obtain ⟨z0, hz0⟩ := hp (j - 1) (by omega)
            have hj0 : 0 < j := by omega
            have ia : atI xs ((j : Int) - 1) = some (.int z0) := by
              rw [show (j : Int) - 1 = ((j - 1 : Nat) : Int) by omega]
              exact atI_nat hz0
            simp [hj, hj0, q1, ia, hz0, intOf]
            by_cases hz : z ≤ z0
            · simp [hz, nats, Int.not_lt.mpr hz]
            · simp [hz, Int.not_le.mp hz]
              intro i hi
              by_cases hij : i = j
              · exact ⟨z, hij ▸ hx⟩
              · exact hp i (by omega)
        | _ => simp [isNum] at eN
    · intro a ha
      rw [firstW_map, enum_len] at ha
      simp only [letsW]
      cases ef : firstW (letW many xs) xs.length with
      | none =>
        rw [ef] at ha
        obtain ⟨q1, ⟨a1, a2, q2⟩, _⟩ := ha
        simp [q1, q2, resD]
      | some r =>
        rw [ef] at ha
        have ha : a.1 = Fl.ret (nats r) := ha
        simp [ha, resD]
  | _ => simp_all [F_wrong_lets, b_wrong_lets, letsW, resD, nats]
/-- the first wrong place of a value as a machine -/
def machW : D → Option (List Nat)
  | .tup [c, s, k] => if isNum 1 4 c then match stepsW (intOf c).toNat s with
      | some l => some (1 :: l)
      | none => match s with
        | .tup rows => (letsW rows.length k).map (2 :: ·)
        | _ => some []
    else some [0]
  | _ => some []
theorem nats_cons {x : Nat} {l : List Nat} : nats (x :: l) = .tup (nat x :: l.map nat) := rfl
theorem bin_addt {xs ys : List D} (h : xs.length + ys.length ≤ sizeLine) (h1 : D.frozens xs = true) (h2 : D.frozens ys = true) : bin .add (.tup xs) (.tup ys) = some (.tup (xs ++ ys)) := by
  simp [bin, h, h1, h2]
theorem firstW_mem {α : Type} {W : Nat → Option α} {n : Nat} {r : α} (h : firstW W n = some r) : ∃ j, j < n ∧ W j = some r := by
  unfold firstW at h
  obtain ⟨j, hj, e⟩ := List.exists_of_findSome?_eq_some h
  exact ⟨j, List.mem_range.mp hj, e⟩
theorem rowW_len {cnt many spot : Nat} {x : Option D} {l : List Nat} (h : rowW cnt many spot x = some l) : l.length ≤ 2 := by
  unfold rowW at h
  split at h
  · split at h
    · obtain ⟨j, hj, e⟩ := firstW_mem h
      split at e
      · split at e <;> cases e
        exact Nat.le_refl _
      · cases e
    · cases h; simp
  · cases h; simp
theorem stepsW_len {cnt : Nat} {v : D} {l : List Nat} (h : stepsW cnt v = some l) : l.length ≤ 2 := by
  unfold stepsW at h
  split at h
  · split at h
    · obtain ⟨j, hj, e⟩ := firstW_mem h
      exact rowW_len e
    · cases h; decide
  · cases h; decide
theorem letsW_len {many : Nat} {v : D} {l : List Nat} (h : letsW many v = some l) : l.length ≤ 2 := by
  unfold letsW at h
  split at h
  · obtain ⟨j, hj, e⟩ := firstW_mem h
    unfold letW at e
    split at e
    · split at e <;> cases e
      simp
    · cases e
  · cases h; decide
theorem stepsW_tup {cnt : Nat} {v : D} (h : stepsW cnt v = none) : ∃ rows, v = .tup rows := by
  cases v <;> first | exact ⟨_, rfl⟩ | (simp [stepsW] at h)
@[scoped simp] theorem isNon_nats {l : List Nat} : isNon (nats l) = false := id rfl
theorem add_nats {x : Nat} {l : List Nat} (h : l.length ≤ 2) : bin .add (.tup [nat x]) (nats l) = some (nats (x :: l)) := by
  unfold nats
  rw [bin_addt]
  · rfl
  · have e : 3 ≤ sizeLine := by decide
    simp
    omega
  · rfl
  · exact fz_nats
theorem frzs_nats : ∀ {l : List Nat}, D.frzs (l.map nat) = l.map nat
  | [] => rfl
  | x :: l => by simp [frzs_nats (l := l)]
@[scoped simp] theorem frz_nats {l : List Nat} : D.frz (nats l) = nats l := by simp [nats, frzs_nats]
theorem call_wrong_machine (h : HMach g) {v : D} (p : gd v = true) : (belowN g (n + 4)).call 6 [v] = .ok (resD (machW v)) none := by
  refine call_by h.f6 rfl rfl ?_
  have x := noXc_good p
  have fv := good_fz p
  cases v with
  | tup xs =>
    have q1 := good_fz p
    simp only [good_tup] at p
    simp only [fzn_tup] at q1
    rcases xs with _ | ⟨c, _ | ⟨s, _ | ⟨k, _ | ⟨z, r⟩⟩⟩⟩
    · simp [F_wrong_machine, b_wrong_machine, machW, resD, nats]
    · simp_all [F_wrong_machine, b_wrong_machine, machW, resD, nats]
    · simp_all [F_wrong_machine, b_wrong_machine, machW, resD, nats]
    · simp only [goods_cons, goods_nil, Bool.and_true, Bool.and_eq_true] at p
      obtain ⟨g1, g2, g3⟩ := p
      have f1 := good_fz g1
      have f2 := good_fz g2
      have f3 := good_fz g3
      have n1 := noXc_good g1
      have n2 := noXc_good g2
      have n3 := noXc_good g3
      have a0 : ∀ {a b c : D}, atI [a, b, c] 0 = some a := rfl
      have a1 : ∀ {a b c : D}, atI [a, b, c] 1 = some b := rfl
      have a2 : ∀ {a b c : D}, atI [a, b, c] 2 = some c := rfl
      have e := call_is_number (n := n + 1) (lo := 1) (hi := 4) h.toHNum g1
      simp [F_wrong_machine, b_wrong_machine, f1, f2, f3, h.f1, F_is_number, a0, a1, a2, e, h.f4, F_wrong_steps, h.f5, F_wrong_lets]
      cases eN : isNum 1 4 c with
      | false => simp [machW, eN, resD, nats]
      | true =>
        cases c with
        | int z =>
          simp [isNum] at eN
          obtain ⟨cn, rfl⟩ := Int.eq_ofNat_of_zero_le (show 0 ≤ z by omega)
          have e4 := call_wrong_steps (n := n) h (v := s) (cnt := cn) g2
          have e1 : ∀ l : List Nat, l.length ≤ 2 → bin .add (.tup [.int 1]) (nats l) = some (nats (1 :: l)) := fun l hl => add_nats hl
          have e2 : ∀ l : List Nat, l.length ≤ 2 → bin .add (.tup [.int 2]) (nats l) = some (nats (2 :: l)) := fun l hl => add_nats hl
          simp [e4, machW, isNum, eN, intOf]
          cases es : stepsW cn s with
          | some l => simp [resD, e1 l (stepsW_len es), f2, f3, n2, n3, a0, a1, a2, e4, es]
          | none =>
            obtain ⟨rows, rfl⟩ := stepsW_tup es
            have f2' := f2
            simp only [fzn_tup] at f2'
            have e5 := call_wrong_lets (n := n) h (v := k) (many := rows.length) g3
            simp [resD, e5, f2', f3, n3, a0, a1, a2, e4, es]
            cases el : letsW rows.length k with
            | some l => simp [e2 l (letsW_len el), f2', f3, n3, a0, a1, a2, e4, es, e5, el, resD]
            | none => simp [f2', f3, n3, a0, a1, a2, e4, es, e5, el, resD]
        | _ => simp [isNum] at eN
    · have hl : ¬ ((r.length : Int) + 1 + 1 + 1 + 1 = 3) := by omega
      simp_all [F_wrong_machine, b_wrong_machine, machW, resD, nats]
  | _ => simp_all [F_wrong_machine, b_wrong_machine, machW, resD, nats]
theorem call_need_machine (h : HMach g) {v : D} (p : gd v = true) : (belowN g (n + 5)).call 7 [v] = match machW v with
    | none => .ok v none
    | some l => .exc 2 [nats l] none := by
  have x := noXc_good p
  have f := good_fz p
  have e := call_wrong_machine (n := n) h p
  show callF g (belowN g (n + 4)) 7 [v] = _
  cases em : machW v with
  | none =>
    rw [em] at e
    simp [callF, h.f7, F_need_machine, b_need_machine, x, f, h.f6, F_wrong_machine, e, resD]
  | some l =>
    rw [em] at e
    simp [callF, h.f7, F_need_machine, b_need_machine, x, f, h.f6, F_wrong_machine, e, resD]
end
end Run
end Q

set_option Elab.async false
set_option linter.all false
set_option maxRecDepth 100000
set_option maxHeartbeats 4000000
/-! M3: what can be told by repr, compared. -/
namespace Q
namespace Run
open PySem L2 PyProof.Rows

theorem textFrom_len_le : ∀ (ts : List Str) (k : Nat) (acc : Str), (textFrom k acc ts).length ≤ acc.length + piled ts
  | [], k, acc => Nat.le_add_right _ _
  | t :: r, k, acc => by
    have ih := textFrom_len_le r (k + 1) (acc ++ (if k > 0 then ", " else "" : String) ++ t)
    have e : (acc ++ (if k > 0 then ", " else "" : String) ++ t).length ≤ acc.length + 2 + t.length := by
      rw [strLen_append, strLen_append]
      split
      · exact Nat.le_refl _
      · show acc.length + 0 + t.length ≤ _; omega
    show (textFrom (k + 1) _ r).length ≤ _
    rw [piled_cons]; omega
theorem listText_len (ts : List Str) : (listText ts).length ≤ piled ts + 2 := by
  unfold listText
  rw [strLen_append]
  have := textFrom_len_le ts 0 "["
  have e1 : ("[" : Str).length = 1 := rfl
  have e2 : ("]" : Str).length = 1 := rfl
  omega
theorem join_len : ∀ ts : List Str, (Str.join ", " ts).length ≤ piled ts
  | [] => Nat.zero_le _
  | [x] => by rw [piled_cons]; show x.length ≤ _; omega
  | x :: y :: r => by
    have ih := join_len (y :: r)
    show (x ++ (", " : Str) ++ Str.join ", " (y :: r)).length ≤ _
    rw [strLen_append, strLen_append, piled_cons]
    have e : (", " : Str).length = 2 := rfl
    omega
theorem tupleText_len (ts : List Str) : (tupleText ts).length ≤ piled ts + 3 := by
  unfold tupleText
  rw [strLen_append, strLen_append]
  have := join_len ts
  have e1 : ("(" : Str).length = 1 := rfl
  have e2 : (if ts.length == 1 then ",)" else ")" : String).length ≤ 2 := by split <;> decide
  have e3 : ((if ts.length == 1 then ",)" else ")" : String) : Str).length ≤ 2 := by rw [PySem.ofString_length]; exact e2
  omega

/-- it can be told: at most n signs, k deep -/
def Sy (n k : Nat) (d : D) : Prop := ∃ p, d.py = some p ∧ p.showable = true ∧ p.canLay0 = true ∧ p.shown.length ≤ n ∧ p.depth ≤ k
def Sys (n k : Nat) (xs : List D) : Prop := ∀ x ∈ xs, Sy n k x
theorem Sy.mono {n k n' k' : Nat} {d : D} (h : Sy n k d) (h1 : n ≤ n') (h2 : k ≤ k') : Sy n' k' d := by
  obtain ⟨p, a, b, c, d, e⟩ := h
  exact ⟨p, a, b, c, Nat.le_trans d h1, Nat.le_trans e h2⟩
theorem sys_py {n k : Nat} : ∀ {xs : List D}, Sys n k xs → ∃ ps, D.pys xs = some ps ∧ PyData.showableAll ps = true ∧ PyData.canLayAll0 ps = true ∧ piled (PyData.shownAll ps) ≤ xs.length * (n + 2) ∧ PyData.depthAll ps ≤ k ∧ ps.length = xs.length
  | [], _ => ⟨[], by simp [D.pys], by simp [PyData.showableAll], by simp [PyData.canLayAll0], by simp [PyData.shownAll, piled_nil], by simp [PyData.depthAll], rfl⟩
  | x :: xs, h => by
    obtain ⟨p, a1, a2, a3, a4, a5⟩ := h x (.head _)
    obtain ⟨ps, b1, b2, b3, b4, b5, b6⟩ := sys_py (xs := xs) fun y hy => h y (.tail _ hy)
    refine ⟨p :: ps, by simp [D.pys, a1, b1], by simp [PyData.showableAll, a2, b2], by simp [PyData.canLayAll0, a3, b3], ?_, ?_, by simp [b6]⟩
    · rw [PyData.shownAll, piled_cons, List.length_cons, Nat.succ_mul]
      omega
    · rw [PyData.depthAll]
      omega
theorem sy_tup {n k : Nat} {xs : List D} (h : Sys n k xs) : Sy (xs.length * (n + 2) + 3) (k + 1) (.tup xs) := by
  obtain ⟨ps, b1, b2, b3, b4, b5, b6⟩ := sys_py h
  refine ⟨.tuple ps, by simp [D.py, b1], by simpa [PyData.showable] using b2, by simpa [PyData.canLay0] using b3, ?_, ?_⟩
  · have := tupleText_len (PyData.shownAll ps)
    rw [PyData.shown]; omega
  · rw [PyData.depth]; omega
theorem sy_lst {n k : Nat} {m : Bool} {xs : List D} (h : Sys n k xs) : Sy (xs.length * (n + 2) + 3) (k + 1) (.lst m xs) := by
  obtain ⟨ps, b1, b2, b3, b4, b5, b6⟩ := sys_py h
  refine ⟨.list ps, by simp [D.py, b1], by simpa [PyData.showable] using b2, by simpa [PyData.canLay0] using b3, ?_, ?_⟩
  · have := listText_len (PyData.shownAll ps)
    rw [PyData.shown]; omega
  · rw [PyData.depth]; omega
theorem sy_non : Sy 8 0 .non := ⟨.none, by simp [D.py], by simp [PyData.showable], by simp [PyData.canLay0], by simp only [PyData.shown]; decide, by simp [PyData.depth]⟩
theorem sy_bl {b : Bool} : Sy 8 0 (.bl b) := ⟨.bool b, by simp [D.py], by simp [PyData.showable], by simp [PyData.canLay0], by cases b <;> simp only [PyData.shown] <;> decide, by simp [PyData.depth]⟩
theorem sy_int {i : Int} (h : i.natAbs < 10 ^ 7) : Sy 8 0 (.int i) := by
  refine ⟨.int i, by simp [D.py], ?_, by simp [PyData.canLay0], ?_, by simp [PyData.depth]⟩
  · simp only [PyData.showable, decide_eq_true_eq]
    by_cases h0 : i.natAbs = 0
    · rw [h0]; decide
    · rw [Nat.log2_lt h0]
      exact Nat.lt_of_lt_of_le h (Nat.le_trans (show 10 ^ 7 ≤ 2 ^ 30 by decide) (Nat.pow_le_pow_right (by decide) (by decide)))
  · simp only [PyData.shown]
    rw [PySem.ofString_length]
    exact int_text_length_le10 (k := 7) (by decide) h
theorem sy_nat {i : Nat} (h : i < 10 ^ 7) : Sy 8 0 (nat i) := sy_int (by omega)
theorem sy_nats {l : List Nat} (h : ∀ x ∈ l, x < 10 ^ 7) : Sy (l.length * 10 + 3) 1 (nats l) := by
  have := sy_tup (n := 8) (k := 0) (xs := l.map nat) fun x hx => by
    obtain ⟨a, ha, rfl⟩ := List.mem_map.mp hx
    exact sy_nat (h a ha)
  rw [List.length_map] at this
  exact this
theorem sys_nil {n k : Nat} : Sys n k [] := fun x hx => nomatch hx
theorem sys_cons {n k : Nat} {x : D} {xs : List D} (h : Sy n k x) (hs : Sys n k xs) : Sys n k (x :: xs) := fun y hy => by
  rcases List.mem_cons.mp hy with rfl | hy
  · exact h
  · exact hs y hy
theorem sys_app {n k : Nat} {xs ys : List D} (h : Sys n k xs) (hs : Sys n k ys) : Sys n k (xs ++ ys) := fun y hy => by
  rcases List.mem_append.mp hy with hy | hy
  · exact h y hy
  · exact hs y hy
theorem Sy.shD {n k : Nat} {d : D} (h : Sy n k d) (hs : isSeqD d = true) (hn : n ≤ sizeLine) (hk : k ≤ 64) : ∃ t, shD d = some t := by
  obtain ⟨p, a, b, c, e, f⟩ := h
  refine ⟨p.shown, ?_⟩
  unfold Q.shD
  rw [a]
  simp only
  rw [if_pos]
  simp only [Bool.and_eq_true, decide_eq_true_eq]
  exact ⟨⟨⟨hs, b⟩, by unfold SeqAt.shaped; simp [c]; omega⟩, Nat.le_trans e hn⟩

/-! ### comparing -/
theorem pys_nats : ∀ l : List Nat, D.pys (l.map nat) = some (l.map fun n : Nat => PyData.int ((n : Nat) : Int))
  | [] => by simp [D.pys]
  | x :: l => by simp [D.pys, D.py, pys_nats l]
theorem canLay_nats : ∀ l : List Nat, PyData.canLayAll0 (l.map fun n : Nat => PyData.int ((n : Nat) : Int)) = true
  | [] => by simp [PyData.canLayAll0]
  | x :: l => by simp [PyData.canLayAll0, PyData.canLay0]; exact canLay_nats l
theorem depth_nats : ∀ l : List Nat, PyData.depthAll (l.map fun n : Nat => PyData.int ((n : Nat) : Int)) = 0
  | [] => by simp [PyData.depthAll]
  | x :: l => by
    have := depth_nats l
    simp [PyData.depthAll, PyData.depth]
    exact this
theorem memD_nats {n : Nat} {l : List Nat} : memD (nat n) (l.map nat) = some (decide (n ∈ l)) := by
  unfold memD
  rw [pys_nats]
  simp only [D.py]
  have h1 : SeqAt.shaped (PyData.int ((n : Nat) : Int)) = true := by simp [SeqAt.shaped, PyData.canLay0, PyData.depth]
  have h2 : SeqAt.shaped (PyData.list (l.map fun n : Nat => PyData.int ((n : Nat) : Int))) = true := by
    simp [SeqAt.shaped, PyData.canLay0, PyData.depth, canLay_nats, depth_nats]
  rw [h1, h2]
  simp only [Bool.and_self, if_true]
  congr 1
  rw [Bool.eq_iff_iff]
  simp [PyData.eqv]
  constructor
  · rintro ⟨x, hx, e⟩
    have : x = n := by omega
    exact this ▸ hx
  · intro h
    exact ⟨n, h, rfl⟩
end Run
end Q

set_option Elab.async false
set_option linter.all false
set_option maxRecDepth 100000
set_option maxHeartbeats 4000000
/-! M4: words, machines: where a word leads. -/
namespace Q
namespace Run
open PySem L2

theorem all_fun {u : Bool} {own : List Nat} {t : Tg} {elt : Sl → R (D × Sl)} (f : D → Bool) (I : Sl → Prop) : ∀ {xs : List D} {sl : Sl}, I sl →
    (∀ d sl, d ∈ xs → I sl → Wp (R.of (asg t d (wipeS sl own))) fun sl1 => Wp (elt sl1) fun q => q.1 = D.bl (f d) ∧ I q.2) → Wp (exAll u own t elt xs sl) fun q => q.1 = (if u then xs.all f else xs.any f) ∧ I q.2
  | [], sl, h, _ => by
    show Wp (.ok (u, sl)) _
    exact Wp_ok.mpr ⟨by cases u <;> rfl, h⟩
  | x :: xs, sl, h, hs => by
    show Wp ((R.of (asg t x (wipeS sl own))).bind _) _
    refine Wp_bind.mpr ((hs x sl (.head _) h).mono fun sl1 h1 => Wp_bind.mpr (h1.mono fun p hp => ?_))
    obtain ⟨d, s⟩ := p
    obtain ⟨hd, hI⟩ := hp
    simp only at hd
    subst hd
    show Wp (if f x = u then exAll u own t elt xs s else .ok (f x, s)) _
    by_cases e : f x = u
    · rw [if_pos e]
      refine (all_fun f I hI fun d sl hd => hs d sl (.tail _ hd)).mono fun q hq => ?_
      rw [List.all_cons, List.any_cons, e]
      cases u <;> simpa using hq
    · rw [if_neg e]
      refine Wp_ok.mpr ⟨?_, hI⟩
      rw [List.all_cons, List.any_cons]
      cases u <;> simp_all
theorem comp_map {own : List Nat} {t : Tg} {cond : Sl → R (Bool × Sl)} {elt : Sl → R (D × Sl)} (c : D → Bool) (f : D → D) (I : Sl → Prop) : ∀ {xs : List D} {sl : Sl}, I sl →
    (∀ d sl, d ∈ xs → I sl → Wp (R.of (asg t d (wipeS sl own))) fun sl1 => Wp (cond sl1) fun p => p.1 = c d ∧ (c d = true → Wp (elt p.2) fun q => q.1 = f d ∧ (f d).frozen = true ∧ I q.2) ∧ (c d = false → I p.2)) → Wp (exComp own t cond elt xs sl) fun q => q.1 = (xs.filter c).map f ∧ I q.2
  | [], sl, h, _ => by
    show Wp (.ok ([], sl)) _
    exact Wp_ok.mpr ⟨rfl, h⟩
  | x :: xs, sl, h, hs => by
    show Wp ((R.of (asg t x (wipeS sl own))).bind _) _
    refine Wp_bind.mpr ((hs x sl (.head _) h).mono fun sl1 h1 => Wp_bind.mpr (h1.mono fun p hp => ?_))
    obtain ⟨d, s⟩ := p
    obtain ⟨hd, h1, h2⟩ := hp
    simp only at hd
    subst hd
    cases e : c x with
    | true =>
      refine Wp_bind.mpr ((h1 e).mono fun q hq => ?_)
      obtain ⟨q1, q2, q3⟩ := hq
      rw [q1, if_pos q2]
      refine Wp_bind.mpr ((comp_map c f I q3 fun d sl hd => hs d sl (.tail _ hd)).mono fun r hr => Wp_ok.mpr ?_)
      rw [List.filter_cons_of_pos e, List.map_cons, hr.1]
      exact ⟨rfl, hr.2⟩
    | false =>
      rw [List.filter_cons_of_neg (by simp [e])]
      exact comp_map c f I (h2 e) fun d sl hd => hs d sl (.tail _ hd)
theorem comp_map0 {own : List Nat} {t : Tg} {cond : Sl → R (Bool × Sl)} {elt : Sl → R (D × Sl)} (f : D → D) (I : Sl → Prop) {xs : List D} {sl : Sl} (hc : ∀ sl, cond sl = .ok (true, sl)) (h : I sl)
    (hs : ∀ d sl, d ∈ xs → I sl → Wp (R.of (asg t d (wipeS sl own))) fun sl1 => Wp (elt sl1) fun q => q.1 = f d ∧ (f d).frozen = true ∧ I q.2) : Wp (exComp own t cond elt xs sl) fun q => q.1 = xs.map f ∧ I q.2 := by
  refine (comp_map (fun _ => true) f I h fun d sl hd hI => (hs d sl hd hI).mono fun sl1 h1 => ?_).mono fun q hq => ?_
  · rw [hc]
    exact Wp_ok.mpr ⟨rfl, fun _ => h1, fun e => nomatch e⟩
  · rw [List.filter_eq_self.mpr fun _ _ => rfl] at hq
    exact hq
theorem for_fold {β : Type} {t : Tg} {body : Sl → R (Fl × Sl)} (f : β → D → β) (I : β → Sl → Prop) : ∀ {xs : List D} {a : β} {sl : Sl}, I a sl →
    (∀ d a sl, d ∈ xs → I a sl → Wp (R.of (asg t d sl)) fun sl1 => Wp (body sl1) fun p => p.1 = Fl.nx ∧ I (f a d) p.2) → Wp (exFor t body xs sl) fun p => p.1 = Fl.nx ∧ I (xs.foldl f a) p.2
  | [], a, sl, h, _ => ⟨(Fl.nx, sl), rfl, rfl, h⟩
  | x :: xs, a, sl, h, hs => by
    show Wp ((R.of (asg t x sl)).bind _) _
    refine Wp_bind.mpr ((hs x a sl (.head _) h).mono fun sl1 h1 => Wp_bind.mpr (h1.mono fun p hp => ?_))
    obtain ⟨fl, s⟩ := p
    obtain ⟨rfl, hI⟩ := hp
    exact for_fold f I hI fun d a sl hd => hs d a sl (.tail _ hd)

/-! ### machines -/
structure Mach where
  cnt : Nat
  steps : List (List Nat)
  kept : List Nat
def Mach.d (m : Mach) : D := .tup [nat m.cnt, .tup (m.steps.map nats), nats m.kept]
/-- rows of steps -/
structure StepsOk (cnt : Nat) (steps : List (List Nat)) : Prop where
  row : ∀ r ∈ steps, r.length = cnt ∧ ∀ x ∈ r, x < steps.length
structure MOk (m : Mach) : Prop where
  c1 : 1 ≤ m.cnt
  c2 : m.cnt ≤ 4
  s1 : 1 ≤ m.steps.length
  s2 : m.steps.length ≤ 60
  st : StepsOk m.cnt m.steps
  kp : m.kept.Pairwise (· < ·)
  kb : ∀ x ∈ m.kept, x < m.steps.length
theorem isNum_nat {lo hi : Int} {n : Nat} (h1 : lo ≤ n) (h2 : (n : Int) ≤ hi) : isNum lo hi (nat n) = true := by simp [isNum, h1, h2]
theorem stepsW_ok {cnt : Nat} {steps : List (List Nat)} (h : StepsOk cnt steps) (s1 : 1 ≤ steps.length) (s2 : steps.length ≤ 60) : stepsW cnt (.tup (steps.map nats)) = none := by
  unfold stepsW
  simp only
  rw [if_pos (by simpa using ⟨s1, s2⟩)]
  refine firstW_none fun k hk => ?_
  have hk : k < steps.length := by simpa using hk
  obtain ⟨q1, q2⟩ := h.row _ (List.getElem_mem hk)
  rw [List.getElem?_map, List.getElem?_eq_getElem hk]
  simp only [Option.map_some, rowW, nats, List.length_map]
  rw [if_pos q1]
  refine firstW_none fun j hj => ?_
  have hj : j < steps[k].length := by omega
  rw [List.getElem?_map, List.getElem?_eq_getElem hj]
  have := q2 _ (List.getElem_mem hj)
  simp only [Option.map_some]
  rw [if_pos (isNum_nat (by omega) (by omega))]
theorem letsW_ok {many : Nat} {kept : List Nat} (kp : kept.Pairwise (· < ·)) (kb : ∀ x ∈ kept, x < many) : letsW many (nats kept) = none := by
  unfold letsW nats
  refine firstW_none fun k hk => ?_
  have hk : k < kept.length := by simpa using hk
  have hb := kb _ (List.getElem_mem hk)
  simp only [letW, List.getElem?_map, List.getElem?_eq_getElem hk, Option.map_some]
  rw [if_pos]
  rw [isNum_nat (by omega) (by omega)]
  cases k with
  | zero => rfl
  | succ k =>
    have h1 : k < kept.length := by omega
    have := List.pairwise_iff_getElem.mp kp k (k + 1) h1 hk (by omega)
    simp [List.getElem?_eq_getElem h1, intOf]
    exact this
theorem machW_ok {m : Mach} (h : MOk m) : machW m.d = none := by
  have c1 := h.c1
  have c2 := h.c2
  unfold machW Mach.d
  simp only
  rw [if_pos (isNum_nat (by omega) (by omega))]
  have e : (intOf (nat m.cnt)).toNat = m.cnt := by simp [intOf]
  rw [e, stepsW_ok h.st h.s1 h.s2]
  simp [letsW_ok h.kp h.kb]
@[scoped simp] theorem good_mach {m : Mach} : gd m.d = true := by simp [Mach.d]
theorem mach_tup {m : Mach} : m.d = .tup [nat m.cnt, .tup (m.steps.map nats), nats m.kept] := rfl
@[scoped simp] theorem fz_mach {m : Mach} : m.d.frozen = true := good_fz good_mach
@[scoped simp] theorem noXc_mach {m : Mach} : noXc m.d = some m.d := id rfl
@[scoped simp] theorem item_mach0 {m : Mach} : item m.d (.int 0) = some (nat m.cnt) := id rfl
@[scoped simp] theorem item_mach1 {m : Mach} : item m.d (.int 1) = some (.tup (m.steps.map nats)) := id rfl
@[scoped simp] theorem item_mach2 {m : Mach} : item m.d (.int 2) = some (nats m.kept) := id rfl
/-- the state to which a word leads -/
def go (steps : List (List Nat)) (s x : Nat) : Nat := ((steps[s]?.getD [])[x]?).getD 0
def endF (steps : List (List Nat)) (s : Nat) (w : List Nat) : Nat := w.foldl (go steps) s
theorem go_lt {cnt : Nat} {steps : List (List Nat)} (h : StepsOk cnt steps) {s x : Nat} (hs : s < steps.length) (hx : x < cnt) : go steps s x < steps.length := by
  unfold go
  obtain ⟨q1, q2⟩ := h.row _ (List.getElem_mem hs)
  rw [List.getElem?_eq_getElem hs]
  simp only [Option.getD_some]
  rw [List.getElem?_eq_getElem (by omega)]
  exact q2 _ (List.getElem_mem _)
theorem endF_lt {cnt : Nat} {steps : List (List Nat)} (h : StepsOk cnt steps) : ∀ {w : List Nat} {s : Nat}, s < steps.length → (∀ x ∈ w, x < cnt) → endF steps s w < steps.length
  | [], s, hs, _ => hs
  | x :: w, s, hs, hw => endF_lt (w := w) h (go_lt h hs (hw x (.head _))) fun y hy => hw y (.tail _ hy)
theorem item_steps {steps : List (List Nat)} {s : Nat} (hs : s < steps.length) : item (.tup (steps.map nats)) (nat s) = some (nats (steps[s]?.getD [])) := by
  rw [item_tup]
  refine atI_nat ?_
  rw [List.getElem?_map, List.getElem?_eq_getElem hs]
  rfl
theorem item_nats {l : List Nat} {k : Nat} (hk : k < l.length) : item (nats l) (nat k) = some (nat (l[k]?.getD 0)) := by
  unfold nats
  rw [item_tup]
  refine atI_nat ?_
  rw [List.getElem?_map, List.getElem?_eq_getElem hk]
  rfl
theorem go_item {cnt : Nat} {steps : List (List Nat)} (h : StepsOk cnt steps) {s x : Nat} (hs : s < steps.length) (hx : x < cnt) : item (nats (steps[s]?.getD [])) (nat x) = some (nat (go steps s x)) := by
  refine item_nats ?_
  obtain ⟨q1, q2⟩ := h.row _ (List.getElem_mem hs)
  rw [List.getElem?_eq_getElem hs]
  simp only [Option.getD_some]
  omega
@[scoped simp] theorem items_nats {l : List Nat} : items (nats l) = some (l.map nat) := by simp [nats]
@[scoped simp] theorem cmp_mem_nats {n : Nat} {l : List Nat} : cmp .mem (nat n) (nats l) = some (.bl (decide (n ∈ l))) := by
  unfold nats
  rw [cmp_mem_tup, memD_nats]
  rfl
theorem foldl_nats {steps : List (List Nat)} : ∀ {w : List Nat} {s : Nat}, (w.map nat).foldl (fun s d => go steps s (intOf d).toNat) s = endF steps s w
  | [], s => rfl
  | x :: w, s => by
    rw [List.map_cons, List.foldl_cons, foldl_nats]
    simp [intOf, endF]
section
variable {g : G} {n : Nat}
theorem call_end_from (h : g.fns 8 = some F_end_from) {cnt s : Nat} {steps : List (List Nat)} {w : List Nat} (st : StepsOk cnt steps) (hs : s < steps.length) (hw : ∀ x ∈ w, x < cnt) :
    (belowN g (n + 1)).call 8 [.tup (steps.map nats), nat s, nats w] = .ok (nat (endF steps s w)) none := by
  refine call_by h rfl rfl ?_
  simp [F_end_from, b_end_from]
  refine (for_fold (fun s d => go steps s (intOf d).toNat) (fun s sl => s < steps.length ∧ ∃ a, sl = [some (.tup (steps.map nats)), some (nat s), some (nats w), a]) (a := s) ⟨hs, _, rfl⟩ ?_).mono ?_
  · rintro d s sl hd ⟨hs, a, rfl⟩
    obtain ⟨x, hx, rfl⟩ := List.mem_map.mp hd
    have i1 := item_steps hs
    rw [item_tup] at i1
    have i2 := go_item st hs (hw x hx)
    simp [l_end_from_1, i1, i2, intOf, go_lt st hs (hw x hx)]
  · rintro ⟨f, sl⟩ ⟨rfl, hs, a, rfl⟩
    rw [foldl_nats]
    simp
theorem call_lets_so (h8 : g.fns 8 = some F_end_from) (h : g.fns 9 = some F_lets_so) {m : Mach} {w : List Nat} (ok : MOk m) (hw : ∀ x ∈ w, x < m.cnt) :
    (belowN g (n + 2)).call 9 [m.d, nats w] = .ok (.bl (decide (endF m.steps 0 w ∈ m.kept))) none := by
  refine call_by h rfl rfl ?_
  have e := call_end_from (n := n) h8 ok.st (show 0 < m.steps.length from ok.s1) hw
  have e : (belowN g (n + 1)).call 8 [.tup (m.steps.map nats), .int 0, nats w] = .ok (nat (endF m.steps 0 w)) none := e
  simp [F_lets_so, b_lets_so, h8, F_end_from, e]
def isWord (cnt : Nat) : D → Bool
  | .tup xs => decide (xs.length ≤ 2000) && xs.all (isNum 0 ((cnt : Int) - 1))
  | _ => false
theorem call_is_word (h : HWord g) {v : D} {cnt : Nat} (p : gd v = true) : (belowN g (n + 3)).call 2 [v, nat cnt] = .ok (.bl (isWord cnt v)) none := by
  refine call_by h.f2 rfl rfl ?_
  have x := noXc_good p
  have fv := good_fz p
  cases v with
  | tup xs =>
    have q1 := good_fz p
    simp only [good_tup] at p
    simp only [fzn_tup] at q1
    by_cases c1 : (2000 : Int) < (xs.length : Int)
    · have c2 : ¬ xs.length ≤ 2000 := by omega
      simp [F_is_word, b_is_word, q1, c1, isWord, c2]
    · have c2 : xs.length ≤ 2000 := by omega
      simp [F_is_word, b_is_word, q1, c1, isWord, c2, clear]
      refine (all_fun (isNum 0 ((cnt : Int) - 1)) (fun sl => ∃ a, sl = [some (.tup xs), some (nat cnt), a]) ⟨_, rfl⟩ ?_).mono ?_
      · rintro d sl hd ⟨a, rfl⟩
        have gd := good_mem p hd
        have nd := noXc_good gd
        have e := call_is_number (n := n) (lo := 0) (hi := (cnt : Int) - 1) h.toHNum gd
        simp [g_is_word_1, nd, good_fz gd, h.f1, F_is_number, e]
      · rintro ⟨b, sl⟩ ⟨rfl, a, rfl⟩
        simp
  | _ => simp_all [F_is_word, b_is_word, isWord]
theorem call_need_word (h : HWord g) {v : D} {cnt : Nat} (p : gd v = true) : (belowN g (n + 4)).call 3 [v, nat cnt] = if isWord cnt v then .ok v none else .exc 1 [v] none := by
  have x := noXc_good p
  have f := good_fz p
  have e := call_is_word (n := n) (cnt := cnt) h p
  show callF g (belowN g (n + 3)) 3 [v, nat cnt] = _
  cases ew : isWord cnt v with
  | true =>
    rw [ew] at e
    simp [callF, h.f3, F_need_word, b_need_word, x, f, h.f2, F_is_word, e]
  | false =>
    rw [ew] at e
    simp [callF, h.f3, F_need_word, b_need_word, x, f, h.f2, F_is_word, e]
theorem isWord_nats {cnt : Nat} {w : List Nat} (hw : ∀ x ∈ w, x < cnt) (hl : w.length ≤ 2000) : isWord cnt (nats w) = true := by
  unfold isWord nats
  simp only [List.length_map, Bool.and_eq_true, decide_eq_true_eq, List.all_map, List.all_eq_true]
  refine ⟨hl, fun x hx => isNum_nat (by omega) ?_⟩
  have := hw x hx
  omega
structure HEnd (g : G) : Prop extends HMach g, HWord g where
  f8 : g.fns 8 = some F_end_from
  f9 : g.fns 9 = some F_lets_so
theorem call_need_machine_ok (h : HMach g) {m : Mach} (ok : MOk m) : (belowN g (n + 5)).call 7 [m.d] = .ok m.d none := by
  have e := call_need_machine (n := n) h (v := m.d) good_mach
  rw [machW_ok ok] at e
  exact e
theorem call_need_word_ok (h : HWord g) {cnt : Nat} {w : List Nat} (hw : ∀ x ∈ w, x < cnt) (hl : w.length ≤ 2000) : (belowN g (n + 4)).call 3 [nats w, nat cnt] = .ok (nats w) none := by
  have e := call_need_word (n := n) (cnt := cnt) h (v := nats w) good_nats
  rw [isWord_nats hw hl] at e
  exact e
/-- end_of, lets: what they tell, what they refuse -/
theorem call_end_of (h : HEnd g) (h10 : g.fns 10 = some F_end_of) {m : Mach} {w : List Nat} (ok : MOk m) (hw : ∀ x ∈ w, x < m.cnt) (hl : w.length ≤ 2000) : (belowN g (n + 6)).call 10 [m.d, nats w] = .ok (nat (endF m.steps 0 w)) none := by
  refine call_by h10 rfl rfl ?_
  have e1 := call_need_machine_ok (n := n) h.toHMach ok
  have e2 := call_need_word_ok (n := n + 1) h.toHWord hw hl
  have e3 := call_end_from (n := n + 4) h.f8 ok.st (show 0 < m.steps.length from ok.s1) hw
  have e3 : (belowN g (n + 5)).call 8 [.tup (m.steps.map nats), .int 0, nats w] = .ok (nat (endF m.steps 0 w)) none := e3
  simp [F_end_of, b_end_of, h.f7, F_need_machine, e1, h.f3, F_need_word, e2, h.f8, F_end_from, e3]
theorem call_lets (h : HEnd g) (h11 : g.fns 11 = some F_lets) {m : Mach} {w : List Nat} (ok : MOk m) (hw : ∀ x ∈ w, x < m.cnt) (hl : w.length ≤ 2000) : (belowN g (n + 6)).call 11 [m.d, nats w] = .ok (.bl (decide (endF m.steps 0 w ∈ m.kept))) none := by
  refine call_by h11 rfl rfl ?_
  have e1 := call_need_machine_ok (n := n) h.toHMach ok
  have e2 := call_need_word_ok (n := n + 1) h.toHWord hw hl
  have e3 := call_lets_so (n := n + 3) h.f8 h.f9 ok hw
  simp [F_lets, b_lets, h.f7, F_need_machine, e1, h.f3, F_need_word, e2, h.f9, F_lets_so, e3]
theorem call_end_of_machine (h : HEnd g) (h10 : g.fns 10 = some F_end_of) {v w : D} {l : List Nat} (p : gd v = true) (hv : machW v = some l) (pw : gd w = true) : (belowN g (n + 6)).call 10 [v, w] = .exc 2 [nats l] none := by
  have e1 := call_need_machine (n := n) h.toHMach p
  rw [hv] at e1
  have n1 := noXc_good p
  have f1 := good_fz p
  have n2 := noXc_good pw
  have f2 := good_fz pw
  show callF g (belowN g (n + 5)) 10 [v, w] = _
  simp [callF, h10, F_end_of, b_end_of, n1, f1, h.f7, F_need_machine, e1]
theorem call_lets_machine (h : HEnd g) (h11 : g.fns 11 = some F_lets) {v w : D} {l : List Nat} (p : gd v = true) (hv : machW v = some l) (pw : gd w = true) : (belowN g (n + 6)).call 11 [v, w] = .exc 2 [nats l] none := by
  have e1 := call_need_machine (n := n) h.toHMach p
  rw [hv] at e1
  have n1 := noXc_good p
  have f1 := good_fz p
  show callF g (belowN g (n + 5)) 11 [v, w] = _
  simp [callF, h11, F_lets, b_lets, n1, f1, h.f7, F_need_machine, e1]
theorem call_end_of_word (h : HEnd g) (h10 : g.fns 10 = some F_end_of) {m : Mach} {w : D} (ok : MOk m) (pw : gd w = true) (hw : isWord m.cnt w = false) : (belowN g (n + 6)).call 10 [m.d, w] = .exc 1 [w] none := by
  have e1 := call_need_machine_ok (n := n) h.toHMach ok
  have e2 := call_need_word (n := n + 1) (cnt := m.cnt) h.toHWord pw
  rw [hw] at e2
  have n2 := noXc_good pw
  have f2 := good_fz pw
  show callF g (belowN g (n + 5)) 10 [m.d, w] = _
  simp [callF, h10, F_end_of, b_end_of, n2, f2, h.f7, F_need_machine, e1, h.f3, F_need_word, e2, h.f8, F_end_from]
theorem call_lets_word (h : HEnd g) (h11 : g.fns 11 = some F_lets) {m : Mach} {w : D} (ok : MOk m) (pw : gd w = true) (hw : isWord m.cnt w = false) : (belowN g (n + 6)).call 11 [m.d, w] = .exc 1 [w] none := by
  have e1 := call_need_machine_ok (n := n) h.toHMach ok
  have e2 := call_need_word (n := n + 1) (cnt := m.cnt) h.toHWord pw
  rw [hw] at e2
  have n2 := noXc_good pw
  have f2 := good_fz pw
  show callF g (belowN g (n + 5)) 11 [m.d, w] = _
  simp [callF, h11, F_lets, b_lets, n2, f2, h.f7, F_need_machine, e1, h.f3, F_need_word, e2, h.f9, F_lets_so]
end
end Run
end Q

set_option Elab.async false
set_option linter.all false
set_option maxRecDepth 100000
set_option maxHeartbeats 4000000
/-! M5: what the laws draw. -/
namespace Q
namespace Run
open PySem L2

def mixZ (c k : Int) : Int := ((c % 2147483647 * (48271 + 2 * k * k) + 69621 * k + 11) % 2147483647 * 69621) % 2147483629
theorem fm (i m : Int) (h : 0 < m) : i.fmod m = i % m := Int.fmod_eq_emod_of_nonneg _ (Int.le_of_lt h)
theorem bin_mul1 (i j : Int) (h : -(2 ^ 64) < i ∧ i < 2 ^ 64) : bin .mul (.int i) (.int j) = some (.int (i * j)) := by
  have a := h.1
  have c := h.2
  simp only [bin]
  rw [if_pos]
  simp
  omega
theorem bin_mul2 (i j : Int) (h : -(2 ^ 64) < j ∧ j < 2 ^ 64) : bin .mul (.int i) (.int j) = some (.int (i * j)) := by
  have a := h.1
  have c := h.2
  simp only [bin]
  rw [if_pos]
  simp
  omega
theorem bin_mod (i j : Int) (h : 0 < j) : bin .mod (.int i) (.int j) = some (.int (i % j)) := by
  simp only [bin]
  rw [if_pos (by omega), fm _ _ h]
theorem bin_fdiv (i j : Int) (h : 0 < j) (h2 : j < 1073741824) : bin .fdiv (.int i) (.int j) = some (.int (i / j)) := by
  simp only [bin]
  rw [if_pos ⟨by omega, by omega⟩, Int.fdiv_eq_ediv_of_nonneg _ (by omega)]
structure HDraw (g : G) : Prop where
  f13 : g.fns 13 = some F__law_mixed
  f14 : g.fns 14 = some F__law_draw
def stD (cells lefts : List Int) (at_ : Int) : D := .dic true [.inr "cells", .inr "lefts", .inr "at"] [.lst false (cells.map .int), .lst true (lefts.map .int), .int at_]
theorem lk_at (a b c : D) : look (.inr "at") [.inr "cells", .inr "lefts", .inr "at"] [a, b, c] = some c := by
  have h1 : (Sum.inr "at" : Key) ≠ .inr "cells" := by decide
  have h2 : (Sum.inr "at" : Key) ≠ .inr "lefts" := by decide
  simp [look, h1, h2]
theorem lk_cells (a b c : D) : look (.inr "cells") [.inr "cells", .inr "lefts", .inr "at"] [a, b, c] = some a := by
  simp [look]
theorem lk_lefts (a b c : D) : look (.inr "lefts") [.inr "cells", .inr "lefts", .inr "at"] [a, b, c] = some b := by
  have h1 : (Sum.inr "lefts" : Key) ≠ .inr "cells" := by decide
  simp [look, h1]
theorem ix_at {l : List Int} {k : Nat} {x : Int} (h : l[k]? = some x) : atI (l.map D.int) (k : Int) = some (.int x) := by
  obtain ⟨hk, e⟩ := List.getElem?_eq_some_iff.mp h
  simp [atI, ixN, hk, e]
@[scoped simp] theorem fz_ints {l : List Int} : D.frozens (l.map D.int) = true := fz_map fun _ => rfl
theorem put_at (a b c v : D) : putItem (.dic true [.inr "cells", .inr "lefts", .inr "at"] [a, b, c]) (.str "at") v = some (.dic true [.inr "cells", .inr "lefts", .inr "at"] [a, b, v]) := by
  have h1 : (Sum.inr "at" : Key) ≠ .inr "cells" := by decide
  have h2 : (Sum.inr "at" : Key) ≠ .inr "lefts" := by decide
  have h3 : 3 < sizeLine := by decide
  simp [putItem, keyD, setKey, h1, h2, h3]
theorem put_lefts (a b c v : D) : putItem (.dic true [.inr "cells", .inr "lefts", .inr "at"] [a, b, c]) (.str "lefts") v = some (.dic true [.inr "cells", .inr "lefts", .inr "at"] [a, v, c]) := by
  have h1 : (Sum.inr "lefts" : Key) ≠ .inr "cells" := by decide
  have h3 : 3 < sizeLine := by decide
  simp [putItem, keyD, setKey, h1, h3]
theorem put_int {l : List Int} {k : Nat} {x y : Int} (h : l[k]? = some x) : putItem (.lst true (l.map D.int)) (.int (k : Int)) (.int y) = some (.lst true ((l.set k y).map D.int)) := by
  have hk : k < l.length := (List.getElem?_eq_some_iff.mp h).1
  simp [putItem, ixN, hk]
section
variable {g : G} {n : Nat}
theorem call_mixed (h : HDraw g) {c k : Int} (h1 : -(2 ^ 64) < k) (h2 : k < 2 ^ 64) : (belowN g (n + 1)).call 13 [.int c, .int k] = .ok (.int (mixZ c k)) none := by
  refine call_by h.f13 rfl rfl ?_
  have m1 := bin_mul1 2 k (by decide)
  have m2 := bin_mul2 (2 * k) k ⟨h1, h2⟩
  have m3 := bin_mul1 (c % 2147483647) (48271 + 2 * k * k) (by have := Int.emod_nonneg c (b := 2147483647) (by decide); have := Int.emod_lt_of_pos c (b := 2147483647) (by decide); omega)
  have m4 := bin_mul1 69621 k (by decide)
  have m5 := bin_mul2 ((c % 2147483647 * (48271 + 2 * k * k) + 69621 * k + 11) % 2147483647) 69621 (by decide)
  have d1 := bin_mod c 2147483647 (by decide)
  have d2 := bin_mod (c % 2147483647 * (48271 + 2 * k * k) + 69621 * k + 11) 2147483647 (by decide)
  have d3 := bin_mod ((c % 2147483647 * (48271 + 2 * k * k) + 69621 * k + 11) % 2147483647 * 69621) 2147483629 (by decide)
  simp [F__law_mixed, b__law_mixed, mixZ, m1, m2, m3, m4, m5, d1, d2, d3]
theorem mixZ_bd (c k : Int) : 0 ≤ mixZ c k ∧ mixZ c k < 2147483629 := ⟨Int.emod_nonneg _ (by decide), Int.emod_lt_of_pos _ (by decide)⟩
def drawZ (c at_ lim : Int) : Int := (mixZ (mixZ c at_) (40 + at_) * 2147483647 + mixZ (mixZ (mixZ c at_) (40 + at_)) (7 + at_)) / 64 % lim
theorem call_draw1 (h : HDraw g) (cells lefts : List Int) (at_ lim : Int) (k : Nat) (c l : Int) (ha : 0 ≤ at_) (ha2 : at_ < 2 ^ 40) (hl : 0 < lim) (hl2 : lim < 1073741824) (hk : at_ % (cells.length : Int) = (k : Int)) (hne : 0 < (cells.length : Int)) (hc : cells[k]? = some c) (hf : lefts[k]? = some l) (hpos : 0 < l) :
    (belowN g (n + 2)).call 14 [stD cells lefts at_, .int lim] = .ok (.int (l % lim)) (some (stD cells (lefts.set k (l / lim)) (at_ + 1))) := by
  refine call_by h.f14 rfl rfl ?_
  have d1 := bin_mod at_ cells.length hne
  have d2 := bin_mod l lim hl
  have d3 := bin_fdiv l lim hl hl2
  have p1 := put_int (y := l / lim) hf
  have i1 := ix_at hc
  have i2 := ix_at hf
  simp [F__law_draw, b__law_draw, stD, lk_at, lk_cells, lk_lefts, d1, d2, hk, i1, i2, put_at, put_lefts, pkPut, hpos, d3, p1]
theorem call_draw0 (h : HDraw g) (cells lefts : List Int) (at_ lim : Int) (k : Nat) (c l : Int) (ha : 0 ≤ at_) (ha2 : at_ < 2 ^ 40) (hl : 0 < lim) (hk : at_ % (cells.length : Int) = (k : Int)) (hne : 0 < (cells.length : Int)) (hc : cells[k]? = some c) (hf : lefts[k]? = some l) (hpos : ¬ 0 < l) :
    (belowN g (n + 2)).call 14 [stD cells lefts at_, .int lim] = .ok (.int (drawZ c at_ lim)) (some (stD cells lefts (at_ + 1))) := by
  refine call_by h.f14 rfl rfl ?_
  have d1 := bin_mod at_ cells.length hne
  have i1 := ix_at hc
  have i2 := ix_at hf
  have m1 := call_mixed (n := n) h (c := c) (k := at_) (by omega) (by omega)
  have m2 := call_mixed (n := n) h (c := mixZ c at_) (k := 40 + at_) (by omega) (by omega)
  have m3 := call_mixed (n := n) h (c := mixZ (mixZ c at_) (40 + at_)) (k := 7 + at_) (by omega) (by omega)
  have b1 := bin_mul2 (mixZ (mixZ c at_) (40 + at_)) 2147483647 (by decide)
  have f1 := bin_fdiv (mixZ (mixZ c at_) (40 + at_) * 2147483647 + mixZ (mixZ (mixZ c at_) (40 + at_)) (7 + at_)) 64 (by decide) (by decide)
  have d2 := bin_mod ((mixZ (mixZ c at_) (40 + at_) * 2147483647 + mixZ (mixZ (mixZ c at_) (40 + at_)) (7 + at_)) / 64) lim hl
  simp [F__law_draw, b__law_draw, stD, lk_at, lk_cells, lk_lefts, d1, d2, hk, i1, i2, put_at, put_lefts, pkPut, hpos, h.f13, F__law_mixed, m1, m2, m3, b1, f1, drawZ]
/-- the state's shape; m draws at most were made -/
def StOk (m : Nat) (d : D) : Prop := ∃ (cells lefts : List Int) (at_ : Nat), d = stD cells lefts at_ ∧ at_ ≤ m ∧ cells ≠ [] ∧ lefts.length = cells.length
theorem StOk.mono {m m' : Nat} {d : D} (h : StOk m d) (hm : m ≤ m') : StOk m' d := by
  obtain ⟨c, l, a, e, h1, h2, h3⟩ := h
  exact ⟨c, l, a, e, by omega, h2, h3⟩
theorem StOk.nx {m : Nat} {d : D} (h : StOk m d) : noXc d = some d := by
  obtain ⟨c, l, a, rfl, _⟩ := h
  rfl
theorem draw (h : HDraw g) {m lim : Nat} {d : D} (s : StOk m d) (hm : m < 2 ^ 40) (hl : 0 < lim) (hl2 : lim < 1073741824) :
    ∃ r d', r < lim ∧ StOk (m + 1) d' ∧ (belowN g (n + 2)).call 14 [d, nat lim] = .ok (nat r) (some d') := by
  obtain ⟨cells, lefts, at_, rfl, h2, h3, h4⟩ := s
  have hp : 0 < cells.length := List.length_pos_iff.mpr h3
  have hne : 0 < (cells.length : Int) := by omega
  have hk2 := Nat.mod_lt at_ hp
  have hk : (at_ : Int) % (cells.length : Int) = ((at_ % cells.length : Nat) : Int) := by omega
  have hc : cells[at_ % cells.length]? = some cells[at_ % cells.length] := List.getElem?_eq_getElem hk2
  have hf : lefts[at_ % cells.length]? = some (lefts[at_ % cells.length]'(by omega)) := List.getElem?_eq_getElem (by omega)
  have hl3 : (0 : Int) < (lim : Int) := by omega
  have toN : ∀ z : Int, 0 ≤ z → z < (lim : Int) → ∃ r : Nat, r < lim ∧ z = (r : Int) := fun z h1 h2 => ⟨z.toNat, by omega, by omega⟩
  by_cases hpos : 0 < lefts[at_ % cells.length]'(by omega)
  · have e := call_draw1 (n := n) h cells lefts at_ lim _ _ _ (by omega) (by omega) hl3 (by omega) hk hne hc hf hpos
    obtain ⟨r, hr, er⟩ := toN _ (Int.emod_nonneg (lefts[at_ % cells.length]'(by omega)) (by omega : (lim : Int) ≠ 0)) (Int.emod_lt_of_pos _ hl3)
    rw [er] at e
    exact ⟨r, _, hr, ⟨cells, _, at_ + 1, rfl, by omega, h3, by simp [h4]⟩, e⟩
  · have e := call_draw0 (n := n) h cells lefts at_ lim _ _ _ (by omega) (by omega) hl3 hk hne hc hf hpos
    obtain ⟨r, hr, er⟩ := toN (drawZ (cells[at_ % cells.length]) at_ lim) (Int.emod_nonneg _ (by omega : (lim : Int) ≠ 0)) (Int.emod_lt_of_pos _ hl3)
    rw [er] at e
    exact ⟨r, _, hr, ⟨cells, lefts, at_ + 1, rfl, by omega, h3, h4⟩, e⟩
theorem law_of (h : HDraw g) (h15 : g.fns 15 = some F__law_of) {m : Nat} {d : D} (s : StOk m d) (hm : m < 2 ^ 40) {c : D} {xs : List D} (hc : c = .lst false xs ∨ c = .tup xs) (fz : D.frozens xs = true) (hne : xs ≠ []) (hx : xs.length < 100000) :
    ∃ (k : Nat) (x d' : D), xs[k]? = some x ∧ StOk (m + 1) d' ∧ (belowN g (n + 3)).call 15 [d, c] = .ok x (some d') := by
  have hp : 0 < xs.length := List.length_pos_iff.mpr hne
  obtain ⟨r, d', hr, h', e⟩ := draw (n := n) h s hm (lim := xs.length) hp (by omega)
  have hkx : xs[r]? = some xs[r] := List.getElem?_eq_getElem hr
  refine ⟨r, xs[r], d', hkx, h', call_by h15 rfl rfl ?_⟩
  have fx := fz_get fz hkx
  have ia := atI_nat hkx
  have s1 := s.nx
  have s2 := h'.nx
  rcases hc with rfl | rfl <;> simp [F__law_of, b__law_of, s1, fz, h.f14, F__law_draw, e, ia, fx, s2]
theorem frzs_ints : ∀ {l : List Int}, D.frzs (l.map D.int) = l.map D.int
  | [] => rfl
  | x :: l => by simp [frzs_ints (l := l)]
theorem pys_ints : ∀ l : List Int, D.pys (l.map .int) = some (l.map PyData.int)
  | [] => by simp [D.pys]
  | x :: l => by simp [D.pys, D.py, pys_ints l]
theorem canLay_ints : ∀ l : List Int, PyData.canLayAll0 (l.map PyData.int) = true
  | [] => by simp [PyData.canLayAll0]
  | x :: l => by simp [PyData.canLayAll0, PyData.canLay0, canLay_ints l]
theorem depth_ints : ∀ l : List Int, PyData.depthAll (l.map PyData.int) = 0
  | [] => by simp [PyData.depthAll]
  | x :: l => by simp [PyData.depthAll, PyData.depth, depth_ints l]
theorem eqD_ints_nil {m m' : Bool} {ns : List Int} : eqD (.lst m (ns.map .int)) (.lst m' []) = some ns.isEmpty := by
  unfold eqD
  simp only [D.py, pys_ints, D.pys, Option.map_some]
  have h1 : SeqAt.shaped (PyData.list (ns.map PyData.int)) = true := by
    simp [SeqAt.shaped, PyData.canLay0, PyData.depth, canLay_ints, depth_ints]
  have h2 : SeqAt.shaped (PyData.list []) = true := by
    simp [SeqAt.shaped, PyData.canLay0, PyData.depth, PyData.canLayAll0, PyData.depthAll]
  rw [h1, h2]
  cases ns <;> simp [PyData.eqv, PyData.eqvAll]
theorem pow18 : bin .pow (.int 10) (.int 18) = some (.int 1000000000000000000) := by
  simp [bin]
theorem law_begin (h : g.fns 12 = some F__law_begin) (ns : List Int) (hl : ns.length ≤ 1000) : ∃ d, StOk 0 d ∧ (belowN g (n + 1)).call 12 [.lst false (ns.map .int)] = .ok d none := by
  have eq : ∀ (cs : List Int), Wp (exComp [2] (.v 2) (evCond g (belowN g n) none) (ev g (belowN g n) c__law_begin_1) (cs.map .int) [some (.lst false (ns.map .int)), some (.lst false (cs.map .int)), none]) fun q => q.1 = (cs.map .int).map (fun d => D.int (if (10 : Int) ^ 18 ≤ intOf d then intOf d else 0)) ∧ ∃ a, q.2 = [some (.lst false (ns.map .int)), some (.lst false (cs.map .int)), a] := fun cs => by
    refine comp_map0 (fun d => D.int (if (10 : Int) ^ 18 ≤ intOf d then intOf d else 0)) (fun sl => ∃ a, sl = [some (.lst false (ns.map .int)), some (.lst false (cs.map .int)), a]) (fun sl => by simp) ⟨_, rfl⟩ ?_
    rintro d sl hd ⟨a, rfl⟩
    obtain ⟨z, hz, rfl⟩ := List.mem_map.mp hd
    simp [c__law_begin_1, pow18]
    by_cases hz : (1000000000000000000 : Int) ≤ z
    · simp [hz]
    · simp [hz]
  have fin : ∀ cs : List Int, cs ≠ [] → StOk 0 (.dic true [.inr "cells", .inr "lefts", .inr "at"] [.lst false (cs.map .int), .lst true ((cs.map .int).map (fun d => D.int (if (10 : Int) ^ 18 ≤ intOf d then intOf d else 0))), .int 0]) := fun cs hc => by
    refine ⟨cs, cs.map fun z => if (10 : Int) ^ 18 ≤ z then z else 0, 0, ?_, Nat.le_refl _, hc, by simp⟩
    unfold stD
    first | (simp; done) | (simp; intros; rfl)
  have hs : ns.length ≤ sizeLine := Nat.le_trans hl (by decide)
  refine call_ex (r := fun d => .ok d none) h rfl rfl ?_
  cases ns with
  | nil =>
    have eq0 := eqD_ints_nil (m := false) (m' := true) (ns := [])
    simp only [List.map_nil] at eq0
    simp [F__law_begin, b__law_begin, eq0, clear]
    refine (eq [0]).mono ?_
    rintro ⟨l, sl⟩ ⟨rfl, a, rfl⟩
    have := fin [0] (by simp)
    simp at this
    simp [this]
  | cons z zs =>
    have eq0 := eqD_ints_nil (m := false) (m' := true) (ns := z :: zs)
    simp only [List.map_cons] at eq0
    have e2 := eq (z :: zs)
    simp only [List.map_cons] at e2
    simp [F__law_begin, b__law_begin, eq0, clear, frzs_ints]
    refine e2.mono ?_
    rintro ⟨l, sl⟩ ⟨rfl, a, rfl⟩
    have := fin (z :: zs) (by simp)
    simp at this
    have hs : zs.length + 1 ≤ sizeLine := hs
    simp [this, hs]
end
end Run
end Q

set_option Elab.async false
set_option linter.all false
set_option maxRecDepth 100000
set_option maxHeartbeats 4000000
/-! M6: drawn machines, drawn words, the law's own walk. -/
namespace Q
namespace Run
open PySem L2
theorem szl : sizeLine = 16777216 := by decide
theorem sm40 {k m : Nat} (h : k < m) (h2 : m ≤ 1000000000000) : small40 k := by unfold small40; omega
theorem range_get {n j : Nat} {d : D} (h : ((List.range n).map fun (i : Nat) => D.int (i : Int))[j]? = some d) : j < n ∧ d = nat j := by
  rw [List.getElem?_map] at h
  by_cases hj : j < n
  · rw [List.getElem?_range hj] at h
    exact ⟨hj, (Option.some.inj h).symm⟩
  · rw [List.getElem?_eq_none (by simpa using hj)] at h
    cases h
@[scoped simp] theorem frzs_rows : ∀ {l : List (List Nat)}, D.frzs (l.map nats) = l.map nats
  | [] => id rfl
  | x :: l => by simp [frzs_rows (l := l)]
section
variable {g : G} {n : Nat}
/-- a row of draws below lim -/
theorem comp_draw (h : HDraw g) {own : List Nat} {t : Tg} {elt : E} {lim many : Nat} (hl : 0 < lim) (hl2 : lim < 1073741824) (J : D → Sl → Prop) {m : Nat} (hm : m + many < 2 ^ 40) {sl : Sl} {d0 : D} (s : StOk m d0) (h0 : J d0 sl)
    (hs : ∀ (k : Nat) d sl d', J d sl → StOk (m + many) d → (belowN g (n + 2)).call 14 [d, nat lim] = .ok (nat k) (some d') → StOk (m + many) d' → ∀ x, Wp (R.of (asg t x (wipeS sl own))) fun sl1 => Wp (ev g (belowN g (n + 2)) elt sl1) fun q => q.1 = nat k ∧ J d' q.2) :
    Wp (exComp own t (evCond g (belowN g (n + 2)) none) (ev g (belowN g (n + 2)) elt) ((List.range many).map fun (i : Nat) => D.int (i : Int)) sl) fun q => ∃ r d', q.1 = List.map nat r ∧ r.length = many ∧ (∀ x ∈ r, x < lim) ∧ StOk (m + many) d' ∧ J d' q.2 := by
  refine comp_inv (fun k acc sl => ∃ r d, acc = List.map nat r ∧ r.length = k ∧ (∀ x ∈ r, x < lim) ∧ k ≤ many ∧ StOk (m + k) d ∧ J d sl) (k := 0) (acc := []) ⟨[], d0, rfl, rfl, fun x hx => (nomatch hx), Nat.zero_le _, s, h0⟩ ?_ ?_
  · rintro j d acc sl hd ⟨r, d1, rfl, q1, q2, q3, q4, q5⟩
    obtain ⟨hj, rfl⟩ := range_get hd
    obtain ⟨k, d2, hk, s2, e⟩ := draw (n := n) h q4 (by omega) hl hl2
    refine (hs k d1 sl d2 q5 (q4.mono (by omega)) e (s2.mono (by omega)) (nat j)).mono fun sl1 h1 => ?_
    simp only [evCond_none0, Wp_ok]
    refine h1.mono fun q hq => ?_
    rw [hq.1]
    refine ⟨rfl, r ++ [k], d2, by simp, by simp [q1], fun x hx => ?_, by omega, s2, hq.2⟩
    rcases List.mem_append.mp hx with hx | hx
    · exact q2 x hx
    · rw [List.mem_singleton.mp hx]; exact hk
  · rintro ys sl ⟨r, d, q0, q1, q2, q3, q4, q5⟩
    have q0 : ys = List.map nat r := by simpa using q0
    have e : (List.map (fun (i : Nat) => D.int (i : Int)) (List.range many)).length = many := by simp
    rw [e] at q1 q4
    exact ⟨r, d, q0, by omega, q2, by simpa using q4, q5⟩
theorem law_word (h : HDraw g) (h17 : g.fns 17 = some F__law_word) {m cnt most : Nat} {d : D} (s : StOk m d) (hm : m + most + 1 < 2 ^ 40) (c1 : 0 < cnt) (c2 : cnt < 1000000) (hmo : most < 1000000) :
    ∃ q : List Nat × D, ((∀ x ∈ q.1, x < cnt) ∧ q.1.length ≤ most ∧ StOk (m + most + 1) q.2) ∧ (belowN g (n + 3)).call 17 [d, nat cnt, nat most] = .ok (nats q.1) (some q.2) := by
  obtain ⟨k, d1, hk, s1, e1⟩ := draw (n := n) h s (by omega) (lim := most + 1) (by omega) (by omega)
  refine call_ex h17 rfl rfl ?_
  rw [show nat (most + 1) = .int ((most : Int) + 1) from rfl] at e1
  have q1 := s.nx
  have q2 := s1.nx
  simp [F__law_word, b__law_word, q1, h.f14, F__law_draw, e1, q2, rngR_nat (sm40 hk (by omega)), clear]
  refine (comp_draw (n := n) h c1 (by omega) (fun d sl => ∃ a, sl = [some d, some (nat cnt), some (nat most), a]) (m := m + 1) (many := k) (by omega) s1 ⟨_, rfl⟩ ?_).mono ?_
  · rintro j d2 sl d3 ⟨a, rfl⟩ s2 e s3 x
    have q2 := s2.nx
    have q3 := s3.nx
    simp [c__law_word_1, q2, h.f14, F__law_draw, e, q3]
  · rintro ⟨l, sl⟩ ⟨r, d2, rfl, r1, r2, r3, a, rfl⟩
    have q3 := r3.nx
    have hs : r.length ≤ sizeLine := by rw [szl]; omega
    simp [hs, q3, nats]
    exact ⟨r, ⟨r2, by omega, r3.mono (by omega)⟩, rfl⟩
theorem like (h18 : g.fns 18 = some F__law_like) {d : D} {k j : Nat} (y : Sy k j d) (sq : isSeqD d = true) (fz : d.frozen = true) (hk : k ≤ 16777216) (hj : j ≤ 64) : (belowN g (n + 1)).call 18 [d, d] = .ok (.bl true) none := by
  refine call_by h18 rfl rfl ?_
  obtain ⟨t, ht⟩ := y.shD sq (by rw [szl]; exact hk) hj
  have q := noXc_fz fz
  simp [F__law_like, b__law_like, q, fz, ht]
theorem call_law_end (h : g.fns 19 = some F__law_end) {m : Mach} {s : Nat} {w : List Nat} (ok : MOk m) (hs : s < m.steps.length) (hw : ∀ x ∈ w, x < m.cnt) :
    (belowN g (n + 1)).call 19 [m.d, nat s, nats w] = .ok (nat (endF m.steps s w)) none := by
  refine call_by h rfl rfl ?_
  simp [F__law_end, b__law_end]
  refine (for_fold (fun s d => go m.steps s (intOf d).toNat) (fun t sl => t < m.steps.length ∧ ∃ a, sl = [some m.d, some (nat s), some (nats w), some (nat t), a]) (a := s) ⟨hs, _, rfl⟩ ?_).mono ?_
  · rintro d t sl hd ⟨ht, a, rfl⟩
    obtain ⟨x, hx, rfl⟩ := List.mem_map.mp hd
    have i1 := item_steps ht
    rw [item_tup] at i1
    have i2 := go_item ok.st ht (hw x hx)
    simp [l__law_end_1, i1, i2, go_lt ok.st ht (hw x hx)]
  · rintro ⟨f, sl⟩ ⟨rfl, hs, a, rfl⟩
    rw [foldl_nats]
    simp
theorem call_law_lets (h19 : g.fns 19 = some F__law_end) (h : g.fns 20 = some F__law_lets) {m : Mach} {w : List Nat} (ok : MOk m) (hw : ∀ x ∈ w, x < m.cnt) :
    (belowN g (n + 2)).call 20 [m.d, nats w] = .ok (.bl (decide (endF m.steps 0 w ∈ m.kept))) none := by
  refine call_by h rfl rfl ?_
  have e := call_law_end (n := n) h19 ok (show 0 < m.steps.length from ok.s1) hw
  rw [show nat 0 = .int 0 from rfl] at e
  simp [F__law_lets, b__law_lets, h19, F__law_end, e]
theorem law_machine (h : HDraw g) (h16 : g.fns 16 = some F__law_machine) {m cnt most : Nat} {d : D} (s : StOk m d) (hm : m < 1000000) (c1 : 1 ≤ cnt) (c2 : cnt ≤ 4) (m1 : 1 ≤ most) (m2 : most ≤ 60) :
    ∃ q : Mach × D, (MOk q.1 ∧ q.1.cnt = cnt ∧ q.1.steps.length ≤ most ∧ StOk (m + 1 + most * cnt + most) q.2) ∧ (belowN g (n + 3)).call 16 [d, nat cnt, nat most] = .ok q.1.d (some q.2) := by
  obtain ⟨k, d1, hk, s1, e1⟩ := draw (n := n) h s (by omega) (lim := most) (by omega) (by omega)
  refine call_ex h16 rfl rfl ?_
  have q1 := s.nx
  have q2 := s1.nx
  obtain ⟨many, hm1, hm2, eb⟩ : ∃ many : Nat, 1 ≤ many ∧ many ≤ most ∧ (1 : Int) + (k : Int) = (many : Int) := ⟨k + 1, by omega, by omega, by omega⟩
  have ra := fun sl => rngR_nat (sl := sl) (sm40 (Nat.lt_succ_of_le hm2) (by omega))
  have rc := fun sl => rngR_nat (sl := sl) (sm40 (Nat.lt_succ_of_le c2) (by omega))
  have le1 : ∀ x : Nat, x ≤ 100 → x ≤ sizeLine := fun x hx => by rw [szl]; omega
  simp [F__law_machine, b__law_machine, q1, h.f14, F__law_draw, e1, q2, eb, ra]
  refine (for_inv (fun j sl => ∃ st rows a, StOk (m + 1 + j * cnt) st ∧ sl = [some st, some (nat cnt), some (nat most), some (nat many), some (.lst true (List.map nats rows)), a, none] ∧ rows.length = j ∧ j ≤ many ∧ ∀ r ∈ rows, r.length = cnt ∧ ∀ x ∈ r, x < many) (k := 0) ⟨d1, [], _, by simpa using s1, rfl, rfl, Nat.zero_le _, fun r hr => (nomatch hr)⟩ ?_ ?_)
  · rintro j x sl hx ⟨st, rows, a, t1, rfl, t2, t3, t4⟩
    obtain ⟨hj, rfl⟩ := range_get hx
    have q3 := t1.nx
    have hjc : j * cnt + cnt ≤ 60 * 4 := by
      have : j * cnt + cnt = (j + 1) * cnt := by rw [Nat.succ_mul]
      rw [this]
      exact Nat.mul_le_mul (by omega) c2
    simp only [Nat.zero_add] at t1
    simp [l__law_machine_1, rc, clear]
    refine (comp_draw (n := n) h (lim := many) (many := cnt) (by omega) (by omega) (fun d sl => ∃ a, sl = [some d, some (nat cnt), some (nat most), some (nat many), some (.lst true (List.map nats rows)), some (nat j), a]) (by omega) t1 ⟨_, rfl⟩ ?_).mono ?_
    · rintro i d2 sl d3 ⟨a, rfl⟩ s2 e s3 x
      have q2 := s2.nx
      have q3 := s3.nx
      simp [c__law_machine_1, q2, h.f14, F__law_draw, e, q3]
    · rintro ⟨l, sl⟩ ⟨r, d2, rfl, r1, r2, r3, a, rfl⟩
      have q4 := r3.nx
      have hr : rows.length < sizeLine := by rw [szl]; omega
      have e1 : (j + 1) * cnt = j * cnt + cnt := Nat.succ_mul _ _
      simp [le1 cnt (by omega), r1, appD, hr]
      refine ⟨d2, by rw [e1]; exact r3.mono (by omega), rows ++ [r], by simp [nats], by simp [t2], by omega, fun r' hr' => ?_⟩
      rcases List.mem_append.mp hr' with hr' | hr'
      · exact t4 r' hr'
      · rw [List.mem_singleton.mp hr']
        exact ⟨r1, r2⟩
  · rintro sl ⟨st, rows, a, t1, rfl, t2, t3, t4⟩
    have q3 := t1.nx
    simp [clear, ra]
    have el : 0 + (List.map (fun (i : Nat) => D.int (i : Int)) (List.range many)).length = many := by simp
    rw [el] at t1 t2
    have hmc : many * cnt ≤ most * cnt := Nat.mul_le_mul_right _ hm2
    have hmc2 : most * cnt ≤ 60 * 4 := Nat.mul_le_mul m2 c2
    refine (comp_inv (fun j acc sl => ∃ l st, acc = List.map nat l ∧ l.Pairwise (· < ·) ∧ (∀ x ∈ l, x < j) ∧ l.length ≤ j ∧ j ≤ many ∧ StOk (m + 1 + many * cnt + j) st ∧ ∃ a, sl = [some st, some (nat cnt), some (nat most), some (nat many), some (.lst true (List.map nats rows)), a, none]) (k := 0) (acc := []) ⟨[], st, rfl, .nil, fun x hx => (nomatch hx), Nat.zero_le _, Nat.zero_le _, t1, _, rfl⟩ ?_ ?_)
    · rintro j x acc sl hx ⟨l, st, rfl, l1, l2, l3, l4, t1, a, rfl⟩
      obtain ⟨hj, rfl⟩ := range_get hx
      simp only [Nat.zero_add] at l2 l3 l4 t1 ⊢
      obtain ⟨r, st', hr, s2, e⟩ := draw (n := n) h t1 (by omega) (lim := 2) (by omega) (by omega)
      rw [show nat 2 = .int 2 from rfl] at e
      have q3 := t1.nx
      have q4 := s2.nx
      simp [q__law_machine_1, q3, h.f14, F__law_draw, e, q4]
      by_cases hr0 : r = 0
      · subst hr0
        simp [c__law_machine_2, q4]
        refine ⟨l ++ [j], by simp, ?_, fun x hx => ?_, by simp; omega, by omega, s2⟩
        · rw [List.pairwise_append]
          refine ⟨l1, List.pairwise_singleton _ _, fun x hx y hy => ?_⟩
          rw [List.mem_singleton.mp hy]
          exact l2 x hx
        · rcases List.mem_append.mp hx with hx | hx
          · have := l2 x hx; omega
          · rw [List.mem_singleton.mp hx]; omega
      · have hr0' : ¬ ((r : Int) = 0) := by omega
        simp [hr0]
        exact ⟨l, rfl, l1, fun x hx => Nat.lt_succ_of_lt (l2 x hx), by omega, by omega, s2⟩
    · rintro ys sl ⟨l, st, l0, l1, l2, l3, l4, t1, a, rfl⟩
      have l0 : ys = List.map nat l := by simpa using l0
      subst l0
      rw [el] at l2 l3 l4 t1
      have q4 := t1.nx
      simp [le1 l.length (by omega), q4, frzs_nats]
      refine ⟨⟨cnt, rows, l⟩, ⟨⟨c1, c2, ?_, ?_, ⟨?_⟩, l1, ?_⟩, rfl, ?_, t1.mono (by omega)⟩, rfl⟩
      · show 1 ≤ rows.length; omega
      · show rows.length ≤ 60; omega
      · intro r hr
        obtain ⟨z1, z2⟩ := t4 r hr
        exact ⟨z1, fun x hx => by rw [t2]; exact z2 x hx⟩
      · intro x hx
        show x < rows.length
        rw [t2]; exact l2 x hx
      · show rows.length ≤ most; omega
end
end Run
end Q

set_option Elab.async false
set_option linter.all false
set_option maxRecDepth 100000
set_option maxHeartbeats 4000000
/-! M7: k00: what is nearly a machine. -/
namespace Q
namespace Run
open PySem L2
mutual
theorem frz_id : ∀ {d : D}, d.frozen = true → d.frz = d
  | .tup xs, h => by
    rw [fzn_tup] at h
    rw [frz_tup, frzs_id h]
  | .lst m xs, h => by
    rw [fzn_lst, Bool.and_eq_true] at h
    rw [frz_lst, frzs_id h.2]
    cases m
    · rfl
    · exact nomatch h.1
  | .dic m ks xs, h => by
    rw [fzn_dic, Bool.and_eq_true] at h
    rw [D.frz, frzs_id h.2]
    cases m
    · rfl
    · exact nomatch h.1
  | .non, _ => rfl
  | .bl _, _ => rfl
  | .int _, _ => rfl
  | .str _, _ => rfl
  | .xc _ _, _ => by rw [D.frz] <;> intros <;> contradiction
theorem frzs_id : ∀ {xs : List D}, D.frozens xs = true → D.frzs xs = xs
  | [], _ => rfl
  | x :: xs, h => by
    rw [fzs_cons, Bool.and_eq_true] at h
    rw [frzs_cons, frz_id h.1, frzs_id h.2]
end
theorem slice_take {xs : List D} {k : Nat} (h : D.frozens xs = true) (hk : k ≤ xs.length) : slice (.tup xs) none (some (k : Int)) = some (.tup (xs.take k)) := by
  unfold slice
  simp only
  rw [if_pos h]
  congr 2
  unfold cutD
  have : HT.sIx xs.length xs.length (some (k : Int)) = k := by
    rw [HT.sIx_nat]
    omega
  rw [this]
  simp [HT.sIx]
theorem slice_drop {xs : List D} {k : Nat} (h : D.frozens xs = true) (hk : k ≤ xs.length) : slice (.tup xs) (some (k : Int)) none = some (.tup (xs.drop k)) := by
  unfold slice
  simp only
  rw [if_pos h]
  congr 2
  unfold cutD
  have : HT.sIx xs.length 0 (some (k : Int)) = k := by
    rw [HT.sIx_nat]
    omega
  rw [this]
  simp only [HT.sIx]
  rw [List.take_of_length_le]
  simp
theorem slice_last {xs : List D} (h : D.frozens xs = true) (hk : 0 < xs.length) : slice (.tup xs) (some (-1)) none = some (.tup (xs.drop (xs.length - 1))) := by
  unfold slice
  simp only
  rw [if_pos h]
  congr 2
  unfold cutD
  have : HT.sIx xs.length 0 (some (-1)) = xs.length - 1 := by
    unfold HT.sIx
    simp
    omega
  rw [this]
  simp only [HT.sIx]
  rw [List.take_of_length_le]
  simp
theorem bin_mult {xs : List D} {k : Nat} (h : D.frozens xs = true) (hk : k ≤ 16777216) (hl : xs.length * k ≤ 16777216) : bin .mul (.tup xs) (.int (k : Int)) = some (.tup (List.replicate k xs).flatten) := by
  unfold bin
  simp only
  rw [if_pos]
  · simp
  · rw [szl]
    simp [h, hl]
    omega
theorem bin_mull {xs : List D} {k : Nat} (h : D.frozens xs = true) (hk : k ≤ 16777216) (hl : xs.length * k ≤ 16777216) : bin .mul (.lst true xs) (.int (k : Int)) = some (.lst true (List.replicate k xs).flatten) := by
  unfold bin
  simp only
  rw [if_pos]
  · simp
  · rw [szl]
    simp [h, hl]
    omega
theorem bin_addl {m m' : Bool} {xs ys : List D} (hl : xs.length + ys.length ≤ 16777216) (h1 : D.frozens xs = true) (h2 : D.frozens ys = true) : bin .add (.lst m xs) (.lst m' ys) = some (.lst true (xs ++ ys)) := by
  simp [bin, h1, h2, szl, hl]
theorem bin_addt' {xs ys : List D} (hl : xs.length + ys.length ≤ 16777216) (h1 : D.frozens xs = true) (h2 : D.frozens ys = true) : bin .add (.tup xs) (.tup ys) = some (.tup (xs ++ ys)) := by
  simp [bin, h1, h2, szl, hl]
theorem eqD_nats_nil {l : List Nat} : eqD (nats l) (.tup []) = some l.isEmpty := by
  unfold eqD nats
  simp only [D.py, pys_nats, D.pys, Option.map_some]
  have h1 : SeqAt.shaped (PyData.tuple (l.map fun n : Nat => PyData.int (n : Int))) = true := by
    simp [SeqAt.shaped, PyData.canLay0, PyData.depth, canLay_nats, depth_nats]
  have h2 : SeqAt.shaped (PyData.tuple []) = true := by
    simp [SeqAt.shaped, PyData.canLay0, PyData.depth, PyData.canLayAll0, PyData.depthAll]
  rw [h1, h2]
  cases l <;> simp [PyData.eqv, PyData.eqvAll]
def OddOk (x : D) : Prop := ∃ o l, x = .tup [o, nats l] ∧ gd o = true ∧ machW o = some l ∧ l.length ≤ 3 ∧ ∀ y ∈ l, y < 1000
def bads (many : Nat) : List D := [nat many, .int (-1), .non, .bl true, .str "0", .tup [.int 0], .lst false [.int 0]]
theorem bads_ok {many : Nat} (h1 : 1 ≤ many) {b : D} (h : b ∈ bads many) : gd b = true ∧ isNum 0 ((many : Int) - 1) b = false := by
  unfold bads at h
  simp only [List.mem_cons, List.not_mem_nil, or_false] at h
  rcases h with rfl | rfl | rfl | rfl | rfl | rfl | rfl <;> simp [isNum]
  omega
theorem stepsW_at {cnt N : Nat} {A B : List D} {x : D} {l : List Nat} (hA : ∀ i, i < A.length → rowW cnt N i A[i]? = none) (hN : A.length + 1 + B.length = N) (h2 : N ≤ 60) (hx : rowW cnt N A.length (some x) = some l) : stepsW cnt (.tup (A ++ x :: B)) = some l := by
  have e : (A ++ x :: B).length = N := by simp; omega
  unfold stepsW
  simp only
  rw [e, if_pos ⟨by omega, h2⟩]
  refine firstW_some (j := A.length) (by omega) ?_ fun k hk => ?_
  · rw [List.getElem?_append_right (Nat.le_refl _)]
    simpa using hx
  · rw [List.getElem?_append_left hk]
    exact hA k hk
theorem rows_ok {cnt : Nat} {steps : List (List Nat)} (h : StepsOk cnt steps) {k : Nat} : ∀ i, i < ((steps.take k).map nats).length → rowW cnt steps.length i ((steps.take k).map nats)[i]? = none := fun i hi => by
  have hi : i < (steps.take k).length := by simpa using hi
  have hi2 : i < steps.length := by
    rw [List.length_take] at hi; omega
  obtain ⟨q1, q2⟩ := h.row _ (List.getElem_mem hi2)
  rw [List.getElem?_map, List.getElem?_eq_getElem hi]
  simp only [Option.map_some, rowW, nats, List.length_map, List.getElem_take]
  rw [if_pos q1]
  refine firstW_none fun j hj => ?_
  have hj : j < steps[i].length := by omega
  rw [List.getElem?_map, List.getElem?_eq_getElem hj]
  have := q2 _ (List.getElem_mem hj)
  simp only [Option.map_some]
  rw [if_pos (isNum_nat (by omega) (by omega))]
theorem machW_c {cnt : Nat} (c1 : 1 ≤ cnt) (c2 : cnt ≤ 4) {s k : D} {l : List Nat} (h : stepsW cnt s = some l) : machW (.tup [nat cnt, s, k]) = some (1 :: l) := by
  unfold machW
  simp only
  rw [if_pos (isNum_nat (by omega) (by omega))]
  have e : (intOf (nat cnt)).toNat = cnt := by simp
  rw [e, h]
theorem machW_k {cnt : Nat} (c1 : 1 ≤ cnt) (c2 : cnt ≤ 4) {rows : List D} {k : D} {l : List Nat} (h : stepsW cnt (.tup rows) = none) (h2 : letsW rows.length k = some l) : machW (.tup [nat cnt, .tup rows, k]) = some (2 :: l) := by
  unfold machW
  simp only
  rw [if_pos (isNum_nat (by omega) (by omega))]
  have e : (intOf (nat cnt)).toNat = cnt := by simp
  rw [e, h]
  simp [h2]
theorem letsW_at {many : Nat} {A B : List D} {x : D} (hA : ∀ i, i < A.length → letW many (A ++ x :: B) i = none) (hx : letW many (A ++ x :: B) A.length = some [A.length]) : letsW many (.tup (A ++ x :: B)) = some [A.length] := by
  unfold letsW
  exact firstW_some (j := A.length) (by simp) hx hA
theorem letW_kept {many : Nat} {kept : List Nat} (kp : kept.Pairwise (· < ·)) (kb : ∀ x ∈ kept, x < many) {B : List D} {i : Nat} (hi : i < (kept.map nat).length) : letW many (kept.map nat ++ B) i = none := by
  have hk : i < kept.length := by simpa using hi
  have hb := kb _ (List.getElem_mem hk)
  simp only [letW, List.getElem?_append_left hi, List.getElem?_map, List.getElem?_eq_getElem hk, Option.map_some]
  rw [if_pos]
  rw [isNum_nat (by omega) (by omega)]
  cases i with
  | zero => rfl
  | succ k =>
    have h1 : k < kept.length := by omega
    have := List.pairwise_iff_getElem.mp kp k (k + 1) h1 hk (by omega)
    have h2 : k < (kept.map nat).length := by simpa using h1
    simp only [Nat.add_sub_cancel, List.getElem?_append_left h2, List.getElem?_map, List.getElem?_eq_getElem h1]
    simp
    exact this
/-- an element of the lot, told by its text -/
def EvOdd (g : G) (b : Below) (sl : Sl) (e : E) : Prop := ∃ x, OddOk x ∧ ev g b e sl = .ok (x, sl)
theorem oddOk_fz {x : D} (h : OddOk x) : x.frozen = true := by
  obtain ⟨o, l, rfl, q, _⟩ := h
  simp [good_fz q]
theorem evs_odd {g : G} {b : Below} {sl : Sl} : ∀ {es : List E}, (∀ e ∈ es, EvOdd g b sl e) → ∃ xs, (∀ x ∈ xs, OddOk x) ∧ xs.length = es.length ∧ evs g b es sl = .ok (xs, sl)
  | [], _ => ⟨[], fun x hx => (nomatch hx), rfl, by simp⟩
  | e :: es, h => by
    obtain ⟨x, hx, e1⟩ := h e (.head _)
    obtain ⟨xs, h1, h2, e2⟩ := evs_odd (es := es) fun e he => h e (.tail _ he)
    refine ⟨x :: xs, fun y hy => ?_, by simp [h2], by simp [e1, e2]⟩
    rcases List.mem_cons.mp hy with rfl | hy
    · exact hx
    · exact h1 y hy
/-- the lot -/
def LotOk (k : Nat) (lot : List D) : Prop := lot.length ≤ k ∧ lot ≠ [] ∧ ∀ x ∈ lot, OddOk x
theorem LotOk.fz {k : Nat} {lot : List D} (h : LotOk k lot) : D.frozens lot = true := fz_all fun x hx => oddOk_fz (h.2.2 x hx)
theorem lot_add {g : G} {b : Below} {sl : Sl} {a0 a1 a2 a3 a4 a5 a6 a7 a8 a9 : Option D} (hsl : sl = [a0, a1, a2, a3, a4, a5, a6, a7, a8, a9, none]) {k : Nat} {lot new : List D} (hl : LotOk k lot) (hn : ∀ x ∈ new, OddOk x) {e : E} (he : ev g b e sl = .ok (.lst true new, sl)) (hk : k + new.length ≤ 100) :
    ∃ lot', LotOk (k + new.length) lot' ∧ ex g b (.set 10 (.bin .add (.move 10) e)) [a0, a1, a2, a3, a4, a5, a6, a7, a8, a9, some (.lst true lot)] = .ok (.nx, [a0, a1, a2, a3, a4, a5, a6, a7, a8, a9, some (.lst true lot')]) := by
  subst hsl
  refine ⟨lot ++ new, ⟨by rw [List.length_append]; have := hl.1; omega, ?_, fun x hx => ?_⟩, ?_⟩
  · have := hl.2.1
    simp [this]
  · rcases List.mem_append.mp hx with hx | hx
    · exact hl.2.2 x hx
    · exact hn x hx
  · have e1 := bin_addl (m := true) (m' := true) (xs := lot) (ys := new) (by have := hl.1; omega) hl.fz (fz_all fun x hx => oddOk_fz (hn x hx))
    simp [he, e1]
theorem lot_lst {g : G} {b : Below} {sl : Sl} {es : List E} (h : ∀ e ∈ es, EvOdd g b sl e) (hl : es.length ≤ 100) : ∃ new, new.length = es.length ∧ (∀ x ∈ new, OddOk x) ∧ ev g b (.lst es) sl = .ok (.lst true new, sl) := by
  obtain ⟨xs, h1, h2, h3⟩ := evs_odd h
  refine ⟨xs, h2, h1, ?_⟩
  have : xs.length ≤ sizeLine := by rw [szl]; omega
  simp [h3, this]
theorem lot_mul {g : G} {b : Below} {sl : Sl} {e : E} {k : Nat} (h : EvOdd g b sl e) (hk : k ≤ 10) : ∃ new, new.length = k ∧ (∀ x ∈ new, OddOk x) ∧ ev g b (.bin .mul (.lst [e]) (.c (.int (k : Int)))) sl = .ok (.lst true new, sl) := by
  obtain ⟨x, hx, e1⟩ := h
  refine ⟨(List.replicate k [x]).flatten, by simp, fun y hy => ?_, ?_⟩
  · obtain ⟨l, hl, hy⟩ := List.mem_flatten.mp hy
    rw [(List.mem_replicate.mp hl).2] at hy
    rw [List.mem_singleton.mp hy]
    exact hx
  · have e2 := bin_mull (xs := [x]) (k := k) (by simp [oddOk_fz hx]) (by omega) (by simp; omega)
    simp [e1, e2]
section
variable {g : G} {n : Nat}
/-- the slots, as they stand for the lot -/
def slO (m : Mach) (spot letter : Nat) (d bad row : D) : Sl := [some d, some m.d, some (nat m.cnt), some (.tup (m.steps.map nats)), some (nats m.kept), some (nat m.steps.length), some (nat spot), some (nat letter), some bad, some row, none]
section
variable {b : Below} {cnt spot letter : Nat} {steps : List (List Nat)} {kept : List Nat} {d bad row : D}
theorem odd1 {sl : Sl} : EvOdd g b sl (.frz (.tup [.c .non, .frz (.tup [])])) := ⟨_, ⟨.non, [], rfl, rfl, rfl, by simp, by simp⟩, by simp [nats]⟩
theorem odd2 : EvOdd g b (slO ⟨cnt, steps, kept⟩ spot letter d bad row) (.frz (.tup [.frz (.tup [.var 2, .var 3]), .frz (.tup [])])) :=
  ⟨_, ⟨.tup [nat cnt, .tup (steps.map nats)], [], rfl, by simp, rfl, by simp, by simp⟩, by simp [nats, slO]⟩
theorem odd3 : EvOdd g b (slO ⟨cnt, steps, kept⟩ spot letter d bad row) (.frz (.tup [.frz (.lst [.var 2, .var 3, .var 4]), .frz (.tup [])])) :=
  ⟨_, ⟨.lst false [nat cnt, .tup (steps.map nats), nats kept], [], rfl, by simp, rfl, by simp, by simp⟩, by simp [nats, slO, frzs_nats]⟩
theorem odd4 {sl : Sl} : EvOdd g b sl (.frz (.tup [.frz (.tup [.c (.int 0), .c .non, .c .non]), .frz (.tup [.c (.int 0)])])) :=
  ⟨_, ⟨.tup [.int 0, .non, .non], [0], rfl, rfl, rfl, by simp, by simp⟩, by simp [nats]⟩
theorem odd5 : EvOdd g b (slO ⟨cnt, steps, kept⟩ spot letter d bad row) (.frz (.tup [.frz (.tup [.c (.int 5), .var 3, .var 4]), .frz (.tup [.c (.int 0)])])) :=
  ⟨_, ⟨.tup [.int 5, .tup (steps.map nats), nats kept], [0], rfl, by simp, rfl, by simp, by simp⟩, by simp [nats, slO, frzs_nats]⟩
theorem odd6 : EvOdd g b (slO ⟨cnt, steps, kept⟩ spot letter d bad row) (.frz (.tup [.frz (.tup [.c (.bl true), .var 3, .var 4]), .frz (.tup [.c (.int 0)])])) :=
  ⟨_, ⟨.tup [.bl true, .tup (steps.map nats), nats kept], [0], rfl, by simp, rfl, by simp, by simp⟩, by simp [nats, slO, frzs_nats]⟩
theorem odd7 (c1 : 1 ≤ cnt) (c2 : cnt ≤ 4) : EvOdd g b (slO ⟨cnt, steps, kept⟩ spot letter d bad row) (.frz (.tup [.frz (.tup [.var 2, .frz (.tup []), .c .non]), .frz (.tup [.c (.int 1)])])) :=
  ⟨_, ⟨.tup [nat cnt, .tup [], .non], [1], rfl, by simp, machW_c c1 c2 rfl, by simp, by simp⟩, by simp [nats, slO]⟩
theorem odd8 (c1 : 1 ≤ cnt) (c2 : cnt ≤ 4) : EvOdd g b (slO ⟨cnt, steps, kept⟩ spot letter d bad row) (.frz (.tup [.frz (.tup [.var 2, .frz (.blt .listOf [.var 3]), .var 4]), .frz (.tup [.c (.int 1)])])) :=
  ⟨_, ⟨.tup [nat cnt, .lst false (steps.map nats), nats kept], [1], rfl, by simp, machW_c c1 c2 rfl, by simp, by simp⟩, by simp [nats, slO, frzs_nats]⟩
theorem add1 {k : Nat} : (k : Int) + 1 = ((k + 1 : Nat) : Int) := rfl
theorem frzs_take {l : List (List Nat)} {k : Nat} : D.frzs ((l.map nats).take k) = (l.map nats).take k := by
  rw [← List.map_take, frzs_rows]
theorem frzs_drop {l : List (List Nat)} {k : Nat} : D.frzs ((l.map nats).drop k) = (l.map nats).drop k := by
  rw [← List.map_drop, frzs_rows]
theorem fz_take {l : List (List Nat)} {k : Nat} : D.frozens ((l.map nats).take k) = true := by
  rw [← List.map_take, fz_rows]
theorem fz_drop {l : List (List Nat)} {k : Nat} : D.frozens ((l.map nats).drop k) = true := by
  rw [← List.map_drop, fz_rows]
theorem gd_take {l : List (List Nat)} {k : Nat} : gds ((l.map nats).take k) = true := by
  rw [← List.map_take, good_rows]
theorem gd_drop {l : List (List Nat)} {k : Nat} : gds ((l.map nats).drop k) = true := by
  rw [← List.map_drop, good_rows]
/-- one row exchanged -/
theorem steps_at {cnt : Nat} {steps : List (List Nat)} (h : StepsOk cnt steps) (s2 : steps.length ≤ 60) {spot : Nat} (hs : spot < steps.length) {x : D} {l : List Nat} {B : List D} (hB : B.length + spot + 1 = steps.length) (hx : rowW cnt steps.length spot (some x) = some l) :
    stepsW cnt (.tup ((steps.map nats).take spot ++ x :: B)) = some l := by
  rw [← List.map_take]
  have e : ((steps.take spot).map nats).length = spot := by simp; omega
  refine stepsW_at (N := steps.length) (fun i hi => rows_ok h i hi) (by rw [e]; omega) s2 ?_
  rw [e]
  exact hx
theorem ev_take (hs : spot ≤ steps.length) : slice (.tup (steps.map nats)) none (some (spot : Int)) = some (.tup ((steps.map nats).take spot)) := slice_take fz_rows (by simpa using hs)
theorem ev_drop (hs : spot < steps.length) : slice (.tup (steps.map nats)) (some ((spot : Int) + 1)) none = some (.tup ((steps.map nats).drop (spot + 1))) := by
  rw [add1]
  exact slice_drop fz_rows (by simp; omega)
theorem odd9 (ok : MOk ⟨cnt, steps, kept⟩) : EvOdd g b (slO ⟨cnt, steps, kept⟩ spot letter d bad row) (.frz (.tup [.frz (.tup [.var 2, .frz (.bin .mul (.tup [.frz (.bin .mul (.tup [.c (.int 0)]) (.var 2))]) (.c (.int 61))), .var 4]), .frz (.tup [.c (.int 1)])])) := by
  have c1 : 1 ≤ cnt := ok.c1
  have c2 : cnt ≤ 4 := ok.c2
  obtain ⟨zs, hzs⟩ : ∃ zs, (List.replicate cnt [D.int 0]).flatten = zs := ⟨_, rfl⟩
  have gz : gds zs = true := good_all fun x hx => by
    rw [← hzs] at hx
    obtain ⟨l, hl, hy⟩ := List.mem_flatten.mp hx
    rw [(List.mem_replicate.mp hl).2] at hy
    rw [List.mem_singleton.mp hy]
    rfl
  have fz := goods_fz gz
  have e1 := bin_mult (xs := [D.int 0]) (k := cnt) rfl (by omega) (by simp; omega)
  have e2 := bin_mult (xs := [D.tup zs]) (k := 61) (by simp [fz]) (by omega) (by simp)
  rw [hzs] at e1
  rw [show ((61 : Nat) : Int) = 61 from rfl] at e2
  obtain ⟨ws, hws⟩ : ∃ ws, (List.replicate 61 [D.tup zs]).flatten = ws := ⟨_, rfl⟩
  have gw : gds ws = true := good_all fun x hx => by
    rw [← hws] at hx
    obtain ⟨l, hl, hy⟩ := List.mem_flatten.mp hx
    rw [(List.mem_replicate.mp hl).2] at hy
    rw [List.mem_singleton.mp hy]
    simp [gz]
  have lw : ws.length = 61 := by rw [← hws]; simp
  have fw := goods_fz gw
  rw [hws] at e2
  have i1 := frzs_id fz
  have i2 := frzs_id fw
  refine ⟨.tup [.tup [nat cnt, .tup ws, nats kept], nats [1]], ⟨_, [1], rfl, by simp [gw], machW_c c1 c2 (l := []) ?_, by simp, by simp⟩, by simp [slO, e1, e2, fz, fw, i1, i2, nats, frzs_nats]⟩
  unfold stepsW
  simp only
  rw [if_neg (by omega)]
theorem odd10 (ok : MOk ⟨cnt, steps, kept⟩) (hs : spot < steps.length) : EvOdd g b (slO ⟨cnt, steps, kept⟩ spot letter d bad row) (.frz (.tup [.frz (.tup [.var 2, .frz (.bin .add (.bin .add (.frz (.sli (.var 3) none (some (.var 6)))) (.tup [.c .non])) (.frz (.sli (.var 3) (some (.bin .add (.var 6) (.c (.int 1)))) none))), .c .non]), .frz (.tup [.c (.int 1), .var 6])])) := by
  have st2 : steps.length ≤ 60 := ok.s2
  have t1 := ev_take (steps := steps) (spot := spot) (by omega)
  have t2 := ev_drop (steps := steps) hs
  have f1 := fz_take (l := steps) (k := spot)
  have f2 := fz_drop (l := steps) (k := spot + 1)
  have a1 := bin_addt' (xs := (steps.map nats).take spot) (ys := [.non]) (by simp; omega) f1 rfl
  have a2 := bin_addt' (xs := (steps.map nats).take spot ++ [.non]) (ys := (steps.map nats).drop (spot + 1)) (by simp; omega) (by simp [f1]) f2
  refine ⟨.tup [.tup [nat cnt, .tup ((steps.map nats).take spot ++ [.non] ++ (steps.map nats).drop (spot + 1)), .non], nats [1, spot]], ⟨_, [1, spot], rfl, by simp [gd_take, gd_drop], machW_c ok.c1 ok.c2 (l := [spot]) ?_, by simp, by simp; omega⟩, ?_⟩
  · rw [List.append_assoc]
    exact steps_at ok.st st2 hs (by simp; omega) rfl
  · have i1 := frzs_id (xs := (steps.map nats).take spot ++ [.non] ++ (steps.map nats).drop (spot + 1)) (by simp [f1, f2])
    simp only [List.append_assoc, List.singleton_append] at a2 i1 ⊢
    simp [slO, t1, t2, a1, a2, f1, f2, frzs_take, frzs_drop, i1, nats]
theorem odd13 (ok : MOk ⟨cnt, steps, kept⟩) : EvOdd g b (slO ⟨cnt, steps, kept⟩ spot letter d bad row) (.frz (.tup [.frz (.tup [.var 2, .var 3, .c .non]), .frz (.tup [.c (.int 2)])])) :=
  ⟨_, ⟨.tup [nat cnt, .tup (steps.map nats), .non], [2], rfl, by simp, machW_k ok.c1 ok.c2 (stepsW_ok ok.st ok.s1 ok.s2) rfl, by simp, by simp⟩, by simp [nats, slO]⟩
theorem odd14 (ok : MOk ⟨cnt, steps, kept⟩) : EvOdd g b (slO ⟨cnt, steps, kept⟩ spot letter d bad row) (.frz (.tup [.frz (.tup [.var 2, .var 3, .frz (.blt .listOf [.var 4])]), .frz (.tup [.c (.int 2)])])) :=
  ⟨_, ⟨.tup [nat cnt, .tup (steps.map nats), .lst false (kept.map nat)], [2], rfl, by simp, machW_k ok.c1 ok.c2 (stepsW_ok ok.st ok.s1 ok.s2) rfl, by simp, by simp⟩, by simp [nats, slO, frzs_nats]⟩
theorem odd15 (ok : MOk ⟨cnt, steps, kept⟩) (hb : bad ∈ bads steps.length) : EvOdd g b (slO ⟨cnt, steps, kept⟩ spot letter d bad row) (.frz (.tup [.frz (.tup [.var 2, .var 3, .frz (.tup [.var 8])]), .frz (.tup [.c (.int 2), .c (.int 0)])])) := by
  obtain ⟨b1, b2⟩ := bads_ok ok.s1 hb
  have f := good_fz b1
  have x := noXc_fz f
  refine ⟨_, ⟨.tup [nat cnt, .tup (steps.map nats), .tup [bad]], [2, 0], rfl, by simp [b1], machW_k ok.c1 ok.c2 (stepsW_ok ok.st ok.s1 ok.s2) (l := [0]) ?_, by simp, by simp⟩, by simp [nats, slO, f, x, frz_id f]⟩
  exact letsW_at (A := []) (B := []) (fun i hi => absurd hi (Nat.not_lt_zero _)) (by simp [letW, b2])
theorem odd16 (ok : MOk ⟨cnt, steps, kept⟩) (kl : kept.length ≤ 60) : EvOdd g b (slO ⟨cnt, steps, kept⟩ spot letter d bad row) (.frz (.tup [.frz (.tup [.var 2, .var 3, .frz (.bin .add (.var 4) (.tup [.var 5]))]), .frz (.tup [.c (.int 2), .blt .len [.var 4]])])) := by
  have a1 := bin_addt' (xs := kept.map nat) (ys := [nat steps.length]) (by simp; omega) fz_nats rfl
  have i1 := frzs_id (xs := kept.map nat ++ [nat steps.length]) (by simp)
  refine ⟨_, ⟨.tup [nat cnt, .tup (steps.map nats), .tup (kept.map nat ++ [nat steps.length])], [2, kept.length], rfl, by simp, machW_k ok.c1 ok.c2 (stepsW_ok ok.st ok.s1 ok.s2) (l := [kept.length]) ?_, by simp, by simp; omega⟩, by simp [nats, slO, a1, i1]⟩
  have e : (kept.map nat).length = kept.length := by simp
  have el : (steps.map nats).length = steps.length := by simp
  rw [el]
  have := letsW_at (many := steps.length) (A := kept.map nat) (B := []) (x := nat steps.length) (fun i hi => letW_kept ok.kp ok.kb hi) (by
    rw [e]
    simp [letW, isNum]
    omega)
  rw [e] at this
  exact this
theorem row_of (ok : MOk ⟨cnt, steps, kept⟩) (hs : spot < steps.length) : ∃ r, r.length = cnt ∧ (∀ x ∈ r, x < steps.length) ∧ (item (.tup (steps.map nats)) (.int (spot : Int)) = some (nats r)) := by
  obtain ⟨q1, q2⟩ := ok.st.row _ (List.getElem_mem hs)
  refine ⟨_, q1, q2, ?_⟩
  have := item_steps hs
  rw [List.getElem?_eq_getElem hs] at this
  exact this
theorem odd11 (ok : MOk ⟨cnt, steps, kept⟩) (hs : spot < steps.length) : EvOdd g b (slO ⟨cnt, steps, kept⟩ spot letter d bad row) (.frz (.tup [.frz (.tup [.var 2, .frz (.bin .add (.bin .add (.frz (.sli (.var 3) none (some (.var 6)))) (.tup [.frz (.bin .add (.idx (.var 3) (.var 6)) (.tup [.c (.int 0)]))])) (.frz (.sli (.var 3) (some (.bin .add (.var 6) (.c (.int 1)))) none))), .c .non]), .frz (.tup [.c (.int 1), .var 6])])) := by
  have st2 : steps.length ≤ 60 := ok.s2
  have c2 : cnt ≤ 4 := ok.c2
  obtain ⟨r, r1, r2, r3⟩ := row_of ok hs
  rw [item_tup] at r3
  have t1 := ev_take (steps := steps) (spot := spot) (by omega)
  have t2 := ev_drop (steps := steps) hs
  have f1 := fz_take (l := steps) (k := spot)
  have f2 := fz_drop (l := steps) (k := spot + 1)
  have a0 := bin_addt' (xs := r.map nat) (ys := [.int 0]) (by simp; omega) fz_nats rfl
  obtain ⟨x, hx⟩ : ∃ x, D.tup (r.map nat ++ [.int 0]) = x := ⟨_, rfl⟩
  have gx : gd x = true := by rw [← hx]; simp
  have fx := good_fz gx
  have a1 := bin_addt' (xs := (steps.map nats).take spot) (ys := [x]) (by simp; omega) f1 (by simp [fx])
  have a2 := bin_addt' (xs := (steps.map nats).take spot ++ [x]) (ys := (steps.map nats).drop (spot + 1)) (by simp; omega) (by simp [f1, fx]) f2
  rw [hx] at a0
  refine ⟨.tup [.tup [nat cnt, .tup ((steps.map nats).take spot ++ [x] ++ (steps.map nats).drop (spot + 1)), .non], nats [1, spot]], ⟨_, [1, spot], rfl, by simp [gd_take, gd_drop, gx], machW_c ok.c1 ok.c2 (l := [spot]) ?_, by simp, by simp; omega⟩, ?_⟩
  · rw [List.append_assoc]
    refine steps_at ok.st st2 hs (by simp; omega) ?_
    rw [← hx]
    simp [rowW, r1]
  · have i1 := frzs_id (xs := (steps.map nats).take spot ++ [x] ++ (steps.map nats).drop (spot + 1)) (by simp [f1, f2, fx])
    simp only [List.append_assoc, List.singleton_append] at a2 i1 ⊢
    unfold nats at r3 ⊢
    simp only [show (fun l : List Nat => D.tup (l.map nat)) = nats from rfl] at r3 ⊢
    simp [slO, t1, t2, r3, a0, a1, a2, f1, f2, fx, frzs_take, frzs_drop, i1, frz_id fx]
theorem odd12 (ok : MOk ⟨cnt, steps, kept⟩) (hs : spot < steps.length) (hl : letter < cnt) (hb : bad ∈ bads steps.length) {r : List Nat} (r1 : r.length = cnt) (r2 : ∀ x ∈ r, x < steps.length) :
    EvOdd g b (slO ⟨cnt, steps, kept⟩ spot letter d bad (.tup ((r.map nat).take letter ++ [bad] ++ List.replicate (cnt - letter - 1) .non))) (.frz (.tup [.frz (.tup [.var 2, .frz (.bin .add (.bin .add (.frz (.sli (.var 3) none (some (.var 6)))) (.tup [.var 9])) (.bin .mul (.tup [.c .non]) (.bin .sub (.bin .sub (.var 5) (.var 6)) (.c (.int 1))))), .c .non]), .frz (.tup [.c (.int 1), .var 6, .var 7])])) := by
  have st2 : steps.length ≤ 60 := ok.s2
  have c2 : cnt ≤ 4 := ok.c2
  obtain ⟨b1, b2⟩ := bads_ok ok.s1 hb
  have t1 := ev_take (steps := steps) (spot := spot) (by omega)
  have f1 := fz_take (l := steps) (k := spot)
  have gr : gds ((r.map nat).take letter) = true := by rw [← List.map_take]; exact goods_nats
  have grep : ∀ k, gds (List.replicate k D.non) = true := fun k => good_all fun y hy => by rw [(List.mem_replicate.mp hy).2]; rfl
  obtain ⟨x, hx⟩ : ∃ x, D.tup ((r.map nat).take letter ++ [bad] ++ List.replicate (cnt - letter - 1) .non) = x := ⟨_, rfl⟩
  have gx : gd x = true := by rw [← hx]; simp [gr, b1, grep]
  have fx := good_fz gx
  have nx := noXc_fz fx
  have a1 := bin_addt' (xs := (steps.map nats).take spot) (ys := [x]) (by simp; omega) f1 (by simp [fx])
  obtain ⟨k, hk1, hk2⟩ : ∃ k : Nat, (steps.length : Int) - (spot : Int) - 1 = (k : Int) ∧ k + spot + 1 = steps.length := ⟨steps.length - spot - 1, by omega, by omega⟩
  have m1 := bin_mult (xs := [.non]) (k := k) rfl (by omega) (by simp; omega)
  have ef : (List.replicate k [D.non]).flatten = List.replicate k .non := by simp
  rw [ef] at m1
  have a2 := bin_addt' (xs := (steps.map nats).take spot ++ [x]) (ys := List.replicate k .non) (by simp; omega) (by simp [f1, fx]) (goods_fz (grep k))
  rw [hx]
  refine ⟨.tup [.tup [nat cnt, .tup ((steps.map nats).take spot ++ [x] ++ List.replicate k .non), .non], nats [1, spot, letter]], ⟨_, [1, spot, letter], rfl, by simp [gd_take, grep, gx], machW_c ok.c1 ok.c2 (l := [spot, letter]) ?_, by simp, by simp; omega⟩, ?_⟩
  · rw [List.append_assoc]
    refine steps_at ok.st st2 hs (by simp; omega) ?_
    rw [← hx]
    have e : ((r.map nat).take letter ++ [bad] ++ List.replicate (cnt - letter - 1) D.non).length = cnt := by simp; omega
    have e1 : ((r.map nat).take letter).length = letter := by simp; omega
    simp only [rowW, if_pos e]
    refine firstW_some (j := letter) hl ?_ fun k hk => ?_
    · rw [List.append_assoc, List.getElem?_append_right (by omega), e1]
      simp [b2]
    · have hk2 : k < r.length := by omega
      rw [List.append_assoc, List.getElem?_append_left (by omega), List.getElem?_take_of_lt hk, List.getElem?_map, List.getElem?_eq_getElem hk2]
      have := r2 _ (List.getElem_mem hk2)
      simp only [Option.map_some]
      rw [if_pos (isNum_nat (by omega) (by omega))]
  · have i1 := frzs_id (xs := (steps.map nats).take spot ++ [x] ++ List.replicate k .non) (by simp [f1, fx, goods_fz (grep k)])
    simp only [List.append_assoc, List.singleton_append] at a2 i1 ⊢
    simp [slO, t1, a1, a2, f1, fx, nx, frzs_take, i1, nats, hk1, m1]
theorem odd17 (ok : MOk ⟨cnt, steps, kept⟩) (kl : kept.length ≤ 60) (hk : kept ≠ []) : EvOdd g b (slO ⟨cnt, steps, kept⟩ spot letter d bad row) (.frz (.tup [.frz (.tup [.var 2, .var 3, .frz (.bin .add (.bin .add (.var 4) (.frz (.sli (.var 4) (some (.neg (.c (.int 1)))) none))) (.tup [.c .non]))]), .frz (.tup [.c (.int 2), .blt .len [.var 4]])])) := by
  have hp : 0 < kept.length := List.length_pos_iff.mpr hk
  obtain ⟨z, hz⟩ : ∃ z, kept[kept.length - 1]? = some z := ⟨_, List.getElem?_eq_getElem (by omega)⟩
  have ed : (kept.map nat).drop (kept.length - 1) = [nat z] := by
    rw [← List.map_drop]
    have : kept.drop (kept.length - 1) = [z] := by
      have hlt : kept.length - 1 < kept.length := by omega
      have e1 := List.drop_eq_getElem_cons hlt
      rw [e1, List.drop_eq_nil_of_le (by omega)]
      rw [List.getElem?_eq_getElem hlt] at hz
      rw [Option.some.inj hz]
    rw [this]
    rfl
  have s1 := slice_last (xs := kept.map nat) fz_nats (by simpa using hp)
  rw [List.length_map, ed] at s1
  have a1 := bin_addt' (xs := kept.map nat) (ys := [nat z]) (by simp; omega) fz_nats rfl
  have a2 := bin_addt' (xs := kept.map nat ++ [nat z]) (ys := [.non]) (by simp; omega) (by simp) rfl
  have i1 := frzs_id (xs := kept.map nat ++ [nat z] ++ [.non]) (by simp)
  refine ⟨_, ⟨.tup [nat cnt, .tup (steps.map nats), .tup (kept.map nat ++ [nat z] ++ [.non])], [2, kept.length], rfl, by simp, machW_k ok.c1 ok.c2 (stepsW_ok ok.st ok.s1 ok.s2) (l := [kept.length]) ?_, by simp, by simp; omega⟩, ?_⟩
  · have e : (kept.map nat).length = kept.length := by simp
    have el : (steps.map nats).length = steps.length := by simp
    rw [el, List.append_assoc]
    have zb : z < steps.length := ok.kb z (List.mem_of_getElem? hz)
    have := letsW_at (many := steps.length) (A := kept.map nat) (B := [.non]) (x := nat z) (fun i hi => letW_kept ok.kp ok.kb hi) (by
      rw [e]
      have hlt : kept.length - 1 < (kept.map nat).length := by omega
      have hne : kept.length ≠ 0 := by omega
      simp only [letW]
      rw [List.getElem?_append_right (by omega), e, Nat.sub_self, List.getElem?_append_left hlt, List.getElem?_map, hz]
      simp [hne])
    rw [e] at this
    exact this
  · simp only [List.append_assoc, List.singleton_append] at a2 i1 ⊢
    simp [nats, slO, s1, a1, a2, i1]
theorem odd18 (ok : MOk ⟨cnt, steps, kept⟩) (kl : kept.length ≤ 60) (hk : 1 < kept.length) : ∃ x, OddOk x ∧ ∀ z : Option D, ev g b (.frz (.tup [.frz (.tup [.var 2, .var 3, .frz (.rev (.var 4))]), .frz (.tup [.c (.int 2), .c (.int 1)])])) ((slO ⟨cnt, steps, kept⟩ spot letter d bad row).set 10 z) = .ok (x, (slO ⟨cnt, steps, kept⟩ spot letter d bad row).set 10 z) := by
  have i1 := frzs_id (xs := (kept.map nat).reverse) (by rw [← List.map_reverse]; exact fz_nats)
  refine ⟨_, ⟨.tup [nat cnt, .tup (steps.map nats), .tup (kept.map nat).reverse], [2, 1], rfl, by simp [← List.map_reverse], machW_k ok.c1 ok.c2 (stepsW_ok ok.st ok.s1 ok.s2) (l := [1]) ?_, by simp, by simp⟩, fun z => by simp [nats, slO, revD, i1]⟩
  have el : (steps.map nats).length = steps.length := by simp
  rw [el, ← List.map_reverse]
  obtain ⟨rv, hrv⟩ : ∃ rv, kept.reverse = rv := ⟨_, rfl⟩
  have hp : rv.Pairwise (fun a b => b < a) := by rw [← hrv, List.pairwise_reverse]; exact ok.kp
  have hb : ∀ x ∈ rv, x < steps.length := fun x hx => ok.kb x (by rw [← hrv] at hx; exact List.mem_reverse.mp hx)
  have hl : 1 < rv.length := by rw [← hrv]; simpa using hk
  rw [hrv]
  rcases rv with _ | ⟨x, _ | ⟨y, r⟩⟩
  · simp at hl
  · simp at hl
  · have hxy : y < x := (List.pairwise_cons.mp hp).1 y (.head _)
    have h1 := hb x (.head _)
    have h2 := hb y (.tail _ (.head _))
    refine letsW_at (A := [nat x]) (B := r.map nat) (x := nat y) (fun i hi => ?_) ?_
    · have : i = 0 := by simpa using hi
      subst this
      simp [letW, isNum]
      omega
    · simp [letW]
      omega
end
theorem asc_len : ∀ {l : List Nat} {lo N : Nat}, l.Pairwise (· < ·) → (∀ x ∈ l, lo ≤ x ∧ x < N) → l.length ≤ N - lo
  | [], _, _, _, _ => Nat.zero_le _
  | x :: l, lo, N, hp, hb => by
    obtain ⟨h1, h2⟩ := List.pairwise_cons.mp hp
    have ih := asc_len (l := l) (lo := x + 1) (N := N) h2 fun y hy => ⟨h1 y hy, (hb y (.tail _ hy)).2⟩
    have := hb x (.head _)
    rw [List.length_cons]
    omega
theorem MOk.kl {m : Mach} (ok : MOk m) : m.kept.length ≤ 60 := by
  have := asc_len (lo := 0) (N := m.steps.length) ok.kp fun x hx => ⟨Nat.zero_le _, ok.kb x hx⟩
  have := ok.s2
  omega
theorem Wp_step {b : Below} {st : S} {ss : List S} {sl sl' : Sl} {Z : Fl × Sl → Prop} (h : ex g b st sl = .ok (.nx, sl')) (h2 : Wp (exs g b ss sl') Z) : Wp (exs g b (st :: ss) sl) Z := by
  rw [exs, h]
  exact h2
theorem law_odd (h : HDraw g) (h15 : g.fns 15 = some F__law_of) (h22 : g.fns 22 = some F__law_odd) {m : Mach} (ok : MOk m) {c : Nat} {d : D} (s : StOk c d) (hc : c < 1000000) :
    ∃ q : D × D, (OddOk q.1 ∧ StOk (c + 4) q.2) ∧ (belowN g (n + 4)).call 22 [d, m.d] = .ok q.1 (some q.2) := by
  have kl := ok.kl
  obtain ⟨cnt, steps, kept⟩ := m
  have c1 : 1 ≤ cnt := ok.c1
  have c2 : cnt ≤ 4 := ok.c2
  have st1 : 1 ≤ steps.length := ok.s1
  have st2 : steps.length ≤ 60 := ok.s2
  obtain ⟨spot, d1, hspot, s1, e1⟩ := draw (n := n + 1) h s (by omega) (lim := steps.length) (by omega) (by omega)
  obtain ⟨letter, d2, hletter, s2, e2⟩ := draw (n := n + 1) h s1 (by omega) (lim := cnt) (by omega) (by omega)
  obtain ⟨bi, bad, d3, hbad, s3, e3⟩ := law_of (n := n) h h15 s2 (by omega) (c := .lst false (bads steps.length)) (xs := bads steps.length) (.inl rfl) (by simp [bads]) (by simp [bads]) (by simp [bads])
  have mb := List.mem_of_getElem? hbad
  obtain ⟨b1, b2⟩ := bads_ok st1 mb
  refine call_ex h22 rfl rfl ?_
  have q0 := s.nx
  have q1 := s1.nx
  have q2 := s2.nx
  have q3 := s3.nx
  have fb := good_fz b1
  have nb := noXc_fz fb
  have ib := frz_id fb
  unfold bads at e3
  obtain ⟨r, r1, r2, r3⟩ := row_of ok hspot
  rw [item_tup] at r3
  show Wp (exs g (belowN g (n + 3)) b__law_odd _) _
  unfold b__law_odd
  refine Wp_step (sl' := [some d, some (Mach.d ⟨cnt, steps, kept⟩), some (nat cnt), some (.tup (steps.map nats)), some (nats kept), none, none, none, none, none, none]) (by simp [mach_tup, F__law_odd]) ?_
  refine Wp_step (sl' := [some d, some (Mach.d ⟨cnt, steps, kept⟩), some (nat cnt), some (.tup (steps.map nats)), some (nats kept), some (nat steps.length), none, none, none, none, none]) (by simp) ?_
  refine Wp_step (sl' := [some d2, some (Mach.d ⟨cnt, steps, kept⟩), some (nat cnt), some (.tup (steps.map nats)), some (nats kept), some (nat steps.length), some (nat spot), some (nat letter), none, none, none]) (by simp [h.f14, F__law_draw, q0, e1, q1, e2, q2]) ?_
  refine Wp_step (sl' := [some d3, some (Mach.d ⟨cnt, steps, kept⟩), some (nat cnt), some (.tup (steps.map nats)), some (nats kept), some (nat steps.length), some (nat spot), some (nat letter), some bad, none, none]) (by simp [h15, F__law_of, q2, e3, q3, szl]) ?_
  have fr : D.frozens ((r.map nat).take letter) = true := by rw [← List.map_take]; exact fz_nats
  have t1 := slice_take (xs := r.map nat) (k := letter) fz_nats (by simp; omega)
  have a1 := bin_addt' (xs := (r.map nat).take letter) (ys := [bad]) (by simp; omega) fr (by simp [fb])
  obtain ⟨k, hk1, hk2⟩ : ∃ k : Nat, (cnt : Int) - (letter : Int) - 1 = (k : Int) ∧ k = cnt - letter - 1 := ⟨cnt - letter - 1, by omega, by omega⟩
  have m1 := bin_mult (xs := [.non]) (k := k) rfl (by omega) (by simp; omega)
  have ef : (List.replicate k [D.non]).flatten = List.replicate k .non := by simp
  rw [ef] at m1
  have frep : D.frozens (List.replicate k D.non) = true := fz_all fun y hy => by rw [(List.mem_replicate.mp hy).2]; rfl
  have a2 := bin_addt' (xs := (r.map nat).take letter ++ [bad]) (ys := List.replicate k .non) (by simp; omega) (by simp [fr, fb]) frep
  have i1 := frzs_id (xs := (r.map nat).take letter ++ [bad] ++ List.replicate k .non) (by simp [fr, fb, frep])
  have ir := frzs_id fr
  refine Wp_step (sl' := [some d3, some (Mach.d ⟨cnt, steps, kept⟩), some (nat cnt), some (.tup (steps.map nats)), some (nats kept), some (nat steps.length), some (nat spot), some (nat letter), some bad, some (.tup ((r.map nat).take letter ++ [bad] ++ List.replicate (cnt - letter - 1) .non)), none]) (by
    rw [← hk2]
    simp only [List.append_assoc, List.singleton_append] at a2 i1 ⊢
    simp [r3, nats] at *
    simp [r3, t1, a1, a2, i1, ir, hk1, m1, fb, nb]) ?_
  obtain ⟨row, hrow⟩ : ∃ row, D.tup ((r.map nat).take letter ++ [bad] ++ List.replicate (cnt - letter - 1) .non) = row := ⟨_, rfl⟩
  have o12 := odd12 (g := g) (b := belowN g (n + 3)) (d := d3) ok hspot hletter mb r1 r2
  rw [hrow] at o12 ⊢
  obtain ⟨l0, n0, k0, v0⟩ := lot_lst (g := g) (b := belowN g (n + 3)) (sl := slO ⟨cnt, steps, kept⟩ spot letter d3 bad row) (es := [_, _, _, _, _]) (fun e he => by
    simp only [List.mem_cons, List.not_mem_nil, or_false] at he
    rcases he with rfl | rfl | rfl | rfl | rfl
    · exact odd1
    · exact odd2
    · exact odd3
    · exact odd4
    · exact odd5) (by simp)
  have L0 : LotOk 5 l0 := ⟨by rw [n0]; simp, fun e => (by rw [e] at n0; simp at n0), k0⟩
  refine Wp_step (sl' := [some d3, some (Mach.d ⟨cnt, steps, kept⟩), some (nat cnt), some (.tup (steps.map nats)), some (nats kept), some (nat steps.length), some (nat spot), some (nat letter), some bad, some row, some (.lst true l0)]) (by
    rw [ex, show [some d3, some (Mach.d ⟨cnt, steps, kept⟩), some (nat cnt), some (.tup (steps.map nats)), some (nats kept), some (nat steps.length), some (nat spot), some (nat letter), some bad, some row, none] = slO ⟨cnt, steps, kept⟩ spot letter d3 bad row from rfl, v0]
    rfl) ?_
  obtain ⟨l1, n1, k1, v1⟩ := lot_lst (g := g) (b := belowN g (n + 3)) (sl := slO ⟨cnt, steps, kept⟩ spot letter d3 bad row) (es := [_, _, _]) (fun e he => by
    simp only [List.mem_cons, List.not_mem_nil, or_false] at he
    rcases he with rfl | rfl | rfl
    · exact odd6
    · exact odd7 c1 c2
    · exact odd8 c1 c2) (by simp)
  obtain ⟨l1, L1, x1⟩ := lot_add rfl L0 k1 v1 (by rw [n1]; simp)
  rw [n1] at L1
  refine Wp_step x1 ?_
  obtain ⟨l2, n2, k2, v2⟩ := lot_lst (g := g) (b := belowN g (n + 3)) (sl := slO ⟨cnt, steps, kept⟩ spot letter d3 bad row) (es := [_, _]) (fun e he => by
    simp only [List.mem_cons, List.not_mem_nil, or_false] at he
    rcases he with rfl | rfl
    · exact odd9 ok
    · exact odd10 ok hspot) (by simp)
  obtain ⟨l2, L2, x2⟩ := lot_add rfl L1 k2 v2 (by rw [n2]; simp)
  rw [n2] at L2
  refine Wp_step x2 ?_
  obtain ⟨l3, n3, k3, v3⟩ := lot_lst (g := g) (b := belowN g (n + 3)) (sl := slO ⟨cnt, steps, kept⟩ spot letter d3 bad row) (es := [_]) (fun e he => by
    simp only [List.mem_cons, List.not_mem_nil, or_false] at he
    rcases he with rfl
    exact odd11 ok hspot) (by simp)
  obtain ⟨l3, L3, x3⟩ := lot_add rfl L2 k3 v3 (by rw [n3]; simp)
  rw [n3] at L3
  refine Wp_step x3 ?_
  obtain ⟨l4, n4, k4, v4⟩ := lot_mul (k := 3) o12 (by omega)
  obtain ⟨l4, L4, x4⟩ := lot_add rfl L3 k4 v4 (by rw [n4]; simp)
  rw [n4] at L4
  refine Wp_step x4 ?_
  obtain ⟨l5, n5, k5, v5⟩ := lot_lst (g := g) (b := belowN g (n + 3)) (sl := slO ⟨cnt, steps, kept⟩ spot letter d3 bad row) (es := [_, _, _]) (fun e he => by
    simp only [List.mem_cons, List.not_mem_nil, or_false] at he
    rcases he with rfl | rfl | rfl
    · exact odd13 ok
    · exact odd14 ok
    · exact odd15 ok mb) (by simp)
  obtain ⟨l5, L5, x5⟩ := lot_add rfl L4 k5 v5 (by rw [n5]; simp)
  rw [n5] at L5
  refine Wp_step x5 ?_
  obtain ⟨l6, n6, k6, v6⟩ := lot_lst (g := g) (b := belowN g (n + 3)) (sl := slO ⟨cnt, steps, kept⟩ spot letter d3 bad row) (es := [_]) (fun e he => by
    simp only [List.mem_cons, List.not_mem_nil, or_false] at he
    rcases he with rfl
    exact odd16 ok kl) (by simp)
  obtain ⟨l6, L6, x6⟩ := lot_add rfl L5 k6 v6 (by rw [n6]; simp)
  rw [n6] at L6
  refine Wp_step x6 ?_
  simp only [List.length_cons, List.length_nil] at L6
  have s7 : ∃ l7, LotOk 30 l7 ∧ ex g (belowN g (n + 3)) (.ifs (.cmp .ne (.var 4) (.tup [])) [.set 10 (.bin .add (.move 10) (.bin .mul (.lst [.frz (.tup [.frz (.tup [.var 2, .var 3, .frz (.bin .add (.bin .add (.var 4) (.frz (.sli (.var 4) (some (.neg (.c (.int 1)))) none))) (.tup [.c .non]))]), .frz (.tup [.c (.int 2), .blt .len [.var 4]])])]) (.c (.int 2))))] []) [some d3, some (Mach.d ⟨cnt, steps, kept⟩), some (nat cnt), some (.tup (steps.map nats)), some (nats kept), some (nat steps.length), some (nat spot), some (nat letter), some bad, some row, some (.lst true l6)] = .ok (.nx, [some d3, some (Mach.d ⟨cnt, steps, kept⟩), some (nat cnt), some (.tup (steps.map nats)), some (nats kept), some (nat steps.length), some (nat spot), some (nat letter), some bad, some row, some (.lst true l7)]) := by
    have en := eqD_nats_nil (l := kept)
    by_cases hk : kept = []
    · subst hk
      refine ⟨l6, ⟨by have := L6.1; omega, L6.2⟩, ?_⟩
      simp at en
      simp [en]
    · obtain ⟨l7, n7, k7, v7⟩ := lot_mul (k := 2) (odd17 (g := g) (b := belowN g (n + 3)) (spot := spot) (letter := letter) (d := d3) (bad := bad) (row := row) ok kl hk) (by omega)
      obtain ⟨l7, L7, x7⟩ := lot_add rfl L6 k7 v7 (by rw [n7]; simp)
      rw [n7] at L7
      have hk2 : kept.isEmpty = false := by cases kept <;> simp_all
      rw [hk2] at en
      refine ⟨l7, ⟨by have := L7.1; omega, L7.2⟩, ?_⟩
      rw [ex]
      simp only [ev_cmp8, ev_var1, ev_tup14, evs_nil0]
      simp only [show ((2 : Nat) : Int) = 2 from rfl] at x7
      simp [en, x7, -ex_set0]
  obtain ⟨l7, L7, x7⟩ := s7
  refine Wp_step x7 ?_
  have s8 : ∃ l8, LotOk 31 l8 ∧ ex g (belowN g (n + 3)) (.ifs (.cmp .gt (.blt .len [.var 4]) (.c (.int 1))) [.app 10 (.frz (.tup [.frz (.tup [.var 2, .var 3, .frz (.rev (.var 4))]), .frz (.tup [.c (.int 2), .c (.int 1)])]))] []) [some d3, some (Mach.d ⟨cnt, steps, kept⟩), some (nat cnt), some (.tup (steps.map nats)), some (nats kept), some (nat steps.length), some (nat spot), some (nat letter), some bad, some row, some (.lst true l7)] = .ok (.nx, [some d3, some (Mach.d ⟨cnt, steps, kept⟩), some (nat cnt), some (.tup (steps.map nats)), some (nats kept), some (nat steps.length), some (nat spot), some (nat letter), some bad, some row, some (.lst true l8)]) := by
    by_cases hk : 1 < kept.length
    · obtain ⟨x, ox, ex⟩ := odd18 (g := g) (b := belowN g (n + 3)) (spot := spot) (letter := letter) (d := d3) (bad := bad) (row := row) ok kl hk
      have hl7 : l7.length < sizeLine := by rw [szl]; have := L7.1; omega
      have ex' : ev g (belowN g (n + 3)) (.frz (.tup [.frz (.tup [.var 2, .var 3, .frz (.rev (.var 4))]), .frz (.tup [.c (.int 2), .c (.int 1)])])) [some d3, some (Mach.d ⟨cnt, steps, kept⟩), some (nat cnt), some (.tup (steps.map nats)), some (nats kept), some (nat steps.length), some (nat spot), some (nat letter), some bad, some row, some (.lst true l7)] = .ok (x, [some d3, some (Mach.d ⟨cnt, steps, kept⟩), some (nat cnt), some (.tup (steps.map nats)), some (nats kept), some (nat steps.length), some (nat spot), some (nat letter), some bad, some row, some (.lst true l7)]) := by
        exact ex (some (.lst true l7))
      refine ⟨l7 ++ [x], ⟨by have := L7.1; simp; omega, by simp, fun y hy => ?_⟩, ?_⟩
      · rcases List.mem_append.mp hy with hy | hy
        · exact L7.2.2 y hy
        · rw [List.mem_singleton.mp hy]; exact ox
      · have hk' : (1 : Int) < (kept.length : Int) := by omega
        have en : blt .len [nats kept] = some (.int (kept.length : Int)) := by simp [nats]
        rw [Q.ex]
        simp only [ev_cmp8, ev_blt24, evs_e1, evs_nil0, ev_var1, ev_c0]
        simp only [get_succ, get_zero, noXc_nats, of_some, bind_ok, frozen_nats, if_true, en, cmp_gt, hk', decide_true, truth_bl]
        rw [exs, Q.ex]
        simp only [get_succ, get_zero, noXc_lst, of_some, bind_ok, ex', appD, hl7, if_true]
        rfl
    · have hk' : ¬ (1 : Int) < (kept.length : Int) := by omega
      have en : blt .len [nats kept] = some (.int (kept.length : Int)) := by simp [nats]
      refine ⟨l7, ⟨by have := L7.1; omega, L7.2⟩, ?_⟩
      rw [Q.ex]
      simp only [ev_cmp8, ev_blt24, evs_e1, evs_nil0, ev_var1, ev_c0]
      simp only [get_succ, get_zero, noXc_nats, of_some, bind_ok, frozen_nats, if_true, en, cmp_gt, hk', decide_false, truth_bl]
      rw [exs]
  obtain ⟨l8, L8, x8⟩ := s8
  refine Wp_step x8 ?_
  obtain ⟨z, x, d4, hx, s4, e4⟩ := law_of (n := n) h h15 s3 (by omega) (c := .lst false l8) (xs := l8) (.inl rfl) L8.fz L8.2.1 (by have := L8.1; omega)
  have ox := L8.2.2 x (List.mem_of_getElem? hx)
  have q4 := s4.nx
  have i8 := frzs_id L8.fz
  simp [q3, i8, h15, F__law_of, e4, q4]
  exact ⟨_, _, ⟨ox, s4⟩, by simp [F__law_odd, q4]⟩
end
end Run
end Q

set_option Elab.async false
set_option linter.all false
set_option maxRecDepth 100000
set_option maxHeartbeats 4000000
/-! M8: k00, the whole law. -/
namespace Q
namespace Run
open PySem L2
theorem exH_cons {g : G} {b : Below} {c k : Nat} {fs : List D} {sl : Sl} {i : Option Nat} {cs : List (Nat × Option Nat)} {suite : List S} {suites : List (List S)} : exH g b c fs sl ((k, i) :: cs) (suite :: suites) = match g.sub c k with
      | some true => if inR i sl then (noExc (exs g b suite (setX i (.xc c fs) sl))).bind fun p => .ok (p.1, unset i p.2) else .bad
      | some false => exH g b c fs sl cs suites
      | none => .bad := by first | (rw [exH]; done) | (rw [exH]; rfl)
section
variable {g : G} {n : Nat}
/-- what is caught -/
theorem caught_mach (h21 : g.fns 21 = some F__law_caught) (hs : g.sub 2 2 = some true) (hc : g.cfs 2 = [("place" : Str)]) {a : (Nat → List D → CR) → CR} {l : List Nat} (ha : a (belowN g n).call = .exc 2 [nats l] none) :
    (belowN g (n + 1)).callL 21 a = .ok (.lst false [.str "machine", nats l]) none := by
  show callLF g (belowN g n) 21 a = _
  simp [callLF, h21, F__law_caught, b__law_caught, ha, exH_cons, hs, inR, setX, unset, hc, fldD]
theorem caught_word (h21 : g.fns 21 = some F__law_caught) (hs : g.sub 1 2 = some false) (hs1 : g.sub 1 1 = some true) (hc : g.cfs 1 = [("value" : Str)]) {a : (Nat → List D → CR) → CR} {d : D} (fd : d.frozen = true) (ha : a (belowN g n).call = .exc 1 [d] none) :
    (belowN g (n + 1)).callL 21 a = .ok (.lst false [.str "word", d]) none := by
  show callLF g (belowN g n) 21 a = _
  have := frz_id fd
  simp [callLF, h21, F__law_caught, b__law_caught, ha, exH_cons, hs, hs1, inR, setX, unset, hc, fldD, this, fd]
structure H00 (g : G) : Prop extends HDraw g, HEnd g where
  f10 : g.fns 10 = some F_end_of
  f11 : g.fns 11 = some F_lets
  f12 : g.fns 12 = some F__law_begin
  f15 : g.fns 15 = some F__law_of
  f16 : g.fns 16 = some F__law_machine
  f17 : g.fns 17 = some F__law_word
  f18 : g.fns 18 = some F__law_like
  f19 : g.fns 19 = some F__law_end
  f20 : g.fns 20 = some F__law_lets
  f21 : g.fns 21 = some F__law_caught
  f22 : g.fns 22 = some F__law_odd
  f23 : g.fns 23 = some F_law
  s11 : g.sub 1 1 = some true
  s12 : g.sub 1 2 = some false
  s22 : g.sub 2 2 = some true
  c1 : g.cfs 1 = [("value" : Str)]
  c2 : g.cfs 2 = [("place" : Str)]
theorem small7 {k : Nat} (h : k < 1000000) : k < 10 ^ 7 := by omega
theorem sy_small {l : List Nat} (h : ∀ x ∈ l, x < 1000000) (hl : l.length ≤ 3000) : Sy 40000 1 (nats l) := (sy_nats fun x hx => small7 (h x hx)).mono (by omega) (Nat.le_refl _)
theorem sy_mach {m : Mach} (ok : MOk m) : Sy 100000 4 m.d := by
  have s2 := ok.s2
  have c2 := ok.c2
  have kl := ok.kl
  refine (sy_tup (n := 10000) (k := 2) (xs := [nat m.cnt, .tup (m.steps.map nats), nats m.kept]) (sys_cons ((sy_nat (by omega)).mono (by omega) (by omega)) (sys_cons ?_ (sys_cons ?_ sys_nil)))).mono (by simp) (by omega)
  · refine (sy_tup (n := 100) (k := 1) fun x hx => ?_).mono (by simp; omega) (by omega)
    obtain ⟨r, hr, rfl⟩ := List.mem_map.mp hx
    obtain ⟨q1, q2⟩ := ok.st.row r hr
    exact (sy_nats fun y hy => by have := q2 y hy; omega).mono (by omega) (by omega)
  · exact (sy_nats fun y hy => by have := ok.kb y hy; omega).mono (by omega) (by omega)
/-- one word -/
theorem turn_word (h : H00 g) {m : Mach} (ok : MOk m) {c : Nat} {d ds : D} (s : StOk c d) (hc : c < 900000) {a2 a4 a5 a6 a7 a8 a9 a10 : Option D} :
    Wp (exs g (belowN g (n + 6)) l_law_1 [some ds, some d, a2, some m.d, a4, a5, a6, a7, a8, a9, a10]) fun p => p.1 = Fl.nx ∧ ∃ d' b5 b6, StOk (c + 10) d' ∧ p.2 = [some ds, some d', a2, some m.d, a4, b5, b6, a7, a8, a9, a10] := by
  have c1 := ok.c1
  have c2 := ok.c2
  obtain ⟨⟨w, d'⟩, ⟨w1, w2, w3⟩, e⟩ := law_word (n := n + 3) h.toHDraw h.f17 s (by omega) (cnt := m.cnt) (most := 9) (by omega) (by omega) (by omega)
  rw [show nat 9 = .int 9 from rfl] at e
  simp only at w1 w2 w3 e
  have q0 := s.nx
  have q1 := w3.nx
  have e1 := call_end_of (n := n) h.toHEnd h.f10 ok w1 (by omega)
  have e2 := call_lets (n := n) h.toHEnd h.f11 ok w1 (by omega)
  have e3 := call_law_end (n := n + 5) h.f19 ok (show 0 < m.steps.length from ok.s1) w1
  rw [show nat 0 = .int 0 from rfl] at e3
  have e4 := call_law_lets (n := n + 4) h.f19 h.f20 ok w1
  have lt := endF_lt ok.st (show 0 < m.steps.length from ok.s1) w1
  have s2 := ok.s2
  have e5 := like (g := g) (n := n + 5) h.f18 (d := .lst false [nat (endF m.steps 0 w), .bl (decide (endF m.steps 0 w ∈ m.kept))]) (sy_lst (sys_cons (sy_nat (by omega)) (sys_cons sy_bl sys_nil))) rfl (by simp) (by simp) (by omega)
  simp [l_law_1, h.f17, F__law_word, q0, e, q1, h.f10, h.f11, F_end_of, F_lets, e1, e2, h.f19, h.f20, F__law_end, F__law_lets, e3, e4, h.f18, F__law_like, e5]
  exact w3
def badWs (cnt : Nat) : List D := [.non, .lst false [.int 0], .tup [nat cnt], .tup [.int (-1)], .tup [.bl true], .tup [.str "0"], .tup (List.replicate 2001 (.int 0)), .int 0, .tup [.non, .int 0]]
theorem sy_str0 : Sy 100 0 (.str "0") := ⟨.str "0", by simp [D.py], by simp [PyData.showable], by simp only [PyData.canLay0]; decide +kernel, by simp only [PyData.shown]; decide +kernel, by simp [PyData.depth]⟩
theorem sy_strM : Sy 100 0 (.str "machine") := ⟨.str "machine", by simp [D.py], by simp [PyData.showable], by simp only [PyData.canLay0]; decide +kernel, by simp only [PyData.shown]; decide +kernel, by simp [PyData.depth]⟩
theorem sy_strW : Sy 100 0 (.str "word") := ⟨.str "word", by simp [D.py], by simp [PyData.showable], by simp only [PyData.canLay0]; decide +kernel, by simp only [PyData.shown]; decide +kernel, by simp [PyData.depth]⟩
theorem badWs_ok {cnt : Nat} (c1 : 1 ≤ cnt) (c2 : cnt ≤ 4) {w : D} (h : w ∈ badWs cnt) : gd w = true ∧ isWord cnt w = false ∧ Sy 300000 1 w := by
  unfold badWs at h
  simp only [List.mem_cons, List.not_mem_nil, or_false] at h
  rcases h with rfl | rfl | rfl | rfl | rfl | rfl | rfl | rfl | rfl
  · exact ⟨rfl, rfl, sy_non.mono (by omega) (by omega)⟩
  · exact ⟨rfl, rfl, (sy_lst (sys_cons (sy_int (i := 0) (by decide)) sys_nil)).mono (by simp) (by omega)⟩
  · refine ⟨rfl, ?_, (sy_tup (sys_cons (sy_nat (i := cnt) (by omega)) sys_nil)).mono (by simp) (by omega)⟩
    simp [isWord, isNum]
    omega
  · exact ⟨rfl, by simp [isWord, isNum], (sy_tup (sys_cons (sy_int (i := -1) (by decide)) sys_nil)).mono (by simp) (by omega)⟩
  · exact ⟨rfl, by simp [isWord, isNum], (sy_tup (sys_cons sy_bl sys_nil)).mono (by simp) (by omega)⟩
  · exact ⟨rfl, by simp [isWord, isNum], (sy_tup (sys_cons sy_str0 sys_nil)).mono (by simp) (by omega)⟩
  · refine ⟨?_, ?_, (sy_tup (n := 100) (k := 0) fun x hx => ?_).mono (by simp) (by omega)⟩
    · rw [good_tup]
      exact good_all fun x hx => by rw [(List.mem_replicate.mp hx).2]; rfl
    · simp [isWord]
    · rw [(List.mem_replicate.mp hx).2]
      exact (sy_int (i := 0) (by decide)).mono (by omega) (by omega)
  · exact ⟨rfl, rfl, (sy_int (i := 0) (by decide)).mono (by omega) (by omega)⟩
  · exact ⟨rfl, by simp [isWord, isNum], (sy_tup (sys_cons sy_non (sys_cons (sy_int (i := 0) (by decide)) sys_nil))).mono (by simp) (by omega)⟩
theorem Wp_seq {b : Below} {st : S} {ss : List S} {sl : Sl} {Y Z : Fl × Sl → Prop} (h : Wp (ex g b st sl) fun p => p.1 = Fl.nx ∧ Y p) (h2 : ∀ sl', Y (.nx, sl') → Wp (exs g b ss sl') Z) : Wp (exs g b (st :: ss) sl) Z := by
  obtain ⟨⟨f, sl'⟩, e, rfl, y⟩ := h
  rw [exs, e]
  exact h2 sl' y
/-- one turn -/
theorem turn_law (h : H00 g) {c : Nat} {d ds : D} (fs : ds.frozen = true) (s : StOk c d) (hc : c < 800000) {a2 a3 a4 a5 a6 a7 a8 a9 a10 : Option D} :
    Wp (exs g (belowN g (n + 7)) l_law_2 [some ds, some d, a2, a3, a4, a5, a6, a7, a8, a9, a10]) fun p => p.1 = Fl.nx ∧ ∃ d' b3 b4 b5 b6 b7 b8 b9, StOk (c + 200) d' ∧ p.2 = [some ds, some d', a2, b3, b4, b5, b6, b7, b8, b9, a10] := by
  obtain ⟨k, d1, hk, s1, e1⟩ := draw (n := n + 5) h.toHDraw s (by omega) (lim := 4) (by omega) (by omega)
  rw [show nat 4 = .int 4 from rfl] at e1
  obtain ⟨⟨m, d2⟩, ⟨ok, mc, ml, s2⟩, e2⟩ := law_machine (n := n + 4) h.toHDraw h.f16 s1 (by omega) (cnt := k + 1) (most := 7) (by omega) (by omega) (by omega) (by omega)
  simp only at ok mc ml s2 e2
  rw [show nat (k + 1) = .int (1 + (k : Int)) by simp only [nat]; congr 1; omega, show nat 7 = .int 7 from rfl] at e2
  have q0 := s.nx
  have q1 := s1.nx
  have q2 := s2.nx
  unfold l_law_2
  refine Wp_step (sl' := [some ds, some d2, a2, some m.d, a4, a5, a6, a7, a8, a9, a10]) (by simp [q0, h.f14, F__law_draw, e1, q1, h.f16, F__law_machine, e2]) ?_
  refine Wp_seq (Y := fun p => ∃ d' b4 b5 b6, StOk (c + 1 + (1 + 7 * (k + 1) + 7) + 40) d' ∧ p.2 = [some ds, some d', a2, some m.d, b4, b5, b6, a7, a8, a9, a10]) ?_ ?_
  · rw [ex]
    have ra := fun sl => rngR_nat (k := 4) (sl := sl) (sm40 (m := 5) (by omega) (by omega))
    simp only [show ((4 : Nat) : Int) = 4 from rfl] at ra
    simp [ra]
    refine (for_inv (fun j sl => j ≤ 4 ∧ ∃ d' b4 b5 b6, StOk (c + 1 + (1 + 7 * (k + 1) + 7) + 10 * j) d' ∧ sl = [some ds, some d', a2, some m.d, b4, b5, b6, a7, a8, a9, a10]) (k := 0) ⟨by omega, d2, _, _, _, s2.mono (by omega), rfl⟩ ?_ ?_)
    · rintro j x sl hx ⟨hj, d', b4, b5, b6, s3, rfl⟩
      simp only [Nat.zero_add] at s3
      have hj4 : j < 4 := by
        have := (List.getElem?_eq_some_iff.mp hx).1
        simpa using this
      simp only [asg_v, of_some, Wp_ok]
      refine (turn_word (n := n + 1) h ok s3 (by omega)).mono ?_
      rintro ⟨f, sl'⟩ ⟨rfl, d3, b5, b6, s4, rfl⟩
      exact ⟨by omega, d3, _, _, _, s4.mono (by omega), rfl⟩
    · rintro sl ⟨hj, d', b4, b5, b6, s3, rfl⟩
      exact ⟨rfl, d', s3.mono (by simp), _, _, _, rfl⟩
  · rintro sl' ⟨d3, b4, b5, b6, s3, rfl⟩
    have q3 := s3.nx
    have em := call_need_machine_ok (n := n + 2) h.toHMach ok
    have lm := like (g := g) (n := n + 6) h.f18 (sy_mach ok) rfl fz_mach (by omega) (by omega)
    refine Wp_step (sl' := [some ds, some d3, a2, some m.d, b4, b5, b6, a7, a8, a9, a10]) (by simp [h.f7, F_need_machine, em, h.f18, F__law_like, lm]) ?_
    obtain ⟨⟨x, d4⟩, ⟨ox, s4⟩, e4⟩ := law_odd (n := n + 3) h.toHDraw h.f15 h.f22 ok s3 (by omega)
    simp only at ox s4 e4
    obtain ⟨o, l, rfl, go, mo, ll, lb⟩ := ox
    have fo := good_fz go
    have no := noXc_good go
    have q4 := s4.nx
    refine Wp_step (sl' := [some ds, some d4, a2, some m.d, b4, b5, b6, some o, some (nats l), a9, a10]) (by simp [q3, h.f22, F__law_odd, e4, fo, q4]) ?_
    have mc2 := ok.c2
    obtain ⟨bi, bad, d5, hbad, s5, e5⟩ := law_of (n := n + 4) h.toHDraw h.f15 s4 (by omega) (c := .lst false (badWs m.cnt)) (xs := badWs m.cnt) (.inl rfl) (goods_fz (good_all fun x hx => (badWs_ok ok.c1 ok.c2 hx).1)) (by simp [badWs]) (by simp [badWs])
    obtain ⟨gb, wb, yb⟩ := badWs_ok ok.c1 ok.c2 (List.mem_of_getElem? hbad)
    have q5 := s5.nx
    have fb := good_fz gb
    have nb := noXc_good gb
    unfold badWs at e5
    have mu := bin_mult (xs := [.int 0]) (k := 2001) rfl (by omega) (by simp)
    have ef : (List.replicate 2001 [D.int 0]).flatten = List.replicate 2001 (.int 0) := by simp
    rw [ef, show ((2001 : Nat) : Int) = 2001 from rfl] at mu
    obtain ⟨zs, hzs⟩ : ∃ zs, List.replicate 2001 (D.int 0) = zs := ⟨_, rfl⟩
    have fz : D.frozens zs = true := by rw [← hzs]; exact fz_all fun x hx => by rw [(List.mem_replicate.mp hx).2]; rfl
    have iz := frzs_id fz
    rw [hzs] at mu e5
    refine Wp_step (sl' := [some ds, some d5, a2, some m.d, b4, b5, b6, some o, some (nats l), some bad, a10]) (by simp [q4, mu, iz, szl, h.f15, F__law_of, e5, q5]) ?_
    have vs : ∀ {w c : Option D}, viewS [some ds, some d5, a2, some m.d, b4, b5, w, some o, some (nats l), some bad, c] = [some ds, viewD (some d5), viewD a2, some m.d, viewD b4, viewD b5, viewD w, some o, some (nats l), some bad, viewD c] := by
      intro w c
      simp [viewS, viewD, fs, fo, fb]
    have n1 := call_need_machine (n := n + 1) h.toHMach go
    have n2 := call_end_of_machine (n := n) h.toHEnd h.f10 go mo gb
    have n3 := call_lets_machine (n := n) h.toHEnd h.f11 (w := .non) go mo rfl
    have n4 := call_end_of_word (n := n) h.toHEnd h.f10 ok gb wb
    have n5 := call_lets_word (n := n) h.toHEnd h.f11 ok gb wb
    rw [mo] at n1
    simp only at n1
    have k1 : ∀ {w : Option D}, lamR g (belowN g (n + 7)) 21 (.call 7 [.var 7]) [some ds, some d5, a2, some m.d, b4, b5, w, some o, some (nats l), some bad, a10] = .ok (.lst false [.str "machine", nats l]) none := by
      intro w
      refine caught_mach (n := n + 6) h.f21 h.s22 h.c2 ?_
      simp [vs, no, fo, h.f7, F_need_machine, n1, actOf]
    have k2 : ∀ {w : Option D}, lamR g (belowN g (n + 7)) 21 (.call 10 [.var 7, .var 9]) [some ds, some d5, a2, some m.d, b4, b5, w, some o, some (nats l), some bad, a10] = .ok (.lst false [.str "machine", nats l]) none := by
      intro w
      refine caught_mach (n := n + 6) h.f21 h.s22 h.c2 ?_
      simp [vs, no, fo, nb, fb, h.f10, F_end_of, n2, actOf]
    have k3 : ∀ {w : Option D}, lamR g (belowN g (n + 7)) 21 (.call 11 [.var 7, .c .non]) [some ds, some d5, a2, some m.d, b4, b5, w, some o, some (nats l), some bad, a10] = .ok (.lst false [.str "machine", nats l]) none := by
      intro w
      refine caught_mach (n := n + 6) h.f21 h.s22 h.c2 ?_
      simp [vs, no, fo, nb, fb, h.f11, F_lets, n3, actOf]
    have k4 : ∀ {w : Option D}, lamR g (belowN g (n + 7)) 21 (.call 10 [.var 3, .var 9]) [some ds, some d5, a2, some m.d, b4, b5, w, some o, some (nats l), some bad, a10] = .ok (.lst false [.str "word", bad]) none := by
      intro w
      refine caught_word (n := n + 6) h.f21 h.s12 h.s11 h.c1 fb ?_
      simp [vs, no, fo, nb, fb, h.f10, F_end_of, n4, actOf]
    have k5 : ∀ {w : Option D}, lamR g (belowN g (n + 7)) 21 (.call 11 [.var 3, .var 9]) [some ds, some d5, a2, some m.d, b4, b5, w, some o, some (nats l), some bad, a10] = .ok (.lst false [.str "word", bad]) none := by
      intro w
      refine caught_word (n := n + 6) h.f21 h.s12 h.s11 h.c1 fb ?_
      simp [vs, no, fo, nb, fb, h.f11, F_lets, n5, actOf]
    have ib := frz_id fb
    refine Wp_step (sl' := [some ds, some d5, a2, some m.d, b4, b5, some (.lst false [.lst false [.str "machine", nats l], .lst false [.str "machine", nats l], .lst false [.str "machine", nats l]]), some o, some (nats l), some bad, a10]) (by simp [k1, k2, k3, szl]) ?_
    have A1 := bin_addl (m := false) (m' := true) (xs := [.lst false [.str "machine", nats l], .lst false [.str "machine", nats l], .lst false [.str "machine", nats l]]) (ys := [.lst false [.str "word", bad], .lst false [.str "word", bad]]) (by simp) (by simp) (by simp [fb])
    refine Wp_step (sl' := [some ds, some d5, a2, some m.d, b4, b5, some (.lst false [.lst false [.str "machine", nats l], .lst false [.str "machine", nats l], .lst false [.str "machine", nats l], .lst false [.str "word", bad], .lst false [.str "word", bad]]), some o, some (nats l), some bad, a10]) (by
      simp at A1
      simp [k4, k5, A1, szl, ib]) ?_
    have M1 := bin_mull (xs := [.lst false [.str "machine", nats l]]) (k := 3) (by simp) (by omega) (by simp)
    have M2 := bin_mull (xs := [.lst false [.str "word", bad]]) (k := 2) (by simp [fb]) (by omega) (by simp)
    rw [show ((3 : Nat) : Int) = 3 from rfl, show (List.replicate 3 [D.lst false [.str "machine", nats l]]).flatten = [.lst false [.str "machine", nats l], .lst false [.str "machine", nats l], .lst false [.str "machine", nats l]] from rfl] at M1
    rw [show ((2 : Nat) : Int) = 2 from rfl, show (List.replicate 2 [D.lst false [.str "word", bad]]).flatten = [.lst false [.str "word", bad], .lst false [.str "word", bad]] from rfl] at M2
    have A2 := bin_addl (m := true) (m' := true) (xs := [.lst false [.str "machine", nats l], .lst false [.str "machine", nats l], .lst false [.str "machine", nats l]]) (ys := [.lst false [.str "word", bad], .lst false [.str "word", bad]]) (by simp) (by simp) (by simp [fb])
    have yl : Sy 40000 1 (nats l) := sy_small (fun x hx => by have := lb x hx; omega) (by omega)
    have y1 : Sy 1000000 2 (.lst false [.str "machine", nats l]) := (sy_lst (n := 40000) (k := 1) (sys_cons (sy_strM.mono (by omega) (by omega)) (sys_cons yl sys_nil))).mono (by simp) (by omega)
    have y2 : Sy 1000000 2 (.lst false [.str "word", bad]) := (sy_lst (n := 300000) (k := 1) (sys_cons (sy_strW.mono (by omega) (by omega)) (sys_cons yb sys_nil))).mono (by simp) (by omega)
    have lk := like (g := g) (n := n + 6) h.f18 (d := .lst false [.lst false [.str "machine", nats l], .lst false [.str "machine", nats l], .lst false [.str "machine", nats l], .lst false [.str "word", bad], .lst false [.str "word", bad]]) (sy_lst (sys_cons y1 (sys_cons y1 (sys_cons y1 (sys_cons y2 (sys_cons y2 sys_nil)))))) rfl (by simp [fb]) (by simp) (by omega)
    refine Wp_step (sl' := [some ds, some d5, a2, some m.d, b4, b5, some (.lst false [.lst false [.str "machine", nats l], .lst false [.str "machine", nats l], .lst false [.str "machine", nats l], .lst false [.str "word", bad], .lst false [.str "word", bad]]), some o, some (nats l), some bad, a10]) (by
      simp at A2
      simp [M1, M2, A2, nb, fb, ib, h.f18, F__law_like, lk, szl]) ?_
    simp
    exact s5.mono (by omega)
def wideM : Mach := ⟨1, [[1], [0]], [0]⟩
theorem wide_ok : MOk wideM := ⟨by decide, by decide, by decide, by decide, ⟨by decide⟩, by simp [wideM], by decide⟩
theorem law_true (h : H00 g) (ns : List Int) (hl : ns.length ≤ 63) : (belowN g (n + 8)).call 23 [.lst false (ns.map D.int)] = .ok (.bl true) none := by
  obtain ⟨d, s, e⟩ := law_begin (n := n + 6) h.f12 ns (by omega)
  refine call_by h.f23 rfl rfl ?_
  have q0 := s.nx
  show Wp (exs g (belowN g (n + 7)) b_law _) _
  unfold b_law
  refine Wp_step (sl' := [some (.lst false (ns.map D.int)), some d, none, none, none, none, none, none, none, none, none]) (by simp [F_law, h.f12, F__law_begin, e]) ?_
  refine Wp_seq (Y := fun p => ∃ d' b2 b3 b4 b5 b6 b7 b8 b9 b10, p.2 = [some (.lst false (ns.map D.int)), some d', b2, b3, b4, b5, b6, b7, b8, b9, b10]) ?_ ?_
  · rw [ex]
    have ra := fun sl => rngR_nat (k := 3) (sl := sl) (sm40 (m := 5) (by omega) (by omega))
    simp only [show ((3 : Nat) : Int) = 3 from rfl] at ra
    simp [ra]
    refine (for_inv (fun j sl => j ≤ 3 ∧ ∃ d' b2 b3 b4 b5 b6 b7 b8 b9 b10, StOk (0 + 200 * j) d' ∧ sl = [some (.lst false (ns.map D.int)), some d', b2, b3, b4, b5, b6, b7, b8, b9, b10]) (k := 0) ⟨by omega, d, _, _, _, _, _, _, _, _, _, s, rfl⟩ ?_ ?_)
    · rintro j x sl hx ⟨hj, d', b2, b3, b4, b5, b6, b7, b8, b9, b10, s3, rfl⟩
      simp only [Nat.zero_add] at s3
      have hj4 : j < 3 := by
        have := (List.getElem?_eq_some_iff.mp hx).1
        simpa using this
      simp only [asg_v, of_some, Wp_ok]
      refine (turn_law (n := n) h (by simp) s3 (by omega)).mono ?_
      rintro ⟨f, sl'⟩ ⟨rfl, d3, b3, b4, b5, b6, b7, b8, b9, s4, rfl⟩
      exact ⟨by omega, d3, _, _, _, _, _, _, _, _, _, s4.mono (by omega), rfl⟩
    · rintro sl ⟨hj, d', b2, b3, b4, b5, b6, b7, b8, b9, b10, s3, rfl⟩
      exact ⟨rfl, _, _, _, _, _, _, _, _, _, _, rfl⟩
  · rintro sl' ⟨d', b2, b3, b4, b5, b6, b7, b8, b9, b10, rfl⟩
    refine Wp_step (sl' := [some (.lst false (ns.map D.int)), some d', b2, b3, b4, b5, b6, b7, b8, b9, some wideM.d]) (by simp [wideM, Mach.d, nats]) ?_
    have mk : ∀ k : Nat, k ≤ 2000 → bin .mul (.tup [.int 0]) (.int (k : Int)) = some (nats (List.replicate k 0)) := fun k hk => by
      rw [bin_mult rfl (by omega) (by simp; omega)]
      congr 1
      unfold nats
      congr 1
      simp
    have m1 := mk 2000 (by omega)
    have m2 := mk 1999 (by omega)
    have w1 : ∀ k : Nat, ∀ x ∈ List.replicate k 0, x < wideM.cnt := fun k x hx => by rw [(List.mem_replicate.mp hx).2]; decide
    have e1 := call_lets (n := n + 1) h.toHEnd h.f11 wide_ok (w1 2000) (by simp)
    have e2 := call_lets (n := n + 1) h.toHEnd h.f11 wide_ok (w1 1999) (by simp)
    have d1 : decide (endF wideM.steps 0 (List.replicate 2000 0) ∈ wideM.kept) = true := by decide +kernel
    have d2 : decide (endF wideM.steps 0 (List.replicate 1999 0) ∈ wideM.kept) = false := by decide +kernel
    rw [d1] at e1
    rw [d2] at e2
    rw [show ((2000 : Nat) : Int) = 2000 from rfl] at m1
    rw [show ((1999 : Nat) : Int) = 1999 from rfl] at m2
    obtain ⟨z1, hz1⟩ : ∃ z, List.replicate 2000 0 = z := ⟨_, rfl⟩
    obtain ⟨z2, hz2⟩ : ∃ z, List.replicate 1999 0 = z := ⟨_, rfl⟩
    rw [hz1] at m1 e1
    rw [hz2] at m2 e2
    have lk := like (g := g) (n := n + 6) h.f18 (d := .lst false [.bl true, .bl false]) (sy_lst (sys_cons sy_bl (sys_cons sy_bl sys_nil))) rfl (by simp) (by simp) (by omega)
    simp [m1, m2, h.f11, F_lets, e1, e2, h.f18, F__law_like, lk, F_law]
end
end Run
end Q

set_option Elab.async false
set_option linter.all false
/-! W2: how data of Q stand in the abstract heap. -/
namespace Q
open Snd
open PySem L2

/-- an object that stays as it is -/
def pinO (o : Obj) : HO := .frz o (.ext fun _ => True)
def isOwn : HO → Bool
  | .lst _ => true
  | .dK _ => true
  | _ => false
def isTbl : HO → Bool
  | .tbl _ => true
  | _ => false
/-- neither owned nor a table -/
def isFix (o : HO) : Bool := !isOwn o && !isTbl o

/-- the whole law's: the written part, the classes of exceptions, their fields, the tables of code objects -/
structure RP where
  K : PySem.W.Frag
  cad : Nat → Addr
  cfs : Nat → List Str
  T : List (Addr × Str)

/-- a list that nobody changes -/
def SqF (K : PySem.W.Frag) (H : Hp) (a : Addr) (xs : List V) : Prop :=
  (∃ o, H a = some (.frz o (.lst xs))) ∨
    ∃ (o : Obj) (its : Array Value) (n : Nat), K.lookup a = some o ∧ o.cls = .type "list" ∧ o.dict = none ∧ o.data = .seq its n ∧ its.size ≤ sizeLine ∧ Vals xs its.toList
theorem SqF.l {K : PySem.W.Frag} {H : Hp} {a : Addr} {xs : List V} (h : SqF K H a xs) : SqL K H a xs := by
  rcases h with ⟨o, h⟩ | h
  · exact .inl (.inr ⟨o, h⟩)
  · exact .inr h
def XdHas (fl : List (Str × V)) : List Str → List V → Prop := Paired fun x w => fl.lookup x = some w
mutual
/-- in H v is the data d; as: the addresses of its owned objects -/
inductive Rep (P : RP) (H : Hp) : D → V → List Addr → Prop
  | non : Rep P H .non .non []
  | bl (b : Bool) : Rep P H (.bl b) (.bl b) []
  | int (i : Int) : Rep P H (.int i) (.int i) []
  | str (x : Str) : Rep P H (.str x) (.str x) []
  | tup {ds : List D} {a : Addr} {xs : List V} {as : List Addr} (h : SqT P.K H a xs) (r : Reps P H ds xs as) : Rep P H (.tup ds) (.ref a) as
  | lstF {ds : List D} {a : Addr} {xs : List V} (h : SqF P.K H a xs) (r : Reps P H ds xs []) : Rep P H (.lst false ds) (.ref a) []
  | lstO {ds : List D} {a : Addr} {xs : List V} {as : List Addr} (h : H a = some (.lst xs)) (r : Reps P H ds xs as) : Rep P H (.lst true ds) (.ref a) (a :: as)
  | dicF {ks : List Key} {ds : List D} {a : Addr} {xs : List V} {o : Obj} (h : H a = some (.frz o (.dK (ks.zip xs)))) (hl : ks.length = ds.length) (nd : ks.Nodup) (r : Reps P H ds xs []) : Rep P H (.dic false ks ds) (.ref a) []
  | dicO {ks : List Key} {ds : List D} {a : Addr} {xs : List V} {as : List Addr} (h : H a = some (.dK (ks.zip xs))) (hl : ks.length = ds.length) (nd : ks.Nodup) (r : Reps P H ds xs as) : Rep P H (.dic true ks ds) (.ref a) (a :: as)
inductive Reps (P : RP) (H : Hp) : List D → List V → List Addr → Prop
  | nil : Reps P H [] [] []
  | cons {d : D} {ds : List D} {v : V} {vs : List V} {as bs : List Addr} (h : Rep P H d v as) (r : Reps P H ds vs bs) : Reps P H (d :: ds) (v :: vs) (as ++ bs)
end

section
variable {P : RP} {H H' : Hp}
theorem Reps.length {ds : List D} : ∀ {vs : List V} {as : List Addr}, Reps P H ds vs as → ds.length = vs.length := by
  induction ds with
  | nil => intro vs as h; cases h; rfl
  | cons d ds ih =>
    intro vs as h
    cases h with
    | cons h r => simp [ih r]

/-- what is fixed stays -/
def FixIn (H H' : Hp) : Prop := ∀ b o, H b = some o → isFix o = true → H' b = some o
theorem FixIn.refl : FixIn H H := fun _ _ h _ => h
theorem FixIn.trans {H1 H2 H3 : Hp} (a : FixIn H1 H2) (b : FixIn H2 H3) : FixIn H1 H3 := fun c o h f => b c o (a c o h f) f
theorem FixIn.sqT (f : FixIn H H') {K : PySem.W.Frag} {a : Addr} {xs : List V} (h : SqT K H a xs) : SqT K H' a xs := by
  rcases h with (h | ⟨o, h⟩) | h
  · exact .inl (.inl (f _ _ h rfl))
  · exact .inl (.inr ⟨o, f _ _ h rfl⟩)
  · exact .inr h
theorem FixIn.sqF (f : FixIn H H') {K : PySem.W.Frag} {a : Addr} {xs : List V} (h : SqF K H a xs) : SqF K H' a xs := by
  rcases h with ⟨o, h⟩ | h
  · exact .inl ⟨o, f _ _ h rfl⟩
  · exact .inr h

mutual
/-- the frame: fixed things stay, the owned objects stand as they stood -/
theorem Rep.frame : ∀ {d : D} {v : V} {as : List Addr}, FixIn H H' → (∀ a ∈ as, H' a = H a) → Rep P H d v as → Rep P H' d v as
  | _, _, _, f, k, .non => .non
  | _, _, _, f, k, .bl b => .bl b
  | _, _, _, f, k, .int i => .int i
  | _, _, _, f, k, .str x => .str x
  | _, _, _, f, k, .tup h r => .tup (f.sqT h) (Reps.frame f k r)
  | _, _, _, f, k, .lstF h r => .lstF (f.sqF h) (Reps.frame f (fun _ z => nomatch z) r)
  | _, _, _, f, k, .lstO h r => .lstO ((k _ List.mem_cons_self).trans h) (Reps.frame f (fun a z => k a (List.mem_cons_of_mem _ z)) r)
  | _, _, _, f, k, .dicF h hl nd r => .dicF (f _ _ h rfl) hl nd (Reps.frame f (fun _ z => nomatch z) r)
  | _, _, _, f, k, .dicO h hl nd r => .dicO ((k _ List.mem_cons_self).trans h) hl nd (Reps.frame f (fun a z => k a (List.mem_cons_of_mem _ z)) r)
theorem Reps.frame : ∀ {ds : List D} {vs : List V} {as : List Addr}, FixIn H H' → (∀ a ∈ as, H' a = H a) → Reps P H ds vs as → Reps P H' ds vs as
  | _, _, _, f, k, .nil => .nil
  | _, _, _, f, k, .cons h r => .cons (Rep.frame f (fun a z => k a (List.mem_append_left _ z)) h) (Reps.frame f (fun a z => k a (List.mem_append_right _ z)) r)
end
end
end Q

set_option Elab.async false
set_option linter.all false
/-! W3: slots and heap; what is told behind an expression. -/
namespace Q
open Snd
open PySem L2

section
variable {P : RP} {H H' : Hp}
/-- the owned objects are lists and dicts -/
def OwnOk (H : Hp) (own : List Addr) : Prop := ∀ a ∈ own, ∃ o, H a = some o ∧ isOwn o = true
mutual
theorem Rep.own : ∀ {d : D} {v : V} {as : List Addr}, Rep P H d v as → OwnOk H as
  | _, _, _, .non => fun _ z => nomatch z
  | _, _, _, .bl b => fun _ z => nomatch z
  | _, _, _, .int i => fun _ z => nomatch z
  | _, _, _, .str x => fun _ z => nomatch z
  | _, _, _, .tup h r => Reps.own r
  | _, _, _, .lstF h r => fun _ z => nomatch z
  | _, _, _, .lstO h r => fun a z => by
    rcases List.mem_cons.mp z with e | z
    · rw [e]; exact ⟨_, h, rfl⟩
    · exact Reps.own r a z
  | _, _, _, .dicF h hl nd r => fun _ z => nomatch z
  | _, _, _, .dicO h hl nd r => fun a z => by
    rcases List.mem_cons.mp z with e | z
    · rw [e]; exact ⟨_, h, rfl⟩
    · exact Reps.own r a z
theorem Reps.own : ∀ {ds : List D} {vs : List V} {as : List Addr}, Reps P H ds vs as → OwnOk H as
  | _, _, _, .nil => fun _ z => nomatch z
  | _, _, _, .cons h r => fun a z => (List.mem_append.mp z).elim (fun z => Rep.own h a z) fun z => Reps.own r a z
end
mutual
theorem Rep.noas : ∀ {d : D} {v : V} {as : List Addr}, Rep P H d v as → d.frozen = true → as = []
  | _, _, _, .non, _ => rfl
  | _, _, _, .bl b, _ => rfl
  | _, _, _, .int i, _ => rfl
  | _, _, _, .str x, _ => rfl
  | _, _, _, .tup h r, f => Reps.noas r (by simpa [D.frozen] using f)
  | _, _, _, .lstF h r, _ => rfl
  | _, _, _, .lstO h r, f => by simp [D.frozen] at f
  | _, _, _, .dicF h hl nd r, _ => rfl
  | _, _, _, .dicO h hl nd r, f => by simp [D.frozen] at f
theorem Reps.noas : ∀ {ds : List D} {vs : List V} {as : List Addr}, Reps P H ds vs as → D.frozens ds = true → as = []
  | _, _, _, .nil, _ => rfl
  | _, _, _, .cons h r, f => by
    simp only [D.frozens, Bool.and_eq_true] at f
    rw [Rep.noas h f.1, Reps.noas r f.2]; rfl
end
theorem Rep.fz {d : D} {v : V} {as : List Addr} (r : Rep P H d v as) (f : d.frozen = true) : Rep P H d v [] := by
  have := r.noas f
  subst this
  exact r
theorem Reps.fz {d : List D} {v : List V} {as : List Addr} (r : Reps P H d v as) (f : D.frozens d = true) : Reps P H d v [] := by
  have := r.noas f
  subst this
  exact r
mutual
/-- what has no owned object is frozen data, but for what is never owned -/
theorem Rep.isfz : ∀ {d : D} {v : V}, Rep P H d v [] → d.frozen = true
  | _, _, .non => rfl
  | _, _, .bl b => rfl
  | _, _, .int i => rfl
  | _, _, .str x => rfl
  | _, _, .tup h r => by simp only [D.frozen]; exact Reps.isfz r rfl
  | _, _, .lstF h r => by simp only [D.frozen, Bool.not_false, Bool.true_and]; exact Reps.isfz r rfl
  | _, _, .dicF h hl nd r => by simp only [D.frozen, Bool.not_false, Bool.true_and]; exact Reps.isfz r rfl
theorem Reps.isfz : ∀ {ds : List D} {vs : List V} {as : List Addr}, Reps P H ds vs as → as = [] → D.frozens ds = true
  | _, _, _, .nil, _ => rfl
  | _, _, _, .cons h r, e => by
    obtain ⟨e1, e2⟩ := List.append_eq_nil_iff.mp e
    subst e1
    simp only [D.frozens, Bool.and_eq_true]
    exact ⟨Rep.isfz h, Reps.isfz r e2⟩
end

/-! ### slots -/
inductive SlR (P : RP) (H : Hp) : Sl → St → List Addr → Prop
  | nil : SlR P H [] [] []
  | no {y : Option D} {x : Option V} {sl : Sl} {σ : St} {own : List Addr} (hy : y.bind noXc = none) (r : SlR P H sl σ own) : SlR P H (y :: sl) (x :: σ) own
  | yes {d : D} {v : V} {as : List Addr} {sl : Sl} {σ : St} {own : List Addr} (h : Rep P H d v as) (r : SlR P H sl σ own) : SlR P H (some d :: sl) (some v :: σ) (as ++ own)
theorem SlR.length {sl : Sl} : ∀ {σ : St} {own : List Addr}, SlR P H sl σ own → sl.length = σ.length := by
  induction sl with
  | nil => intro σ own h; cases h; rfl
  | cons d ds ih =>
    intro σ own h
    cases h with
    | no hy r => simp [ih r]
    | yes h r => simp [ih r]
theorem SlR.own {sl : Sl} {σ : St} {own : List Addr} (h : SlR P H sl σ own) : OwnOk H own := by
  induction h with
  | nil => exact fun _ z => nomatch z
  | no hy r ih => exact ih
  | yes h r ih => exact fun a z => (List.mem_append.mp z).elim (fun z => h.own a z) fun z => ih a z
theorem SlR.frame {sl : Sl} {σ : St} {own : List Addr} (f : FixIn H H') (h : SlR P H sl σ own) : (∀ a ∈ own, H' a = H a) → SlR P H' sl σ own := by
  induction h with
  | nil => exact fun _ => .nil
  | no hy r ih => exact fun k => .no hy (ih k)
  | yes h r ih => exact fun k => .yes (h.frame f fun a z => k a (List.mem_append_left _ z)) (ih fun a z => k a (List.mem_append_right _ z))
/-- a slot, and what lies around -/
theorem SlR.at {sl : Sl} {σ : St} {own : List Addr} (h : SlR P H sl σ own) : ∀ {i : Nat} {d : D}, get i sl = some d →
    ∃ v as pre post, σ[i]? = some (some v) ∧ Rep P H d v as ∧ own = pre ++ as ++ post ∧
      (∀ {H2 : Hp} {d2 : D} {as2 : List Addr}, FixIn H H2 → (∀ a ∈ pre ++ post, H2 a = H a) → Rep P H2 d2 v as2 → SlR P H2 (sl.set i (some d2)) σ (pre ++ as2 ++ post)) ∧
      (∀ {H2 : Hp} {x : Option V}, FixIn H H2 → (∀ a ∈ pre ++ post, H2 a = H a) → SlR P H2 (sl.set i none) (σ.set i x) (pre ++ post)) ∧
      (∀ {H2 : Hp} {d2 : D} {v2 : V} {as2 : List Addr}, FixIn H H2 → (∀ a ∈ pre ++ post, H2 a = H a) → Rep P H2 d2 v2 as2 → SlR P H2 (sl.set i (some d2)) (σ.set i (some v2)) (pre ++ as2 ++ post)) := by
  induction h with
  | nil => intro i d e; simp [get, getX] at e
  | @no y0 x sl σ own hy r ih =>
    intro i d e
    cases i with
    | zero =>
      have e : y0.bind noXc = some d := by simpa [get, getX] using e
      rw [hy] at e; cases e
    | succ i =>
      obtain ⟨v, as, pre, post, h1, h2, h3, h4, h5, h6⟩ := ih (i := i) (d := d) (by simpa [get, getX] using e)
      refine ⟨v, as, pre, post, by simpa using h1, h2, h3, fun {H2 d2 as2} f k r2 => ?_, fun {H2 y} f k => ?_, fun {H2 d2 v2 as2} f k r2 => ?_⟩
      · exact .no hy (h4 f k r2)
      · exact .no hy (h5 f k)
      · exact .no hy (h6 f k r2)
  | @yes d0 v0 as0 sl σ own h r ih =>
    intro i d e
    cases i with
    | zero =>
      have e : noXc d0 = some d := by simpa [get, getX] using e
      have e : d0 = d := by cases h <;> first | exact Option.some.inj e | cases e
      subst e
      refine ⟨v0, as0, [], own, by simp, h, by simp, fun {H2 d2 as2} f k r2 => ?_, fun {H2 y} f k => ?_, fun {H2 d2 v2 as2} f k r2 => ?_⟩
      · exact .yes r2 (r.frame f fun a z => k a (by simpa using z))
      · exact .no rfl (r.frame f fun a z => k a (by simpa using z))
      · exact .yes r2 (r.frame f fun a z => k a (by simpa using z))
    | succ i =>
      obtain ⟨v, as, pre, post, h1, h2, h3, h4, h5, h6⟩ := ih (i := i) (d := d) (by simpa [get, getX] using e)
      subst h3
      refine ⟨v, as, as0 ++ pre, post, by simpa using h1, h2, by simp, fun {H2 d2 as2} f k r2 => ?_, fun {H2 y} f k => ?_, fun {H2 d2 v2 as2} f k r2 => ?_⟩
      · have := SlR.yes (h.frame f fun a z => k a (by simp [z])) (h4 f (fun a z => k a (by simp only [List.mem_append] at z ⊢; rcases z with z | z <;> simp [z])) r2)
        simpa using this
      · have := SlR.yes (h.frame f fun a z => k a (by simp [z])) (h5 (x := y) f (fun a z => k a (by simp only [List.mem_append] at z ⊢; rcases z with z | z <;> simp [z])))
        simpa using this
      · have := SlR.yes (h.frame f fun a z => k a (by simp [z])) (h6 f (fun a z => k a (by simp only [List.mem_append] at z ⊢; rcases z with z | z <;> simp [z])) r2)
        simpa using this
/-- an empty slot is filled, a full one emptied, whatever stood there -/
theorem SlR.put {sl : Sl} {σ : St} {own : List Addr} (h : SlR P H sl σ own) : ∀ {i : Nat}, i < sl.length → 
    ∃ old pre post, own = pre ++ old ++ post ∧ (∀ {H2 : Hp} {d2 : D} {v2 : V} {as2 : List Addr}, FixIn H H2 → (∀ a ∈ pre ++ post, H2 a = H a) → Rep P H2 d2 v2 as2 → SlR P H2 (sl.set i (some d2)) (σ.set i (some v2)) (pre ++ as2 ++ post)) ∧
      (∀ {H2 : Hp} {x : Option V}, FixIn H H2 → (∀ a ∈ pre ++ post, H2 a = H a) → SlR P H2 (sl.set i none) (σ.set i x) (pre ++ post)) := by
  induction h with
  | nil => intro i e; simp at e
  | @no y0 x sl σ own hy r ih =>
    intro i e
    cases i with
    | zero => exact ⟨[], [], own, by simp, fun f k r2 => .yes r2 (r.frame f fun a z => k a (by simpa using z)), fun f k => .no rfl (r.frame f fun a z => k a (by simpa using z))⟩
    | succ i =>
      obtain ⟨old, pre, post, h3, h4, h5⟩ := ih (i := i) (by simpa using e)
      exact ⟨old, pre, post, h3, fun f k r2 => .no hy (h4 f k r2), fun f k => .no hy (h5 f k)⟩
  | @yes d0 v0 as0 sl σ own h r ih =>
    intro i e
    cases i with
    | zero => exact ⟨as0, [], own, by simp, fun f k r2 => .yes r2 (r.frame f fun a z => k a (by simpa using z)), fun f k => .no rfl (r.frame f fun a z => k a (by simpa using z))⟩
    | succ i =>
      obtain ⟨old, pre, post, h3, h4, h5⟩ := ih (i := i) (by simpa using e)
      subst h3
      refine ⟨old, as0 ++ pre, post, by simp, fun {H2 d2 v2 as2} f k r2 => ?_, fun {H2 x} f k => ?_⟩
      · have := SlR.yes (h.frame f fun a z => k a (by simp [z])) (h4 f (fun a z => k a (by simp only [List.mem_append] at z ⊢; rcases z with z | z <;> simp [z])) r2)
        simpa using this
      · have := SlR.yes (h.frame f fun a z => k a (by simp [z])) (h5 (x := x) f (fun a z => k a (by simp only [List.mem_append] at z ⊢; rcases z with z | z <;> simp [z])))
        simpa using this
end

/-! ### steps of the heap -/
/-- all but the owned stays; tables may grow -/
structure Step (own : List Addr) (H H' : Hp) (own' : List Addr) : Prop where
  keep : ∀ b o, H b = some o → b ∉ own → isTbl o = false → H' b = some o
  tbl : ∀ b ps, H b = some (.tbl ps) → ∃ ps', H' b = some (.tbl ps')
  new : ∀ a ∈ own', a ∈ own ∨ H a = none
/-- everything stays but tables -/
def Ext (H H' : Hp) : Prop := ∀ b o, H b = some o → isTbl o = false → H' b = some o
/-- everything stays -/
def Grow (H H' : Hp) : Prop := ∀ b o, H b = some o → H' b = some o
section
variable {own own1 own2 : List Addr} {H H1 H2 H3 : Hp}
theorem Grow.refl : Grow H H := fun _ _ h => h
theorem Grow.trans (a : Grow H H1) (b : Grow H1 H2) : Grow H H2 := fun c o h => b c o (a c o h)
theorem Grow.fix (g : Grow H H1) : FixIn H H1 := fun b o h _ => g b o h
theorem Grow.at (g : Grow H H1) (ok : OwnOk H own) : ∀ a ∈ own, H1 a = H a := fun a z => by
  obtain ⟨o, h, _⟩ := ok a z
  rw [h, g a o h]
theorem Grow.upd {a : Addr} {o : HO} (h : H a = none) : Grow H (upd H a o) := fun b u e => by
  rw [upd_ne (ne_of_none e h)]; exact e
theorem Ext.refl : Ext H H := fun _ _ h _ => h
theorem Ext.trans (a : Ext H H1) (b : Ext H1 H2) : Ext H H2 := fun c o h t => b c o (a c o h t) t
theorem Grow.ext (g : Grow H H1) : Ext H H1 := fun b o h _ => g b o h
theorem Ext.fix (g : Ext H H1) : FixIn H H1 := fun b o h f => g b o h (by unfold isFix at f; cases h2 : isTbl o <;> simp [h2] at f ⊢)
theorem own_tbl {o : HO} (h : isOwn o = true) : isTbl o = false := by cases o <;> simp [isOwn] at h <;> rfl
theorem Ext.at (g : Ext H H1) (ok : OwnOk H own) : ∀ a ∈ own, H1 a = H a := fun a z => by
  obtain ⟨o, h, f⟩ := ok a z
  rw [h, g a o h (own_tbl f)]
theorem Step.refl : Step own H H own := ⟨fun _ _ h _ _ => h, fun _ ps h => ⟨ps, h⟩, fun _ z => .inl z⟩
theorem Step.trans (a : Step own H H1 own1) (b : Step own1 H1 H2 own2) : Step own H H2 own2 := by
  refine ⟨fun c o h n t => ?_, fun c ps h => ?_, fun c z => ?_⟩
  · refine b.keep c o (a.keep c o h n t) (fun z => ?_) t
    rcases a.new c z with z | z
    · exact n z
    · rw [h] at z; cases z
  · obtain ⟨ps1, h1⟩ := a.tbl c ps h
    exact b.tbl c ps1 h1
  · rcases b.new c z with z | z
    · exact a.new c z
    · cases h : H c with
      | none => exact .inr rfl
      | some o =>
        refine .inl (Classical.byContradiction fun n => ?_)
        cases t : isTbl o with
        | false => rw [a.keep c o h n t] at z; cases z
        | true =>
          cases o <;> simp [isTbl] at t
          obtain ⟨ps1, h1⟩ := a.tbl c _ h
          rw [h1] at z; cases z
theorem Grow.step (g : Grow H H1) : Step own H H1 own := ⟨fun b o h _ _ => g b o h, fun b ps h => ⟨ps, g b _ h⟩, fun _ z => .inl z⟩
theorem Step.back {a : Addr} (x : Step own H H1 own1) (z : H1 a = none) : a ∈ own ∨ H a = none := by
  cases h : H a with
  | none => exact .inr rfl
  | some o =>
    refine .inl (Classical.byContradiction fun nn => ?_)
    cases tb : isTbl o with
    | false => have := x.keep a o h nn tb; rw [z] at this; cases this
    | true =>
      cases o <;> simp [isTbl] at tb
      obtain ⟨ps1, h1⟩ := x.tbl a _ h
      rw [z] at h1; cases h1
theorem Step.fix (a : Step own H H1 own1) (ok : OwnOk H own) : FixIn H H1 := fun b o h f => by
  refine a.keep b o h (fun z => ?_) (by unfold isFix at f; cases h2 : isTbl o <;> simp [h2] at f ⊢)
  obtain ⟨o', h', f'⟩ := ok b z
  rw [h] at h'; cases h'
  unfold isFix at f; simp [f'] at f
/-- what is owned by others stays -/
theorem Step.at {as : List Addr} (a : Step own H H1 own1) (ok : OwnOk H as) (d : ∀ b ∈ as, b ∉ own) : ∀ b ∈ as, H1 b = H b := fun b z => by
  obtain ⟨o, h, f⟩ := ok b z
  rw [h, a.keep b o h (d b z) (own_tbl f)]
end

/-- an exception with its fields -/
def XRep (P : RP) (H : Hp) (c : Nat) (fs : List D) (dd : Addr) : Prop := ∃ fl ws, H dd = some (.xd fl) ∧ XdHas fl (P.cfs c) ws ∧ Reps P H fs ws []
theorem XRep.fix {P : RP} {H H' : Hp} {c : Nat} {fs : List D} {dd : Addr} (f : FixIn H H') (x : XRep P H c fs dd) : XRep P H' c fs dd := by
  obtain ⟨fl, ws, h1, h2, h3⟩ := x
  exact ⟨fl, ws, f _ _ h1 rfl, h2, h3.frame f fun _ z => nomatch z⟩
/-- the frame's own: the shared parameters' values, what it found, the exceptions that its suites named -/
structure FR where
  io : List (Nat × V)
  H0 : Hp
  xs : List (Nat × Addr)
/-- what the frame found stands as it stood -/
structure Bas (H0 : Hp) (own : List Addr) (H : Hp) : Prop where
  keep : ∀ b o, H0 b = some o → isTbl o = false → H b = some o
  tbl : ∀ b ps, H0 b = some (.tbl ps) → ∃ ps', H b = some (.tbl ps')
  off : ∀ b ∈ own, H0 b = none
theorem Bas.step {H0 H H' : Hp} {own own' : List Addr} (x : Bas H0 own H) (s : Step own H H' own') : Bas H0 own' H' := by
  have off : ∀ b o, H0 b = some o → b ∉ own := fun b o e z => by rw [x.off b z] at e; cases e
  refine ⟨fun b o e t => s.keep b o (x.keep b o e t) (off b o e) t, fun b ps e => ?_, fun b z => ?_⟩
  · obtain ⟨ps1, e1⟩ := x.tbl b ps e
    exact s.tbl b ps1 e1
  · rcases s.new b z with z | z
    · exact x.off b z
    · cases e : H0 b with
      | none => rfl
      | some o =>
        cases t : isTbl o with
        | false => rw [x.keep b o e t] at z; cases z
        | true =>
          cases o <;> simp [isTbl] at t
          obtain ⟨ps1, e1⟩ := x.tbl b _ e
          rw [e1] at z; cases z
theorem Bas.none {own : List Addr} {H : Hp} : Bas (fun _ => Option.none) own H := ⟨fun _ _ e => (nomatch e), fun _ _ e => (nomatch e), fun _ _ => rfl⟩
structure Sim (P : RP) (F : FR) (sl : Sl) (σ : St) (H : Hp) (own : List Addr) : Prop where
  r : SlR P H sl σ own
  nd : own.Nodup
  tabs : LamX.Tabs P.T H
  io : ∀ p ∈ F.io, σ[p.1]? = some (some p.2)
  bas : Bas F.H0 own H
  xs : ∀ i c fs, getX i sl = some (.xc c fs) → ∃ dd, (i, dd) ∈ F.xs ∧ XRep P H c fs dd
theorem Sim.grow {P : RP} {F : FR} {sl : Sl} {σ : St} {H H' : Hp} {own : List Addr} (s : Sim P F sl σ H own) (g : Grow H H') : Sim P F sl σ H' own :=
  ⟨s.r.frame g.fix (g.at s.r.own), s.nd, s.tabs.ext g, s.io, s.bas.step g.step, fun i c fs e => by obtain ⟨dd, h1, h2⟩ := s.xs i c fs e; exact ⟨dd, h1, h2.fix g.fix⟩⟩
theorem getX_set {sl : Sl} {i j : Nat} {x : Option D} {c : Nat} {fs : List D} (e : getX j (sl.set i x) = some (.xc c fs)) : (i = j ∧ x = some (.xc c fs)) ∨ getX j sl = some (.xc c fs) := by
  unfold getX at e ⊢
  by_cases h : i = j
  · subst h
    by_cases h2 : i < sl.length
    · rw [List.getElem?_set_self h2] at e
      exact .inl ⟨rfl, e⟩
    · rw [List.getElem?_eq_none (by simpa using h2)] at e
      cases e
  · rw [List.getElem?_set_ne h] at e
    exact .inr e
theorem Rep.noxc {P : RP} {H : Hp} {c : Nat} {fs : List D} {v : V} {as : List Addr} (r : Rep P H (.xc c fs) v as) : False := nomatch r

/-- what stands at a peek, and what becomes of the slots where it is changed -/
def Foc (P : RP) (g : G) (b : Below) (c : E) (sl : Sl) (σ : St) (H : Hp) (own : List Addr) (v : V) (as : List Addr) : Prop :=
  ∃ pre post, own = pre ++ as ++ post ∧ ∀ (H2 : Hp) (d2 : D) (as2 : List Addr) (sl2 : Sl), FixIn H H2 → (∀ a ∈ pre ++ post, H2 a = H a) → Rep P H2 d2 v as2 → pkPut g b c d2 sl = some sl2 → SlR P H2 sl2 σ (pre ++ as2 ++ post)
/-- behind an expression -/
structure PostE (P : RP) (F : FR) (g : G) (b : Below) (e : E) (σ : St) (H : Hp) (own : List Addr) (sl : Sl) (d : D) (v : V) (sl' : Sl) (H' : Hp) (own' as : List Addr) : Prop where
  sim : Sim P F sl' σ H' own'
  rep : Rep P H' d v as
  step : Step own H H' own'
  fresh : e.pk = false → (as ++ own').Nodup ∧ ∀ a ∈ as, a ∈ own ∨ H a = none
  foc : e.pk = true → Foc P g b e sl' σ H' own' v as
  pos : ∀ i, e = .peek i → σ[i]? = some (some v)
  pure : e.pure = true → sl' = sl ∧ own' = own ∧ Ext H H'
structure PostX (P : RP) (F : FR) (σ : St) (H : Hp) (own : List Addr) (c : Nat) (fs : List D) (sl' : Sl) (H' : Hp) (own' : List Addr) (dd : Addr) : Prop where
  sim : Sim P F sl' σ H' own'
  step : Step own H H' own'
  x : XRep P H' c fs dd
/-- what is wanted of a run: behind it, of its exception -/
def Res (P : RP) (F : FR) (W : WX) (σ : St) (H : Hp) (own : List Addr) {α : Type} (m : R α) (A : α → Prop) : Prop := match m with
  | .ok p => A p
  | .exc c fs sl' => ∀ H' own' dd, PostX P F σ H own c fs sl' H' own' dd → W (.ref (P.cad c)) (some dd) σ H'
  | .bad => False
/-- the reading of an expression of Q -/
def tE (P : RP) (F : FR) (W : WX) (g : G) (b : Below) (e : E) : TE := fun σ H Q => ∃ sl own, Sim P F sl σ H own ∧ Res P F W σ H own (ev g b e sl) fun p => ∀ v H' own' as, PostE P F g b e σ H own sl p.1 v p.2 H' own' as → Q v H'
/-- behind a test -/
structure PostT (P : RP) (F : FR) (pur : Bool) (σ : St) (H : Hp) (own : List Addr) (sl sl' : Sl) (H' : Hp) (own' : List Addr) : Prop where
  sim : Sim P F sl' σ H' own'
  step : Step own H H' own'
  pure : pur = true → sl' = sl ∧ own' = own ∧ Ext H H'
/-- of a test -/
def tT (P : RP) (F : FR) (W : WX) (pur : Bool) (m : Sl → R (Bool × Sl)) : TT := fun σ H Q => ∃ sl own, Sim P F sl σ H own ∧ Res P F W σ H own (m sl) fun p => ∀ H' own', PostT P F pur σ H own sl p.2 H' own' → Q p.1 H'
section
variable {P : RP} {F : FR} {W : WX} {σ : St} {H H1 : Hp} {own own1 : List Addr} {α β : Type} {A B : α → Prop} {C : β → Prop}
theorem Res.bind {m : R α} {k : α → R β} (h : Res P F W σ H own (m.bind k) C) : Res P F W σ H own m fun p => Res P F W σ H own (k p) C := by
  cases m with
  | ok p => exact h
  | exc c fs sl => exact h
  | bad => exact h
theorem Res.mono {m : R α} (h : Res P F W σ H own m A) (k : ∀ p, m = .ok p → A p → B p) : Res P F W σ H own m B := by
  cases m with
  | ok p => exact k p rfl h
  | exc c fs sl => exact h
  | bad => exact h
theorem Res.of {o : Option α} (h : Res P F W σ H own (R.of o) A) : ∃ a, o = some a ∧ A a := by
  cases o with
  | none => exact h.elim
  | some a => exact ⟨a, rfl, h⟩
theorem Res.ofB {o : Option α} {k : α → R β} (h : Res P F W σ H own ((R.of o).bind k) C) : ∃ a, o = some a ∧ Res P F W σ H own (k a) C := Res.of h.bind
end
theorem _root_.L2.PE.weak {X : Cx} {e : Expr} {t t' : TE} (h : PE X e t) (k : ∀ σ H Q, t' σ H Q → t σ H Q) : PE X e t' := ⟨fun pins s σ H Q I q => h.run pins s σ H Q I (k σ H Q q)⟩
theorem _root_.L2.PT.weak {X : Cx} {e : Expr} {t t' : TT} (h : PT X e t) (k : ∀ σ H Q, t' σ H Q → t σ H Q) : PT X e t' := ⟨fun pins s σ H Q I q => h.run pins s σ H Q I (k σ H Q q)⟩
theorem _root_.L2.PA.weak {X : Cx} {e : List Expr} {t t' : TA} (h : PA X e t) (k : ∀ σ H Q, t' σ H Q → t σ H Q) : PA X e t' := ⟨fun pos pins s σ H Q I q => h.run pos pins s σ H Q I (k σ H Q q)⟩
theorem _root_.L2.PS.weak {X : Cx} {e : Stmt} {t t' : TS} (h : PS X e t) (k : ∀ D σ H, t' D σ H → t D σ H) : PS X e t' := ⟨fun pins s σ H D I q => h.run pins s σ H D I (k D σ H q)⟩
theorem _root_.L2.PSs.weak {X : Cx} {e : List Stmt} {t t' : TS} (h : PSs X e t) (k : ∀ D σ H, t' D σ H → t D σ H) : PSs X e t' := ⟨fun pins s σ H D I q => h.run pins s σ H D I (k D σ H q)⟩

/-! ### one operand behind another -/
section
variable {P : RP} {F : FR} {σ : St} {H H1 H2 H3 : Hp} {own own1 own2 : List Addr} {sl sl1 sl2 : Sl} {d1 d2 d : D} {v1 v2 v : V} {as1 as2 as : List Addr} {g : G} {b : Below} {e1 e2 e : E}
/-- a value made by an operation -/
structure NewV (P : RP) (H H' : Hp) (d : D) (v : V) (as : List Addr) : Prop where
  rep : Rep P H' d v as
  grow : Grow H H'
  new : ∀ a ∈ as, H a = none
  nd : as.Nodup
theorem NewV.same {H : Hp} (r : Rep P H d v []) : NewV P H H d v [] := ⟨r, Grow.refl, fun _ z => (nomatch z), List.nodup_nil⟩
/-- two operands -/
structure Two (P : RP) (F : FR) (pur : Bool) (σ : St) (H : Hp) (own : List Addr) (sl : Sl) (d1 : D) (v1 : V) (d2 : D) (v2 : V) (sl2 : Sl) (H2 : Hp) (own2 as1 as2 : List Addr) : Prop where
  sim : Sim P F sl2 σ H2 own2
  r1 : Rep P H2 d1 v1 as1
  r2 : Rep P H2 d2 v2 as2
  step : Step own H H2 own2
  pure : pur = true → sl2 = sl ∧ own2 = own ∧ Ext H H2
theorem two (a : PostE P F g b e1 σ H own sl d1 v1 sl1 H1 own1 as1) (b : PostE P F g b e2 σ H1 own1 sl1 d2 v2 sl2 H2 own2 as2) (k : ((!e1.pk && !e2.pk) || (e1.pure && e2.pure)) = true) :
    Two P F (e1.pure && e2.pure) σ H own sl d1 v1 d2 v2 sl2 H2 own2 as1 as2 := by
  refine ⟨b.sim, ?_, b.rep, a.step.trans b.step, fun z => ?_⟩
  · refine a.rep.frame (b.step.fix a.sim.r.own) ?_
    cases z : e1.pure && e2.pure with
    | true =>
      obtain ⟨z1, z2⟩ := Bool.and_eq_true_iff.mp z
      exact (b.pure z2).2.2.at a.rep.own
    | false =>
      rw [z, Bool.or_false, Bool.and_eq_true_iff] at k
      obtain ⟨nd, _⟩ := a.fresh (by simpa using k.1)
      exact b.step.at a.rep.own fun x hx hy => (List.nodup_append.mp nd).2.2 x hx x hy rfl
  · obtain ⟨z1, z2⟩ := Bool.and_eq_true_iff.mp z
    obtain ⟨a1, a2, a3⟩ := a.pure z1
    obtain ⟨b1, b2, b3⟩ := b.pure z2
    exact ⟨b1.trans a1, b2.trans a2, a3.trans b3⟩
/-- the end of an operation -/
theorem fin (hp : e.pk = false) (s : Sim P F sl2 σ H2 own2) (st : Step own H H2 own2) (pu : e.pure = true → sl2 = sl ∧ own2 = own ∧ Ext H H2) (n : NewV P H2 H3 d v as) :
    PostE P F g b e σ H own sl d v sl2 H3 own2 as := by
  have st3 : Step own H H3 own2 := st.trans n.grow.step
  refine ⟨s.grow n.grow, n.rep, st3, fun _ => ⟨?_, fun a z => ?_⟩, fun z => (by rw [hp] at z; cases z), fun i z => (by rw [z] at hp; cases hp), fun z => ?_⟩
  · refine List.nodup_append.mpr ⟨n.nd, s.nd, fun x hx y hy e => ?_⟩
    subst e
    obtain ⟨o, ho, _⟩ := s.r.own x hy
    rw [n.new x hx] at ho; cases ho
  · have st' : Step own H H2 (a :: own2) := ⟨st.keep, st.tbl, fun b zb => by
      rcases List.mem_cons.mp zb with rfl | zb
      · cases h : H b with
        | none => exact .inr rfl
        | some o =>
          refine .inl (Classical.byContradiction fun nn => ?_)
          cases t : isTbl o with
          | false => have := st.keep b o h nn t; rw [n.new b z] at this; cases this
          | true =>
            cases o <;> simp [isTbl] at t
            obtain ⟨ps1, h1⟩ := st.tbl b _ h
            rw [n.new b z] at h1; cases h1
      · exact st.new b zb⟩
    exact st'.new a List.mem_cons_self
  · obtain ⟨z1, z2, z3⟩ := pu z
    exact ⟨z1, z2, z3.trans n.grow.ext⟩
/-- an exception of the second -/
theorem PostX.after {c : Nat} {fs : List D} {sl' : Sl} {H' : Hp} {own' : List Addr} {dd : Addr} (st : Step own H H1 own1) (x : PostX P F σ H1 own1 c fs sl' H' own' dd) : PostX P F σ H own c fs sl' H' own' dd := ⟨x.sim, st.trans x.step, x.x⟩
theorem Res.after {W : WX} {α : Type} {m : R α} {A : α → Prop} (st : Step own H H1 own1) (h : Res P F W σ H own m A) : Res P F W σ H1 own1 m A := by
  cases m with
  | ok p => exact h
  | exc c fs sl => exact fun H' own' dd x => h H' own' dd (x.after st)
  | bad => exact h
end
end Q

set_option Elab.async false
set_option linter.all false
set_option maxRecDepth 100000
set_option maxHeartbeats 4000000
/-! W4: operations on sequences that the hand layer has for some only. -/
namespace Q
open Snd
open PySem PySem.Spec PyProof.Rows L2

section
variable {X : Cx}
/-- list + list, whoever holds them -/
def rCatS (K : PySem.W.Frag) : R2 := fun x y H Q => ∃ a b xs ys, x = .ref a ∧ y = .ref b ∧ SqL K H a xs ∧ SqL K H b ys ∧ xs.length + ys.length ≤ sizeLine ∧ ∀ p, H p = none → Q (.ref p) (upd H p (.lst (xs ++ ys)))
theorem op_catS : OpR X (binaryOp .Add) (rCatS X.K) := by
  intro pins s σ H x y v u Q I rx ry h
  obtain ⟨a, b, xs, ys, rfl, rfl, ha, hb, hz, q⟩ := h
  cases rx
  cases ry
  obtain ⟨is1, r1, ⟨⟨c1, dd1, da1, sl1⟩, n1, o1, hc1, _, hd1⟩, _⟩ := I.list ha
  obtain ⟨is2, r2, ⟨⟨c2, dd2, da2, sl2⟩, n2, o2, hc2, _, hd2⟩, _⟩ := I.list hb
  simp only at hc1 hd1 hc2 hd2
  subst hc1 hd1 hc2 hd2
  have l1 := r1.length
  have l2 := r2.length
  refine concat_meets ⟨_, o1, rfl⟩ ⟨_, o2, rfl⟩ noFill_list_add seq_list_add PySem.F.slot_list_add PySem.F.entry_list_add (PySem.F.args_list_add_2 _ _)
    (list_addW a b is1.toArray is2.toArray n1 n2 dd1 dd2 sl1 sl2 (by simp only [List.size_toArray]; omega)) ⟨o1, o2, ?_⟩
  have e : is1.toArray ++ is2.toArray = (is1 ++ is2).toArray := by simp
  rw [e]
  exact ⟨.ref _, _, I.lnew (t' := s.toks) (r1.append r2) (by rw [List.length_append]; omega), rfl, q _ I.fresh⟩

/-! tuple * int, every number -/
theorem tmul_same (l : Addr) (items : Array Value) (n : Nat) (dd : Option Addr) (sl : Array (Option Value)) (x : Int) (u : Tok) (c0 : (decide (x < -(2 ^ 63)) || decide (x ≥ 2 ^ 63)) = false) (c1 : (items.isEmpty || x == 1) = true) :
    Meets (Builtin.«tuple.__mul__» ⟨[.ref l, .int x u], []⟩) (fun _ R s => s.heap.get? l = some { cls := .type "tuple", dict := dd, data := .seq items n, slots := sl } ∧ R (.ok (.ret (Value.ref l))) s) :=
  .of_wp fun prog w A R s h => by
    obtain ⟨hp, g, d, tk, os⟩ := s
    obtain ⟨hl, h⟩ := h
    have f1 := AutoSeq1.idx_int
    wp_walk using wpAny_loadPart' hl
    repeat (first
      | (refine wpAny_ite_false (decide_eq_false (by rw [c0]; exact Bool.false_ne_true)) ?_; wp_walk using wpAny_loadPart' hl)
      | (refine wpAny_ite_true (decide_eq_true c1) ?_; wp_walk using wpAny_loadPart' hl))
    exact ⟨_, rfl, h⟩
theorem tmul_none (l : Addr) (items : Array Value) (n : Nat) (dd : Option Addr) (sl : Array (Option Value)) (x : Int) (u : Tok) (c0 : (decide (x < -(2 ^ 63)) || decide (x ≥ 2 ^ 63)) = false) (c1 : (items.isEmpty || x == 1) = false) (c2 : (decide (x ≤ 0) || items.isEmpty) = true) :
    Meets (Builtin.«tuple.__mul__» ⟨[.ref l, .int x u], []⟩) (fun _ R s => s.heap.get? l = some { cls := .type "tuple", dict := dd, data := .seq items n, slots := sl } ∧
      R (.ok (.ret (Value.ref s.heap.objs.size))) { s with heap := s.heap.push { cls := Value.type "tuple", data := Data.seq #[] }, toks := s.toks }) :=
  .of_wp fun prog w A R s h => by
    obtain ⟨hp, g, d, tk, os⟩ := s
    obtain ⟨hl, h⟩ := h
    have f1 := AutoSeq1.idx_int
    wp_walk using wpAny_loadPart' hl
    repeat (first
      | (refine wpAny_ite_false (decide_eq_false (by rw [c0]; exact Bool.false_ne_true)) ?_; wp_walk using wpAny_loadPart' hl)
      | (refine wpAny_ite_false (decide_eq_false (by rw [c1]; exact Bool.false_ne_true)) ?_; wp_walk using wpAny_loadPart' hl)
      | (refine wpAny_ite_true (decide_eq_true c2) ?_; wp_walk using wpAny_loadPart' hl))
    exact ⟨_, rfl, h⟩

def rRepA (K : PySem.W.Frag) : R2 := fun x y H Q => ∃ l k xs, x = .ref l ∧ y = .int k ∧ SqT K H l xs ∧ -(2 ^ 63) ≤ k ∧ k < 2 ^ 63 ∧ xs.length * k.toNat ≤ sizeLine ∧
  ((xs = [] ∨ k = 1) → Q (.ref l) H) ∧ (xs ≠ [] → k ≠ 1 → ∀ p, H p = none → Q (.ref p) (upd H p (.tup (List.replicate k.toNat xs).flatten)))
theorem op_repA : OpR X (binaryOp .Mult) (rRepA X.K) := by
  intro pins s σ H x y v u Q I rx ry h
  obtain ⟨l, k, xs, rfl, rfl, hT, h1, h2, hz, q1, q2⟩ := h
  cases rx
  obtain ⟨t, rfl⟩ := ry
  obtain ⟨its, r, ⟨⟨cls, dd, data, sl⟩, ho, hc, n, hd⟩, hs⟩ := I.tuple hT
  simp only at hc hd
  subst hc hd
  have hle : its.length = xs.length := r.length.symm
  have ok0 : (decide (k < -(2 ^ 63)) || decide (k ≥ 2 ^ 63)) = false := by
    rw [decide_eq_false (by omega : ¬ k < -(2 ^ 63)), decide_eq_false (by omega : ¬ k ≥ 2 ^ 63)]; rfl
  by_cases hsame : xs = [] ∨ k = 1
  · have ok1 : (its.toArray.isEmpty || k == 1) = true := by
      rcases hsame with e | e
      · subst e
        have : its = [] := List.eq_nil_of_length_eq_zero hle
        subst this; rfl
      · subst e; simp
    refine wpAny_binaryOp_repeat_ref (T := "tuple") (U := "int") (by decide) ⟨_, ho, rfl⟩ (fun s' => typeIs_int s' k t) noFill_tuple_mul F.fills_int_mul F.slot_int_rmul repeat_tuple F.slot_int_index.lookup
      (call_meets F.slot_int_rmul (typeIs_int s k t) F.entry_int_rmul (F.args_int_rmul_2 _ _) (int_rmul_tuple k t l its.toArray n dd sl)
        ⟨ho, rfl, ⟨_, ho, rfl⟩, call_meets F.slot_tuple_mul ⟨_, ho, rfl⟩ F.entry_tuple_mul (F.args_tuple_mul_2 _ _) (tmul_same l its.toArray n dd sl k t ok0 ok1) ⟨ho, ?_⟩⟩)
    exact ⟨.ref l, H, I, rfl, q1 hsame⟩
  · have hne : xs ≠ [] := fun e => hsame (.inl e)
    have hk1 : k ≠ 1 := fun e => hsame (.inr e)
    have hi : its.toArray.isEmpty = false := by
      cases its with
      | nil => exact absurd (List.eq_nil_of_length_eq_zero hle.symm) hne
      | cons a b => rfl
    have ok1 : (its.toArray.isEmpty || k == 1) = false := by
      rw [hi, Bool.false_or]
      exact beq_eq_false_iff_ne.mpr hk1
    by_cases hk0 : k ≤ 0
    · have ok2 : (decide (k ≤ 0) || its.toArray.isEmpty) = true := by rw [decide_eq_true hk0]; rfl
      refine wpAny_binaryOp_repeat_ref (T := "tuple") (U := "int") (by decide) ⟨_, ho, rfl⟩ (fun s' => typeIs_int s' k t) noFill_tuple_mul F.fills_int_mul F.slot_int_rmul repeat_tuple F.slot_int_index.lookup
        (call_meets F.slot_int_rmul (typeIs_int s k t) F.entry_int_rmul (F.args_int_rmul_2 _ _) (int_rmul_tuple k t l its.toArray n dd sl)
          ⟨ho, rfl, ⟨_, ho, rfl⟩, call_meets F.slot_tuple_mul ⟨_, ho, rfl⟩ F.entry_tuple_mul (F.args_tuple_mul_2 _ _) (tmul_none l its.toArray n dd sl k t ok0 ok1 ok2) ⟨ho, ?_⟩⟩)
      have h0 : k.toNat = 0 := by omega
      have q3 := q2 hne hk1
      rw [h0] at q3
      refine ⟨.ref s.heap.objs.size, _, I.laid (t' := s.toks) (o := .tup []) (fun b ob q => Heap.get?_push_of_some _ q) (Nat.le_refl _) ?_, rfl, q3 _ (I.hok.fresh (Nat.le_refl _))⟩
      exact ⟨Nat.zero_le _, [], .nil, IsTup.new _ _⟩
    · have ok2 : (decide (k ≤ 0) || its.toArray.isEmpty) = false := by rw [decide_eq_false hk0, hi]; rfl
      have hn0 : its.toArray.size = xs.length := by rw [List.size_toArray, hle]
      have hm : ((its.toArray.size : Nat) : Int) * k ≤ (sizeLine : Int) := by
        rw [hn0]
        have e : k = ((k.toNat : Nat) : Int) := by omega
        rw [e, ← Int.natCast_mul]
        exact Int.ofNat_le.mpr hz
      have big : (sizeLine : Int) ≤ (2 ^ 63 - 1) / 8 := by rw [sizeLine_eq]; decide
      have ok4 : Builtin.Tuple.tupleTooMany (((its.toArray.size : Nat) : Int) * k) = false := decide_eq_false (by omega)
      have flen : (List.replicate k.toNat its).flatten.length ≤ sizeLine := by
        rw [PyProof.Rows.lm_len_rep_flat, hle, Nat.mul_comm]
        exact hz
      refine wpAny_binaryOp_repeat_ref (T := "tuple") (U := "int") (by decide) ⟨_, ho, rfl⟩ (fun s' => typeIs_int s' k t) noFill_tuple_mul F.fills_int_mul F.slot_int_rmul repeat_tuple F.slot_int_index.lookup
        (call_meets F.slot_int_rmul (typeIs_int s k t) F.entry_int_rmul (F.args_int_rmul_2 _ _) (int_rmul_tuple k t l its.toArray n dd sl)
          ⟨ho, rfl, ⟨_, ho, rfl⟩, call_meets F.slot_tuple_mul ⟨_, ho, rfl⟩ F.entry_tuple_mul (F.args_tuple_mul_2 _ _) (tuple_mulW l its.toArray n dd sl k t ok0 ok1 ok2 (by omega) ok4 (by rw [size_rep, List.size_toArray]; exact flen)) ⟨ho, ?_⟩⟩)
      rw [size_rep]
      refine ⟨.ref s.heap.objs.size, _, I.laid (t' := s.toks) (o := .tup (List.replicate k.toNat xs).flatten) (fun b ob q => Heap.get?_push_of_some _ q) (Nat.le_refl _) ?_, rfl, q2 hne hk1 _ (I.hok.fresh (Nat.le_refl _))⟩
      exact ⟨by rw [PyProof.Rows.lm_len_rep_flat, Nat.mul_comm]; exact hz, _, r.rep k.toNat, IsTup.new _ _⟩
end

/-! xs[::-1] -/
theorem fmC {α β : Type} {f g : α → Option β} : ∀ {l : List α}, (∀ x ∈ l, f x = g x) → l.filterMap f = l.filterMap g
  | [], _ => rfl
  | x :: t, h => by rw [List.filterMap_cons, List.filterMap_cons, h x List.mem_cons_self, fmC fun y hy => h y (List.mem_cons_of_mem _ hy)]
theorem fromBack : ∀ (l : List Value), (List.range l.length).filterMap (fun k => l.reverse[l.length - 1 - k]?) = l
  | [] => rfl
  | x :: t => by
    have ih := fromBack t
    rw [List.length_cons, List.range_succ_eq_map, List.filterMap_cons]
    have e0 : (x :: t).reverse[t.length + 1 - 1 - 0]? = some x := by
      rw [List.reverse_cons, List.getElem?_append_right (by simp)]
      simp
    rw [e0]
    simp only
    rw [List.filterMap_map]
    congr 1
    conv => rhs; rw [← ih]
    refine fmC ?_
    intro k hk
    have hk := List.mem_range.mp hk
    simp only [Function.comp]
    rw [List.reverse_cons, List.getElem?_append_left (by simp; omega)]
    congr 1
    omega
theorem pickRev (its : List Value) : slicePick its.toArray none none (some (-1)) = its.reverse.toArray := by
  have hb : sliceBounds none none (some (-1)) its.toArray.size = ((its.length : Int) - 1, -1, -1) := by
    simp [sliceBounds]
  unfold slicePick
  rw [hb]
  have hr : sliceRange ((its.length : Int) - 1) (-1) (-1) = (List.range its.length).map fun k => its.length - 1 - k := by
    have hc : (if ((its.length : Int) - 1 > (-1 : Int)) then ((its.length : Int) - 1 - (-1) - (-1) - 1) / (-(-1)) else 0).toNat = its.length := by
      by_cases h : (its.length : Int) - 1 > -1
      · rw [if_pos h, Int.neg_neg, Int.ediv_one]; omega
      · rw [if_neg h]; omega
    unfold sliceRange
    rw [if_neg (by omega : ¬ ((-1 : Int) > 0))]
    simp only [hc]
    apply List.map_congr_left
    intro k hk
    have := List.mem_range.mp hk
    omega
  simp only [hr]
  congr 1
  rw [List.filterMap_map]
  have := fromBack its.reverse
  rw [List.length_reverse, List.reverse_reverse] at this
  rw [← this]
  refine fmC ?_
  intro k hk
  simp [Function.comp]
section
variable {prog : Program} {w : World} {A : Around} {E : Value → Shared → Prop} {s : Shared}
theorem applied_back {sl : Addr} {t : Tok} {n : Nat} {Q : Int × Int × Nat → Shared → Prop} (hs : s.heap.IsSliceOf sl .none .none (.int (-1) t))
    (h : Q ((n : Int) - 1, -1, n) s) : wpAny (model prog w) A (Builtin.Slice.sliceApplied (.ref sl) (pure (n : Int))) Q E s := by
  obtain ⟨os, hos, hcs, hds⟩ := id hs
  unfold Builtin.Slice.sliceApplied Builtin.Slice.sliceFields
  refine wpAny_bind (wpAny_bind (wpAny_field hos hds (x := .none) rfl (wpAny_bind (wpAny_field hos hds (x := .none) rfl (wpAny_bind (wpAny_field hos hds (x := .int (-1) t) rfl (wpAny_pure ?_)))))))
  refine wpAny_bind (HT.slicePart_ (.int (-1) t) ?_)
  show wpAny _ _ (if ((-1 : Int) == 0) = true then _ else _) _ _ s
  rw [if_neg (by decide)]
  refine wpAny_bind (HT.slicePart_ .none (wpAny_bind (HT.slicePart_ .none (wpAny_bind (wpAny_pure ?_)))))
  show wpAny _ _ (match Builtin.Slice.sliceAdjust none none (-1) (n : Int) with | (lo, hi) => pure (lo, (-1 : Int), Builtin.Slice.slicePlaces lo hi (-1))) _ _ s
  have e1 : Builtin.Slice.sliceAdjust none none (-1) (n : Int) = ((n : Int) - 1, -1) := by
    unfold Builtin.Slice.sliceAdjust
    simp
  have e2 : Builtin.Slice.slicePlaces ((n : Int) - 1) (-1) (-1) = n := by
    unfold Builtin.Slice.slicePlaces
    rw [if_neg (by omega : ¬ ((-1 : Int) > 0))]
    by_cases h : (n : Int) - 1 > -1
    · rw [if_pos h, Int.neg_neg, Int.ediv_one]; omega
    · rw [if_neg h]; omega
  rw [e1]
  show wpAny _ _ (pure ((n : Int) - 1, (-1 : Int), Builtin.Slice.slicePlaces ((n : Int) - 1) (-1) (-1))) _ _ s
  rw [e2]
  exact wpAny_pure h
theorem pickBack (its : List Value) : ((List.range its.length).filterMap fun (m : Nat) => its.toArray[(((its.length : Int) - 1) + (m : Int) * (-1)).toNat]?) = its.reverse := by
  have := fromBack its.reverse
  rw [List.length_reverse, List.reverse_reverse] at this
  rw [← this]
  refine fmC ?_
  intro k hk
  have hk := List.mem_range.mp hk
  have e : (((its.length : Int) - 1) + (k : Int) * (-1)).toNat = its.length - 1 - k := by omega
  rw [e]
  simp
theorem getItem_tuple_back {t sl : Addr} {its : List Value} {u : Tok} {Q : Value → Shared → Prop} (ht : IsTup s.heap t its.toArray) (hs : s.heap.IsSliceOf sl .none .none (.int (-1) u))
    (h : Q (.ref s.heap.objs.size) { s with heap := s.heap.push { cls := .type "tuple", data := .seq its.reverse.toArray } })
    (hsz : its.length ≤ sizeLine) : wpAny (model prog w) A (getItem (.ref t) (.ref sl)) Q E s := by
  have fits : sizeOk (.seq its.reverse.toArray) := by
    show its.reverse.toArray.size ≤ sizeLine
    rw [List.size_toArray, List.length_reverse]
    exact hsz
  obtain ⟨os, hos, hcs, hds⟩ := id hs
  have hTs : s.TypeIs (.ref sl) "slice" := ⟨os, hos, hcs⟩
  unfold getItem
  try with_reducible refine wpAny_holding ?_
  first | refine wpAny_bind (wpAny_pure ?_) | skip
  refine wpAny_bind (wpAny_sequenceKey ht.typeIs (by decide) ?_)
  refine wpAny_bind (wpAny_callSpecial?_slot (name := Str.ofString "__getitem__") ht.typeIs PyProof.Rows.slot_tuple_getitem
    (wpAny_call_entry PyProof.Rows.slot_tuple_getitem ht.typeIs entry_tuple_getitem ?_ (args_tuple_getitem _ _)))
  show wpAny _ _ (Builtin.Tuple.tupleItemsOf (.ref t) >>= _) _ _ s
  refine wpAny_bind (tupleItemsOf_ ht ?_)
  refine wpAny_bind (wpAny_typeOf hTs ?_)
  rw [if_pos (by decide)]
  have hsize : its.toArray.size = its.length := List.size_toArray
  rw [hsize]
  refine wpAny_bind (applied_back hs ?_)
  have hno : ¬ ((((its.length : Int) - 1) == 0 && (-1 : Int) == 1 && its.length == its.length) = true) := by simp
  show wpAny _ _ (if (((its.length : Int) - 1) == 0 && (-1 : Int) == 1 && its.length == its.length) = true then _ else _) _ _ s
  rw [if_neg hno, pickBack]
  first
    | exact wpAny_bind (m := Builtin.Tuple.tupleExact _) (wpAny_newObj_type (wpAny_pure ⟨_, rfl, wpAny_pure h⟩) fits)
    | exact wpAny_bind (m := Builtin.Tuple.tupleExact _) (wpAny_newObj_type (wpAny_bind (wpAny_pure (wpAny_pure ⟨_, rfl, wpAny_pure h⟩))) fits)
    | exact wpAny_bind (wpAny_bind (m := Builtin.Tuple.tupleExact _) (wpAny_newObj_type (wpAny_pure (wpAny_pure ⟨_, rfl, wpAny_pure h⟩)) fits))
    | exact wpAny_bind (wpAny_bind (m := Builtin.Tuple.tupleExact _) (wpAny_newObj_type (wpAny_pure ⟨_, rfl, wpAny_pure h⟩) fits))
end
section
variable {X : Cx} {e k : Expr} {te : TE} {p p1 p2 pos : Pos} {j : Nat}
def rRevA (K : PySem.W.Frag) : V → Hp → VK → Prop := fun x H Q => ∃ a xs, x = .ref a ∧ ((SqT K H a xs ∧ ∀ q, H q = none → Q (.ref q) (upd H q (.tup xs.reverse))) ∨ (SqL K H a xs ∧ ∀ q, H q = none → Q (.ref q) (upd H q (.lst xs.reverse))))
theorem pe_revS (he : PE X e te) : PE X (.Subscript e (.Slice none none (some (.UnaryOp .USub (.Constant (.int 1) j p) p1)) p2) pos) (tUn (rRevA X.K) te) := by
  refine ⟨fun pins s σ H Q I h => ?_⟩
  refine Subscript_ (thn (he.run pins s σ H _ I h) fun v s1 ⟨x, H1, I1, r1, q1⟩ => ?_)
  obtain ⟨a, xs, rfl, q1⟩ := q1
  cases r1
  have hk : PE X (.UnaryOp .USub (.Constant (.int 1) j p) p1) (tUn (rU fun i => .int (-i)) (tC (.int 1))) := pe_un un_neg pe_int
  refine wpAny_Slice ?_
  rw [evalPart_none]
  refine wpAny_pure (wpAny_pure ?_)
  rw [evalPart_some]
  refine thn (hk.run pins s1 σ H1 (fun v H' => v = .int (-1) ∧ H' = H1) I1 ⟨1, rfl, rfl, rfl⟩) fun u s2 ⟨y, H2, I2, r2, e1, e2⟩ => ?_
  subst e1 e2
  obtain ⟨t, rfl⟩ := r2
  have I3 : Inv X pins σ H2 { s2 with heap := s2.heap.push { cls := .type "slice", data := .fields #[.none, .none, .int (-1) t] } } := I2.kept (t' := s2.toks) fun b ob q => Heap.get?_push_of_some _ q
  rcases q1 with ⟨hx, q⟩ | ⟨hx, q⟩
  · obtain ⟨its, r, ht, hz⟩ := I3.tuple hx
    refine tail_any (ops := [.ref a, .ref s2.heap.objs.size]) ht.typeIs PyProof.Rows.slot_tuple_getitem.lookup (getItem_tuple_back (u := t) ht (Heap.IsSliceOf.new ..) ?_ (by rw [← r.length]; exact hz)) (by with_unfolding_all rfl)
    refine ⟨.ref _, _, I3.laid (t' := s2.toks) (o := .tup xs.reverse) (fun b ob q => Heap.get?_push_of_some _ q) (Nat.le_refl _) ?_, rfl, q _ (I3.hok.fresh (Nat.le_refl _))⟩
    exact ⟨by rw [List.length_reverse]; exact hz, _, r.reverse, IsTup.new _ _⟩
  · obtain ⟨its, r, ht, hz⟩ := I3.list hx
    have hlen := r.length
    refine tail_any (ops := [.ref a, .ref s2.heap.objs.size]) ht.isList.typeIs slot_list_getitem.lookup (wpAny_getItem_list_slice ht.isList (Heap.IsSliceOf.new ..) .none .none (.int (-1) t) (by simp) ?_ (by rw [List.size_toArray]; omega)) (by with_unfolding_all rfl)
    rw [pickRev]
    refine ⟨.ref _, _, I3.laid (t' := s2.toks) (o := .lst xs.reverse) (fun b ob q => Heap.get?_push_of_some _ q) (Nat.le_refl _) ?_, rfl, q _ (I3.hok.fresh (Nat.le_refl _))⟩
    exact ⟨by rw [List.length_reverse]; exact hz, its.reverse, 0, r.reverse, Heap.get?_push_size _ rfl⟩
end
end Q

set_option Elab.async false
set_option linter.all false
set_option maxRecDepth 100000
/-! W5: the operations on data, by values. -/
namespace Q
open Snd
open PySem PySem.Spec PyProof.Rows L2

section
variable {P : RP} {H H' : Hp}
theorem Reps.append {ds es : List D} : ∀ {vs us : List V} {as bs : List Addr}, Reps P H ds vs as → Reps P H es us bs → Reps P H (ds ++ es) (vs ++ us) (as ++ bs) := by
  induction ds with
  | nil => intro vs us as bs a b; cases a; exact b
  | cons d ds ih =>
    intro vs us as bs a b
    cases a with
    | cons h r => rw [List.append_assoc]; exact .cons h (ih r b)
theorem Reps.fapp {ds es : List D} {vs us : List V} (a : Reps P H ds vs []) (b : Reps P H es us []) : Reps P H (ds ++ es) (vs ++ us) [] := a.append b
theorem Reps.fcons {d : D} {ds : List D} {v : V} {vs : List V} (a : Rep P H d v []) (b : Reps P H ds vs []) : Reps P H (d :: ds) (v :: vs) [] := .cons a b
/-- the items of a frozen lot, one by one -/
theorem Reps.uncons {d : D} {ds : List D} {vs : List V} (h : Reps P H (d :: ds) vs []) : ∃ v us, vs = v :: us ∧ Rep P H d v [] ∧ Reps P H ds us [] := by
  generalize e : ([] : List Addr) = as at h
  cases h with
  | @cons _ _ v us a b h r =>
    obtain ⟨e1, e2⟩ := List.append_eq_nil_iff.mp e.symm
    subst e1 e2
    exact ⟨v, us, rfl, h, r⟩
theorem Reps.rep {ds : List D} {vs : List V} (h : Reps P H ds vs []) : ∀ n, Reps P H (List.replicate n ds).flatten (List.replicate n vs).flatten []
  | 0 => .nil
  | n + 1 => by
    rw [List.replicate_succ, List.replicate_succ, List.flatten_cons, List.flatten_cons]
    exact h.fapp (Reps.rep h n)
theorem Reps.drop : ∀ (n : Nat) {ds : List D} {vs : List V}, Reps P H ds vs [] → Reps P H (ds.drop n) (vs.drop n) []
  | 0, _, _, h => h
  | n + 1, [], _, h => by cases h; exact .nil
  | n + 1, d :: ds, vs, h => by
    obtain ⟨v, us, rfl, _, r⟩ := h.uncons
    exact Reps.drop n r
theorem Reps.take : ∀ (n : Nat) {ds : List D} {vs : List V}, Reps P H ds vs [] → Reps P H (ds.take n) (vs.take n) []
  | 0, _, _, h => by simpa using Reps.nil
  | n + 1, [], _, h => by cases h; exact .nil
  | n + 1, d :: ds, vs, h => by
    obtain ⟨v, us, rfl, h1, r⟩ := h.uncons
    exact .fcons h1 (Reps.take n r)
theorem Reps.rev : ∀ {ds : List D} {vs : List V}, Reps P H ds vs [] → Reps P H ds.reverse vs.reverse []
  | [], _, h => by cases h; exact .nil
  | d :: ds, vs, h => by
    obtain ⟨v, us, rfl, h1, r⟩ := h.uncons
    rw [List.reverse_cons, List.reverse_cons]
    exact (Reps.rev r).fapp (.fcons h1 .nil)
theorem Reps.cut {ds : List D} {vs : List V} (h : Reps P H ds vs []) (lo hi : Option Int) : Reps P H (cutD ds lo hi) (cutV vs lo hi) [] := by
  unfold cutD cutV
  rw [h.length]
  exact (h.drop _).take _
/-- the item of a lot -/
theorem Reps.get {ds : List D} : ∀ {vs : List V} {as : List Addr} {i : Nat} {d : D}, Reps P H ds vs as → ds[i]? = some d → ∃ v bs, vs[i]? = some v ∧ Rep P H d v bs ∧ (∀ a ∈ bs, a ∈ as) := by
  induction ds with
  | nil => intro vs as i d h e; simp at e
  | cons x ds ih =>
    intro vs as i d h e
    cases h with
    | cons h r =>
      cases i with
      | zero =>
        have e : x = d := by simpa using e
        subst e
        exact ⟨_, _, rfl, h, fun a z => List.mem_append_left _ z⟩
      | succ i =>
        obtain ⟨v, bs, h1, h2, h3⟩ := ih (i := i) (d := d) r (by simpa using e)
        exact ⟨v, bs, by simpa using h1, h2, fun a z => List.mem_append_right _ (h3 a z)⟩
theorem atI_len {α β : Type} {xs : List α} {ys : List β} (h : xs.length = ys.length) {i : Int} {x : α} (e : atI xs i = some x) : ∃ j : Nat, xs[j]? = some x ∧ ∀ y, ys[j]? = some y → atI ys i = some y := by
  unfold atI at e
  cases n : ixN xs.length i with
  | none => rw [n] at e; cases e
  | some j =>
    rw [n] at e
    refine ⟨j, e, fun y hy => ?_⟩
    unfold atI
    rw [← h, n]
    exact hy
theorem Reps.at {ds : List D} {vs : List V} {as : List Addr} {i : Int} {d : D} (h : Reps P H ds vs as) (e : atI ds i = some d) : ∃ v bs, atI vs i = some v ∧ Rep P H d v bs ∧ (∀ a ∈ bs, a ∈ as) := by
  obtain ⟨j, h1, h2⟩ := atI_len h.length e
  obtain ⟨v, bs, g1, g2, g3⟩ := h.get h1
  exact ⟨v, bs, h2 v g1, g2, g3⟩
/-- as the hand layer's sequences -/
theorem Rep.sqT {ds : List D} {v : V} {as : List Addr} (h : Rep P H (.tup ds) v as) : ∃ a xs, v = .ref a ∧ SqT P.K H a xs ∧ Reps P H ds xs as := by
  cases h with
  | tup h r => exact ⟨_, _, rfl, h, r⟩
theorem Rep.sqL {m : Bool} {ds : List D} {v : V} {as : List Addr} (h : Rep P H (.lst m ds) v as) : ∃ a xs bs, v = .ref a ∧ SqL P.K H a xs ∧ Reps P H ds xs bs ∧ ∀ b ∈ bs, b ∈ as := by
  cases h with
  | lstF h r => exact ⟨_, _, _, rfl, h.l, r, fun _ z => z⟩
  | lstO h r => exact ⟨_, _, _, rfl, .of h, r, fun _ z => List.mem_cons_of_mem _ z⟩
theorem Rep.lstO' {ds : List D} {v : V} {as : List Addr} (h : Rep P H (.lst true ds) v as) : ∃ a xs bs, v = .ref a ∧ H a = some (.lst xs) ∧ Reps P H ds xs bs ∧ as = a :: bs := by
  cases h with
  | lstO h r => exact ⟨_, _, _, rfl, h, r, rfl⟩
mutual
theorem Rep.dp : ∀ {d : D} {v : V} {as : List Addr} {p : PyData}, Rep P H d v as → d.py = some p → Dp P.K H v p
  | _, _, _, _, .non, e => by cases e; exact .non
  | _, _, _, _, .bl b, e => by cases e; exact .bl b
  | _, _, _, _, .int i, e => by cases e; exact .int i
  | _, _, _, _, .str x, e => by cases e; exact .str x
  | _, _, _, p, @Rep.tup _ _ ds _ _ _ h r, e => by
    cases n : D.pys ds with
    | none => simp [D.py, n] at e
    | some ps =>
      have e : PyData.tuple ps = p := by simpa [D.py, n] using e
      subst e
      exact .tup h (Reps.dp r n)
  | _, _, _, p, @Rep.lstF _ _ ds _ _ h r, e => by
    cases n : D.pys ds with
    | none => simp [D.py, n] at e
    | some ps =>
      have e : PyData.list ps = p := by simpa [D.py, n] using e
      subst e
      exact .lst h.l (Reps.dp r n)
  | _, _, _, p, @Rep.lstO _ _ ds _ _ _ h r, e => by
    cases n : D.pys ds with
    | none => simp [D.py, n] at e
    | some ps =>
      have e : PyData.list ps = p := by simpa [D.py, n] using e
      subst e
      exact .lst (.of h) (Reps.dp r n)
  | _, _, _, _, .dicF .., e => nomatch e
  | _, _, _, _, .dicO .., e => nomatch e
theorem Reps.dp : ∀ {ds : List D} {vs : List V} {as : List Addr} {ps : List PyData}, Reps P H ds vs as → D.pys ds = some ps → DpAll P.K H vs ps
  | _, _, _, _, .nil, e => by cases e; exact .nil
  | _, _, _, ps, @Reps.cons _ _ d ds _ _ _ _ h r, e => by
    cases n : D.py d with
    | none => simp [D.pys, n] at e
    | some q =>
      cases m : D.pys ds with
      | none => simp [D.pys, n, m] at e
      | some qs =>
        have e : q :: qs = ps := by simpa [D.pys, n, m] using e
        subst e
        exact .cons (Rep.dp h n) (Reps.dp r m)
end
theorem empty_len {α β : Type} {xs : List α} {ys : List β} (h : xs.length = ys.length) : xs.isEmpty = ys.isEmpty := by
  cases xs <;> cases ys <;> simp at h ⊢
theorem Rep.tru {d : D} {v : V} {as : List Addr} {k : Bool} (h : Rep P H d v as) (e : truth d = some k) : TruV P.K v H k := by
  cases h with
  | non => cases e; rfl
  | bl b => cases e; rfl
  | int i => cases e; rfl
  | str x =>
    simp only [truth] at e
    split at e
    · rename_i hz
      cases e
      refine ⟨hz, ?_⟩
      cases x.length <;> simp
      omega
    · cases e
  | tup h r => cases e; exact .inr (.inl ⟨_, h, by rw [empty_len r.length]⟩)
  | lstF h r => cases e; exact .inl ⟨_, h.l, by rw [empty_len r.length]⟩
  | lstO h r => cases e; exact .inl ⟨_, .of h, by rw [empty_len r.length]⟩
  | dicF h hl nd r => cases e
  | @dicO ks ds a xs as h hl nd r =>
    cases e
    refine .inr (.inr ⟨_, h, ?_⟩)
    rw [empty_len (ys := ks.zip xs) (by rw [List.length_zip, hl, r.length]; omega)]
end

/-! ### two operands -/
def opA : BOp → Operator
  | .add => .Add
  | .sub => .Sub
  | .mul => .Mult
  | .fdiv => .FloorDiv
  | .mod => .Mod
  | .pow => .Pow
/-- what the end of an operation is told -/
def RQ (P : RP) (d : D) (H : Hp) (Q : VK) : Prop := ∀ v H' as, NewV P H H' d v as → Q v H'
def rBin (P : RP) (o : BOp) : R2 := fun x y H Q => ∃ d1 d2 as1 as2 d, Rep P H d1 x as1 ∧ Rep P H d2 y as2 ∧ bin o d1 d2 = some d ∧ RQ P d H Q
section
variable {P : RP} {X : Cx} {H H' : Hp} {Q : VK} {d : D}
theorem RQ.same (q : RQ P d H Q) {v : V} (r : Rep P H d v []) : Q v H := q v H [] (.same r)
theorem Reps.frameG {ds : List D} {vs : List V} (h : Reps P H ds vs []) (g : Grow H H') : Reps P H' ds vs [] := h.frame g.fix fun _ z => nomatch z
theorem Rep.frameG {d : D} {v : V} (h : Rep P H d v []) (g : Grow H H') : Rep P H' d v [] := h.frame g.fix fun _ z => nomatch z
/-- a new list | a new tuple -/
theorem NewV.lst {ds : List D} {vs : List V} {p : Addr} (hp : H p = none) (r : Reps P H ds vs []) : NewV P H (upd H p (.lst vs)) (.lst true ds) (.ref p) [p] :=
  ⟨.lstO upd_same (r.frameG (.upd hp)), .upd hp, fun a z => by rw [List.mem_singleton.mp z]; exact hp, by simp⟩
theorem NewV.tup {ds : List D} {vs : List V} {p : Addr} (hp : H p = none) (r : Reps P H ds vs []) : NewV P H (upd H p (.tup vs)) (.tup ds) (.ref p) [] :=
  ⟨.tup (.of upd_same) (r.frameG (.upd hp)), .upd hp, fun _ z => (nomatch z), List.nodup_nil⟩
theorem RQ.lst {ds : List D} {vs : List V} (q : RQ P (.lst true ds) H Q) (r : Reps P H ds vs []) : ∀ p, H p = none → Q (.ref p) (upd H p (.lst vs)) := fun p hp => q _ _ _ (.lst hp r)
theorem RQ.tup {ds : List D} {vs : List V} (q : RQ P (.tup ds) H Q) (r : Reps P H ds vs []) : ∀ p, H p = none → Q (.ref p) (upd H p (.tup vs)) := fun p hp => q _ _ _ (.tup hp r)
theorem RQ.int {i : Int} (q : RQ P (.int i) H Q) : Q (.int i) H := q.same (.int i)
theorem RQ.bl {b : Bool} (q : RQ P (.bl b) H Q) : Q (.bl b) H := q.same (.bl b)
theorem OpR.imp {f : Value → Value → Sem Value} {r r' : R2} (h : OpR X f r) (k : ∀ x y H Q, r' x y H Q → r x y H Q) : OpR X f r' := fun pins s σ H x y v u Q I rx ry q => h pins s σ H x y v u Q I rx ry (k x y H Q q)
theorem Reps.nil_of {vs : List V} {as : List Addr} (h : Reps P H [] vs as) : vs = [] := by cases h; rfl
theorem ne_nil_of {α β : Type} {xs : List α} {ys : List β} (h : xs.length = ys.length) (n : ys ≠ []) : xs ≠ [] := fun e => n (List.eq_nil_of_length_eq_zero (by rw [← h, e]; rfl))
theorem bin_int {o : BOp} {i j : Int} {d : D} (e : bin o (.int i) (.int j) = some d) : match o with
    | .add => d = .int (i + j)
    | .sub => d = .int (i - j)
    | .mul => ((-(2 ^ 64) < i ∧ i < 2 ^ 64) ∨ (-(2 ^ 64) < j ∧ j < 2 ^ 64)) ∧ d = .int (i * j)
    | .fdiv => (j ≠ 0 ∧ j.natAbs < 1073741824) ∧ d = .int (i.fdiv j)
    | .mod => j ≠ 0 ∧ d = .int (i.fmod j)
    | .pow => (0 ≤ j ∧ j ≤ 1000000 ∧ i.natAbs < 2 ^ 64) ∧ d = .int (i ^ j.toNat) := by
  cases o <;> simp only [bin] at e
  · cases e; rfl
  · cases e; rfl
  all_goals
    split at e
    · rename_i h; cases e; first | exact ⟨h, rfl⟩ | exact ⟨by simpa using h, rfl⟩
    · cases e
theorem op_bin (hK : X.K = P.K) (o : BOp) : OpR X (binaryOp (opA o)) (rBin P o) := by
  intro pins s σ H x y v u Q I rx ry h
  obtain ⟨d1, d2, as1, as2, d, h1, h2, e, q⟩ := h
  cases d1 with
  | int i =>
    cases d2 with
    | int j =>
      cases h1; cases h2
      have b := bin_int e
      cases o with
      | add => cases b; exact op_add pins s σ H _ _ v u Q I rx ry ⟨i, j, rfl, rfl, q.int⟩
      | sub => cases b; exact op_sub pins s σ H _ _ v u Q I rx ry ⟨i, j, rfl, rfl, q.int⟩
      | mul => obtain ⟨c, rfl⟩ := b; exact op_mul pins s σ H _ _ v u Q I rx ry ⟨i, j, rfl, rfl, c, q.int⟩
      | fdiv => obtain ⟨c, rfl⟩ := b; exact op_fdivN pins s σ H _ _ v u Q I rx ry ⟨i, j, rfl, rfl, c, q.int⟩
      | mod => obtain ⟨c, rfl⟩ := b; exact op_modN pins s σ H _ _ v u Q I rx ry ⟨i, j, rfl, rfl, c, q.int⟩
      | pow => obtain ⟨c, rfl⟩ := b; exact op_pow pins s σ H _ _ v u Q I rx ry ⟨i, j, rfl, rfl, c, q.int⟩
    | _ => cases o <;> cases e
  | tup xs =>
    obtain ⟨a, vs, rfl, hT, r⟩ := h1.sqT
    rw [← hK] at hT
    cases d2 with
    | tup ys =>
      obtain ⟨b, us, rfl, hT2, r2⟩ := h2.sqT
      rw [← hK] at hT2
      cases o with
      | add =>
        simp only [bin] at e
        split at e
        · rename_i c
          cases e
          simp only [Bool.and_eq_true, decide_eq_true_eq] at c
          have f1 := r.fz c.1.2
          have f2 := r2.fz c.2
          have rr := f1.fapp f2
          refine op_catA pins s σ H _ _ v u Q I rx ry ⟨a, b, vs, us, rfl, rfl, hT, hT2, by rw [← r.length, ← r2.length]; exact c.1.1, fun e => ?_, fun n e => ?_, fun n n2 => q.tup rr⟩
          · subst e; exact q.same (.tup (by rw [← hK]; exact hT2) (by simpa using rr))
          · subst e; exact q.same (.tup (by rw [← hK]; exact hT) (by simpa using rr))
        · cases e
      | _ => cases e
    | int j =>
      cases h2
      cases o with
      | mul =>
        simp only [bin] at e
        split at e
        · rename_i c
          cases e
          simp only [Bool.and_eq_true, decide_eq_true_eq] at c
          have f1 := r.fz c.2
          have rr := f1.rep j.toNat
          refine op_repA pins s σ H _ _ v u Q I rx ry ⟨a, j, vs, rfl, rfl, hT, c.1.1.1, c.1.1.2, by rw [← r.length]; exact c.1.2, fun e => ?_, fun n e => q.tup rr⟩
          have z : (List.replicate j.toNat vs).flatten = vs := by
            rcases e with rfl | rfl
            · simp
            · simp
          rw [z] at rr
          exact q.same (.tup (by rw [← hK]; exact hT) rr)
        · cases e
      | _ => cases e
    | _ => cases o <;> cases e
  | lst m xs =>
    obtain ⟨a, vs, bs, rfl, hT, r, _⟩ := h1.sqL
    rw [← hK] at hT
    cases d2 with
    | lst m2 ys =>
      obtain ⟨b, us, bs2, rfl, hT2, r2, _⟩ := h2.sqL
      rw [← hK] at hT2
      cases o with
      | add =>
        simp only [bin] at e
        split at e
        · rename_i c
          cases e
          simp only [Bool.and_eq_true, decide_eq_true_eq] at c
          exact op_catS pins s σ H _ _ v u Q I rx ry ⟨a, b, vs, us, rfl, rfl, hT, hT2, by rw [← r.length, ← r2.length]; exact c.1.1, q.lst ((r.fz c.1.2).fapp (r2.fz c.2))⟩
        · cases e
      | _ => cases m <;> cases e
    | int j =>
      cases h2
      cases o with
      | mul =>
        cases m with
        | false => cases e
        | true =>
          obtain ⟨a2, vs, bs, e1, hO, r, _⟩ := h1.lstO'
          cases e1
          simp only [bin] at e
          split at e
          · rename_i c
            cases e
            simp only [Bool.and_eq_true, decide_eq_true_eq] at c
            exact op_rep pins s σ H _ _ v u Q I rx ry ⟨a, j, vs, rfl, rfl, hO, c.1.1.1, c.1.1.2, by rw [← r.length]; exact c.1.2, q.lst ((r.fz c.2).rep j.toNat)⟩
          · cases e
      | _ => cases m <;> cases e
    | _ => cases m <;> cases o <;> cases e
  | _ => cases o <;> cases d2 <;> cases e

def cmpA : COp → CmpOp
  | .eq => .Eq
  | .ne => .NotEq
  | .lt => .Lt
  | .le => .LtE
  | .gt => .Gt
  | .ge => .GtE
  | .isn => .Is
  | .notn => .IsNot
  | .mem => .In
  | .nmem => .NotIn
def rCmp (P : RP) (o : COp) : R2 := fun x y H Q => ∃ d1 d2 as1 as2 d, Rep P H d1 x as1 ∧ Rep P H d2 y as2 ∧ cmp o d1 d2 = some d ∧ RQ P d H Q
theorem eqD_some {a b : D} {k : Bool} (e : eqD a b = some k) : ∃ p q, a.py = some p ∧ b.py = some q ∧ SeqAt.shaped p = true ∧ SeqAt.shaped q = true ∧ k = PyData.eqv p q := by
  unfold eqD at e
  split at e
  · rename_i p q h1 h2
    split at e
    · rename_i c
      cases e
      rw [Bool.and_eq_true] at c
      exact ⟨p, q, h1, h2, c.1, c.2, rfl⟩
    · cases e
  · cases e
theorem memD_some {a : D} {xs : List D} {k : Bool} (e : memD a xs = some k) : ∃ p ps, a.py = some p ∧ D.pys xs = some ps ∧ SeqAt.shaped p = true ∧ SeqAt.shaped (.list ps) = true ∧ k = ps.any fun z => PyData.eqv z p := by
  unfold memD at e
  split at e
  · rename_i p q h1 h2
    split at e
    · rename_i c
      cases e
      rw [Bool.and_eq_true] at c
      exact ⟨p, q, h1, h2, c.1, c.2, rfl⟩
    · cases e
  · cases e
theorem map_bl {o : Option Bool} {f : Bool → D} {d : D} (e : o.map f = some d) : ∃ k, o = some k ∧ d = f k := by
  cases o with
  | none => cases e
  | some k => exact ⟨k, rfl, (Option.some.inj e).symm⟩
theorem op_mem (hK : X.K = P.K) (hu : X.A.units + 65 < cLine) {x y : V} {v u : Value} {pins : List (Addr × Obj)} {s : Shared} {σ : L2.St} {a : D} {m : Option Bool} {xs : List D} {as bs : List Addr} {k : Bool} (I : Inv X pins σ H s) (rx : RelV x v) (ry : RelV y u)
    (h1 : Rep P H a x as) (h2 : Rep P H (match m with | none => .tup xs | some m => .lst m xs) y bs) (e : memD a xs = some k) : (Q (.bl k) H → wpAny (model X.prog X.w) X.A (compareOp .In v u) (EP X pins σ Q) X.xe s) ∧ (Q (.bl (!k)) H → wpAny (model X.prog X.w) X.A (compareOp .NotIn v u) (EP X pins σ Q) X.xe s) := by
  obtain ⟨p, ps, e1, e2, s1, s2, rfl⟩ := memD_some e
  have D1 : Dp X.K H x p := by rw [hK]; exact h1.dp e1
  cases m with
  | none =>
    have D2 : Dp X.K H y (.tuple ps) := by rw [hK]; exact h2.dp (by simp [D.py, e2])
    obtain ⟨a1, r1⟩ := Dp.reads I p x v D1 rx
    obtain ⟨a2, r2⟩ := Dp.reads I (.tuple ps) y u D2 ry
    exact ⟨fun q => SeqAt.in_tuple_reads r2 r1 (SeqAt.canLay_of_shaped s2) (SeqAt.canLay_of_shaped s1) (room_in_shaped s1 hu) ⟨.bl _, H, I, rfl, q⟩,
      fun q => SeqAt.notIn_tuple_reads r2 r1 (SeqAt.canLay_of_shaped s2) (SeqAt.canLay_of_shaped s1) (room_in_shaped s1 hu) ⟨.bl _, H, I, rfl, q⟩⟩
  | some m =>
    have D2 : Dp X.K H y (.list ps) := by rw [hK]; exact h2.dp (by simp [D.py, e2])
    exact ⟨fun q => op_inD hu pins s σ H x y v u Q I rx ry ⟨p, ps, D1, D2, s1, s2, q⟩, fun q => op_notInD hu pins s σ H x y v u Q I rx ry ⟨p, ps, D1, D2, s1, s2, q⟩⟩
theorem Rep.isN {d : D} {v : V} {as : List Addr} (h : Rep P H d v as) : decide (v = V.non) = isNon d := by
  cases h <;> first | rfl | exact decide_eq_false fun z => nomatch z
theorem op_cmp (hK : X.K = P.K) (hu : X.A.units + 65 < cLine) (o : COp) : OpR X (compareOp (cmpA o)) (rCmp P o) := by
  intro pins s σ H x y v u Q I rx ry h
  obtain ⟨d1, d2, as1, as2, d, h1, h2, e, q⟩ := h
  cases o with
  | eq =>
    obtain ⟨k, e', rfl⟩ := map_bl (show (eqD d1 d2).map D.bl = some d by cases d1 <;> cases d2 <;> exact e)
    obtain ⟨p, p2, e1, e2, s1, s2, rfl⟩ := eqD_some e'
    exact op_eqD (by omega) pins s σ H x y v u Q I rx ry ⟨p, p2, by rw [hK]; exact h1.dp e1, by rw [hK]; exact h2.dp e2, s1, s2, q.bl⟩
  | ne =>
    obtain ⟨k, e', rfl⟩ := map_bl (show (eqD d1 d2).map (fun k => D.bl (!k)) = some d by cases d1 <;> cases d2 <;> exact e)
    obtain ⟨p, p2, e1, e2, s1, s2, rfl⟩ := eqD_some e'
    exact op_neD (by omega) pins s σ H x y v u Q I rx ry ⟨p, p2, by rw [hK]; exact h1.dp e1, by rw [hK]; exact h2.dp e2, s1, s2, q.bl⟩
  | lt => cases d1 <;> cases d2 <;> first | (cases e; done) | (cases e; cases h1; cases h2; exact op_lt pins s σ H _ _ v u Q I rx ry ⟨_, _, rfl, rfl, q.bl⟩)
  | le => cases d1 <;> cases d2 <;> first | (cases e; done) | (cases e; cases h1; cases h2; exact op_le pins s σ H _ _ v u Q I rx ry ⟨_, _, rfl, rfl, q.bl⟩)
  | gt => cases d1 <;> cases d2 <;> first | (cases e; done) | (cases e; cases h1; cases h2; exact op_gt pins s σ H _ _ v u Q I rx ry ⟨_, _, rfl, rfl, q.bl⟩)
  | ge => cases d1 <;> cases d2 <;> first | (cases e; done) | (cases e; cases h1; cases h2; exact op_ge pins s σ H _ _ v u Q I rx ry ⟨_, _, rfl, rfl, q.bl⟩)
  | isn =>
    cases d2 with
    | non =>
      have e' : some (D.bl (isNon d1)) = some d := by cases d1 <;> exact e
      cases e'
      cases h2
      exact op_isN pins s σ H _ _ v u Q I rx ry ⟨rfl, by rw [h1.isN]; exact q.bl⟩
    | _ => cases d1 <;> cases e
  | notn =>
    cases d2 with
    | non =>
      have e' : some (D.bl (!isNon d1)) = some d := by cases d1 <;> exact e
      cases e'
      cases h2
      exact op_notN pins s σ H _ _ v u Q I rx ry ⟨rfl, by rw [h1.isN]; exact q.bl⟩
    | _ => cases d1 <;> cases e
  | mem =>
    cases d2 with
    | tup xs =>
      obtain ⟨k, e', rfl⟩ := map_bl (show (memD d1 xs).map D.bl = some d by cases d1 <;> exact e)
      exact (op_mem (m := none) hK hu I rx ry h1 h2 e').1 q.bl
    | lst m xs =>
      obtain ⟨k, e', rfl⟩ := map_bl (show (memD d1 xs).map D.bl = some d by cases d1 <;> exact e)
      exact (op_mem (m := some m) hK hu I rx ry h1 h2 e').1 q.bl
    | _ => cases d1 <;> cases e
  | nmem =>
    cases d2 with
    | tup xs =>
      obtain ⟨k, e', rfl⟩ := map_bl (show (memD d1 xs).map (fun k => D.bl (!k)) = some d by cases d1 <;> exact e)
      exact (op_mem (m := none) hK hu I rx ry h1 h2 e').2 q.bl
    | lst m xs =>
      obtain ⟨k, e', rfl⟩ := map_bl (show (memD d1 xs).map (fun k => D.bl (!k)) = some d by cases d1 <;> exact e)
      exact (op_mem (m := some m) hK hu I rx ry h1 h2 e').2 q.bl
    | _ => cases d1 <;> cases e

/-! ### one operand -/
def rNeg (P : RP) : V → Hp → VK → Prop := fun x H Q => ∃ i as, Rep P H (.int i) x as ∧ RQ P (.int (-i)) H Q
theorem un_neg' : UnR X (unaryOp .USub) (rNeg P) := by
  intro pins s σ H x v Q I rx h
  obtain ⟨i, as, h1, q⟩ := h
  cases h1
  exact un_neg pins s σ H _ v Q I rx ⟨i, rfl, q.int⟩
/-- an item of a container: the container behind a change of it -/
def ItP (P : RP) (H : Hp) (d1 dk : D) (x : V) (as1 : List Addr) (d : D) (v : V) (as : List Addr) : Prop :=
  Rep P H d v as ∧ ∃ pre post, as1 = pre ++ as ++ post ∧ ∀ (H2 : Hp) (d2 d3 : D) (as2 : List Addr), FixIn H H2 → (∀ a ∈ pre ++ post, H2 a = H a) → Rep P H2 d2 v as2 → putItem d1 dk d2 = some d3 → Rep P H2 d3 x (pre ++ as2 ++ post)
/-- a[k]: the item as it stands -/
def rItm (P : RP) : R2 := fun x y H Q => ∃ d1 d2 as1 as2 d, Rep P H d1 x as1 ∧ Rep P H d2 y as2 ∧ item d1 d2 = some d ∧ ∀ v as, ItP P H d1 d2 x as1 d v as → Q v H
theorem Reps.getS {ds : List D} : ∀ {vs : List V} {as0 : List Addr} {i : Nat} {d : D}, Reps P H ds vs as0 → ds[i]? = some d → ∃ v pre as post, vs[i]? = some v ∧ Rep P H d v as ∧ as0 = pre ++ as ++ post ∧
    ∀ (H2 : Hp) (d2 : D) (as2 : List Addr), FixIn H H2 → (∀ a ∈ pre ++ post, H2 a = H a) → Rep P H2 d2 v as2 → Reps P H2 (ds.set i d2) vs (pre ++ as2 ++ post) := by
  induction ds with
  | nil => intro vs as i d h e; simp at e
  | cons x ds ih =>
    intro vs as i d h e
    cases h with
    | @cons _ _ v0 vs0 a1 a2 h r =>
      cases i with
      | zero =>
        have e : x = d := by simpa using e
        subst e
        exact ⟨_, [], _, a2, rfl, h, by simp, fun H2 d2 as2 f k r2 => .cons r2 (r.frame f fun a z => k a (by simpa using z))⟩
      | succ i =>
        obtain ⟨v, pre, as, post, h1, h2, h3, h4⟩ := ih (i := i) (d := d) r (by simpa using e)
        refine ⟨v, a1 ++ pre, as, post, by simpa using h1, h2, by rw [h3]; simp, fun H2 d2 as2 f k r2 => ?_⟩
        have := Reps.cons (h.frame f fun a z => k a (by simp [z])) (h4 H2 d2 as2 f (fun a z => k a (by simp only [List.mem_append] at z ⊢; rcases z with z | z <;> simp [z])) r2)
        simpa using this
theorem Reps.atS {ds : List D} {vs : List V} {as0 : List Addr} {i : Int} {d : D} (h : Reps P H ds vs as0) (e : atI ds i = some d) : ∃ j v pre as post, ixN ds.length i = some j ∧ atI vs i = some v ∧ Rep P H d v as ∧ as0 = pre ++ as ++ post ∧
    ∀ (H2 : Hp) (d2 : D) (as2 : List Addr), FixIn H H2 → (∀ a ∈ pre ++ post, H2 a = H a) → Rep P H2 d2 v as2 → Reps P H2 (ds.set j d2) vs (pre ++ as2 ++ post) := by
  unfold atI at e
  cases n : ixN ds.length i with
  | none => rw [n] at e; cases e
  | some j =>
    rw [n] at e
    obtain ⟨v, pre, as, post, h1, h2, h3, h4⟩ := h.getS (i := j) (d := d) e
    refine ⟨j, v, pre, as, post, rfl, ?_, h2, h3, h4⟩
    unfold atI
    rw [← h.length, n]
    exact h1
end
end Q

set_option Elab.async false
set_option linter.all false
set_option maxRecDepth 100000
/-! W6: items, stores, slices, built-ins, by values. -/
namespace Q
open Snd
open PySem PySem.Spec PyProof.Rows L2

section
variable {P : RP} {X : Cx} {H H' : Hp} {Q : VK} {d : D}
theorem look_at {k : Key} {d : D} : ∀ {ks : List Key} {ds : List D}, ks.length = ds.length → look k ks ds = some d → ∃ j, ds[j]? = some d ∧ (∀ d2, setKey k d2 ks ds = (ks, ds.set j d2)) ∧ ∀ vs : List V, vs.length = ds.length → valV (ks.zip vs) k = vs[j]?
  | [], ds, l, e => by simp [look] at e
  | a :: ks, [], l, e => by simp at l
  | a :: ks, x :: ds, l, e => by
    simp only [look] at e
    by_cases c : k = a
    · rw [if_pos c] at e
      cases e
      refine ⟨0, rfl, fun d2 => by simp [setKey, c], fun vs lv => ?_⟩
      cases vs with
      | nil => simp at lv
      | cons w ws => rw [List.zip_cons_cons]; exact valV_pos c.symm
    · rw [if_neg c] at e
      obtain ⟨j, h1, h2, h3⟩ := look_at (by simpa using l) e
      refine ⟨j + 1, by simpa using h1, fun d2 => by simp [setKey, c, h2], fun vs lv => ?_⟩
      cases vs with
      | nil => simp at lv
      | cons w ws =>
        rw [List.zip_cons_cons]
        exact (valV_neg fun z => c z.symm).trans (h3 ws (by simpa using lv))
theorem look_none {k : Key} : ∀ {ks : List Key} {ds : List D} {vs : List V} {as : List Addr}, ks.length = ds.length → Reps P H ds vs as → look k ks ds = none → valV (ks.zip vs) k = none
  | [], ds, vs, as, l, r, e => rfl
  | a :: ks, [], vs, as, l, r, e => by simp at l
  | a :: ks, x :: ds, _, _, l, .cons (v := v) (vs := vs) h r, e => by
    simp only [look] at e
    by_cases c : k = a
    · rw [if_pos c] at e; cases e
    · rw [if_neg c] at e
      rw [List.zip_cons_cons]
      exact (valV_neg fun z => c z.symm).trans (look_none (by simpa using l) r e)
theorem ix_dict (hu : X.A.units + 1 < cLine) : IxR X (fun x y H Q => ∃ a v, x = .ref a ∧ DGet H a y (some v) ∧ Q v H) := by
  intro value slice pins s σ H x y v u Q I rx ry h hs
  obtain ⟨a, w, rfl, g, q⟩ := h
  cases rx
  exact tail_any (dict_typeIs I g) PySem.F.slot_dict_getitem.lookup (d_getItem hu I g ry fun w' s3 I3 rw' => ⟨w, H, I3, rw', q⟩) hs
theorem Rep.dic {m : Bool} {ks : List Key} {ds : List D} {v : V} {as : List Addr} (h : Rep P H (.dic m ks ds) v as) : ∃ a vs bs, v = .ref a ∧ Rd H a (.dK (ks.zip vs)) ∧ ks.length = ds.length ∧ Reps P H ds vs bs ∧ ∀ b ∈ bs, b ∈ as := by
  cases h with
  | dicF h hl nd r => exact ⟨_, _, _, rfl, .inr ⟨_, h⟩, hl, r, fun _ z => z⟩
  | dicO h hl nd r => exact ⟨_, _, _, rfl, .inl h, hl, r, fun _ z => List.mem_cons_of_mem _ z⟩
theorem Rep.key {d : D} {k : Key} {v : V} {as : List Addr} (h : Rep P H d v as) (e : keyD d = some k) : v = kV k := by
  cases h <;> cases e <;> rfl
theorem bind_some {α β : Type} {o : Option α} {f : α → Option β} {b : β} (e : o.bind f = some b) : ∃ a, o = some a ∧ f a = some b := by
  cases o with
  | none => cases e
  | some a => exact ⟨a, rfl, e⟩
theorem ix_itm (hK : X.K = P.K) (hu : X.A.units + 1 < cLine) : IxR X (rItm P) := by
  intro value slice pins s σ H x y v u Q I rx ry h hs
  obtain ⟨d1, d2, as1, as2, d, h1, h2, e, q⟩ := h
  cases d1 with
  | tup xs =>
    obtain ⟨a, vs, rfl, hT, r⟩ := h1.sqT
    cases d2 with
    | int i =>
      cases h2
      obtain ⟨j, w, pre, bs, post, g0, g1, g2, g3, g4⟩ := r.atS e
      exact ix_tup value slice pins s σ H _ _ v u Q I rx ry ⟨a, vs, i, w, rfl, rfl, by rw [hK]; exact hT, g1, q w bs ⟨g2, pre, post, g3, fun H2 d2 d3 as2 f k r2 e => nomatch e⟩⟩ hs
    | _ => cases e
  | lst m xs =>
    cases d2 with
    | int i =>
      cases h2
      cases h1 with
      | lstF hT r =>
        obtain ⟨j, w, pre, bs, post, g0, g1, g2, g3, g4⟩ := r.atS e
        exact ix_list value slice pins s σ H _ _ v u Q I rx ry ⟨_, _, i, w, rfl, rfl, by rw [hK]; exact hT.l, g1, q w bs ⟨g2, pre, post, g3, fun H2 d2 d3 as2 f k r2 e => nomatch e⟩⟩ hs
      | @lstO _ a vs cs hT r =>
        obtain ⟨j, w, pre, bs, post, g0, g1, g2, g3, g4⟩ := r.atS e
        refine ix_list value slice pins s σ H _ _ v u Q I rx ry ⟨a, vs, i, w, rfl, rfl, .of hT, g1, q w bs ⟨g2, a :: pre, post, by rw [g3]; rfl, fun H2 d2 d3 as2 f k r2 e => ?_⟩⟩ hs
        have e' : (ixN xs.length i).map (fun j => D.lst true (xs.set j d2)) = some d3 := e
        rw [g0] at e'
        cases e'
        exact .lstO ((k a (by simp)).trans hT) (g4 H2 d2 as2 f (fun b z => k b (by simp only [List.cons_append]; exact List.mem_cons_of_mem _ z)) r2)
    | _ => cases e
  | dic m ks xs =>
    obtain ⟨k, e1, e2⟩ := bind_some (show (keyD d2).bind (fun k => look k ks xs) = some d by cases d2 <;> exact e)
    have e3 := h2.key e1
    subst e3
    cases h1 with
    | @dicF _ _ a vs o hT hl nd r =>
      obtain ⟨j, g0, g1, g2⟩ := look_at hl e2
      obtain ⟨w, pre, bs, post, f1, f2, f3, f4⟩ := r.getS g0
      exact ix_dict hu value slice pins s σ H _ _ v u Q I rx ry ⟨a, w, rfl, .inl ⟨_, k, .inr ⟨o, hT⟩, rfl, ((g2 vs r.length.symm).trans f1).symm⟩, q w bs ⟨f2, pre, post, f3, fun H2 d2 d3 as2 f k r2 e => nomatch e⟩⟩ hs
    | @dicO _ _ a vs cs hT hl nd r =>
      obtain ⟨j, g0, g1, g2⟩ := look_at hl e2
      obtain ⟨w, pre, bs, post, f1, f2, f3, f4⟩ := r.getS g0
      refine ix_dict hu value slice pins s σ H _ _ v u Q I rx ry ⟨a, w, rfl, .inl ⟨_, k, .inl hT, rfl, ((g2 vs r.length.symm).trans f1).symm⟩, q w bs ⟨f2, a :: pre, post, by rw [f3]; rfl, fun H2 d2' d3 as2 f kk r2 e => ?_⟩⟩ hs
      have e' : (keyD d2).bind (fun k => if ks.length < sizeLine then some (D.dic true (setKey k d2' ks xs).1 (setKey k d2' ks xs).2) else none) = some d3 := by cases d2 <;> exact e
      rw [e1] at e'
      simp only [Option.bind_some] at e'
      split at e'
      · cases e'
        rw [g1 d2']
        exact .dicO ((kk a (by simp)).trans hT) (by simpa using hl) nd (f4 H2 d2' as2 f (fun b z => kk b (by simp only [List.cons_append]; exact List.mem_cons_of_mem _ z)) r2)
      · cases e'
  | _ => cases e

/-! ### stores -/
theorem upd_at {a : Addr} {o : HO} {l : List Addr} (h : a ∉ l) : ∀ b ∈ l, upd H a o b = H b := fun b z => upd_ne fun e => h (by rw [← e]; exact z)
theorem fix_upd {a : Addr} {o u : HO} (h : H a = some o) (w : isOwn o = true) : FixIn H (upd H a u) := fun b x e f => by
  by_cases c : b = a
  · subst c
    rw [h] at e; cases e
    unfold isFix at f
    rw [w] at f
    exact absurd f (by simp)
  · rw [upd_ne c]; exact e
theorem Reps.setN {dv : D} {v : V} {av : List Addr} (hv : Rep P H dv v av) {ds : List D} : ∀ {vs : List V} {as : List Addr} {j : Nat}, j < ds.length → Reps P H ds vs as → ∃ pre old post, as = pre ++ old ++ post ∧ Reps P H (ds.set j dv) (vs.set j v) (pre ++ av ++ post) := by
  induction ds with
  | nil => intro vs as j h r; simp at h
  | cons d ds ih =>
    intro vs as j h r
    cases r with
    | @cons _ _ w ws a1 a2 h1 r =>
      cases j with
      | zero => exact ⟨[], a1, a2, by simp, by simpa using Reps.cons hv r⟩
      | succ j =>
        obtain ⟨pre, old, post, e1, e2⟩ := ih (j := j) (by simpa using h) r
        exact ⟨a1 ++ pre, old, post, by rw [e1]; simp, by simpa using Reps.cons h1 e2⟩
theorem nodup_swap {a : Addr} {pre old post av : List Addr} (h : ((a :: (pre ++ old ++ post)) ++ av).Nodup) : (a :: (pre ++ av ++ post)).Nodup := by
  have h1 : ((a :: pre) ++ (old ++ (post ++ av))).Nodup := by simpa using h
  have h2 : ((a :: pre) ++ (post ++ av)).Nodup := h1.sublist (List.Sublist.append (List.Sublist.refl _) (List.sublist_append_right _ _))
  refine List.Perm.nodup ?_ h2
  show ((a :: pre) ++ (post ++ av)).Perm (a :: (pre ++ av ++ post))
  have e : a :: (pre ++ av ++ post) = (a :: pre) ++ (av ++ post) := by simp
  rw [e]
  exact List.Perm.append_left _ List.perm_append_comm
/-- a container behind a store: its data, what it owns -/
structure Put (P : RP) (H : Hp) (a : Addr) (as1 asv : List Addr) (d' : D) (u : HO) (as' : List Addr) : Prop where
  was : ∃ o, H a = some o ∧ isOwn o = true
  mem : a ∈ as1
  own : isOwn u = true
  rep : Rep P (upd H a u) d' (.ref a) as'
  sub : ∀ b ∈ as', b ∈ as1 ∨ b ∈ asv
  nd : as'.Nodup
def rPut (P : RP) : TSet := fun o i v H Q => ∃ d1 d2 dv as1 as2 asv d', Rep P H d1 o as1 ∧ Rep P H d2 i as2 ∧ Rep P H dv v asv ∧ (as1 ++ asv).Nodup ∧ putItem d1 d2 dv = some d' ∧ ∀ a u as', o = .ref a → Put P H a as1 asv d' u as' → Q (upd H a u)
theorem Put.lst {a : Addr} {xs : List V} {ds : List D} {bs asv : List Addr} {dv : D} {v : V} {j : Nat} (h : H a = some (.lst xs)) (r : Reps P H ds xs bs) (hv : Rep P H dv v asv) (nd : ((a :: bs) ++ asv).Nodup) (hj : j < ds.length) :
    ∃ as', Put P H a (a :: bs) asv (.lst true (ds.set j dv)) (.lst (xs.set j v)) as' := by
  obtain ⟨pre, old, post, e1, e2⟩ := r.setN hv hj
  subst e1
  have nd2 := nodup_swap nd
  refine ⟨a :: (pre ++ asv ++ post), ⟨_, h, rfl⟩, List.mem_cons_self, rfl, ?_, fun b z => ?_, nd2⟩
  · exact .lstO upd_same (e2.frame (fix_upd h rfl) (upd_at (List.nodup_cons.mp nd2).1))
  · rcases List.mem_cons.mp z with z | z
    · exact .inl (by rw [z]; exact List.mem_cons_self)
    · simp only [List.mem_append] at z
      rcases z with (z | z) | z
      · exact .inl (by simp [z])
      · exact .inr z
      · exact .inl (by simp [z])
/-- behind an append -/
theorem Put.app {a : Addr} {xs : List V} {ds : List D} {bs asv : List Addr} {dv : D} {v : V} (h : H a = some (.lst xs)) (r : Reps P H ds xs bs) (hv : Rep P H dv v asv) (nd : ((a :: bs) ++ asv).Nodup) :
    ∃ as', Put P H a (a :: bs) asv (.lst true (ds ++ [dv])) (.lst (xs ++ [v])) as' := by
  have r2 : Reps P H (ds ++ [dv]) (xs ++ [v]) (bs ++ asv) := by
    have := r.append (.cons hv .nil)
    simpa using this
  have nd2 : (a :: (bs ++ asv)).Nodup := by simpa using nd
  refine ⟨a :: (bs ++ asv), ⟨_, h, rfl⟩, List.mem_cons_self, rfl, ?_, fun b z => ?_, nd2⟩
  · exact .lstO upd_same (r2.frame (fix_upd h rfl) (upd_at (List.nodup_cons.mp nd2).1))
  · rcases List.mem_cons.mp z with z | z
    · exact .inl (by rw [z]; exact List.mem_cons_self)
    · rcases List.mem_append.mp z with z | z
      · exact .inl (List.mem_cons_of_mem _ z)
      · exact .inr z
theorem Rep.dicO' {ks : List Key} {ds : List D} {v : V} {as : List Addr} (h : Rep P H (.dic true ks ds) v as) : ∃ a xs bs, v = .ref a ∧ H a = some (.dK (ks.zip xs)) ∧ ks.length = ds.length ∧ ks.Nodup ∧ Reps P H ds xs bs ∧ as = a :: bs := by
  cases h with
  | dicO h hl nd r => exact ⟨_, _, _, rfl, h, hl, nd, r, rfl⟩
/-- setKey on the keys and the values -/
theorem setKey_has {k : Key} {dv : D} {v : V} : ∀ {ks : List Key} {ds : List D} {vs : List V}, ks.length = ds.length → ks.length = vs.length → ks.Nodup → k ∈ ks → ∃ j, j < ds.length ∧ (setKey k dv ks ds) = (ks, ds.set j dv) ∧ putK (ks.zip vs) k v = ks.zip (vs.set j v)
  | [], ds, vs, _, _, _, h => by simp at h
  | a :: ks, [], vs, l, _, _, _ => by simp at l
  | a :: ks, x :: ds, [], _, l, _, _ => by simp at l
  | a :: ks, x :: ds, w :: vs, l1, l2, nd, h => by
    have nd' := List.nodup_cons.mp nd
    by_cases c : k = a
    · subst c
      refine ⟨0, by simp, by simp [setKey], ?_⟩
      have hm : ∀ (ks : List Key) (vs : List V), k ∉ ks → (ks.zip vs).map (fun kv => if kv.1 = k then (kv.1, v) else kv) = ks.zip vs := fun ks vs h => by
        conv => rhs; rw [← List.map_id (ks.zip vs)]
        apply List.map_congr_left
        intro p hp
        rw [if_neg fun e => h (by rw [← e]; exact (List.of_mem_zip hp).1)]
        rfl
      unfold putK
      rw [if_pos (by simp)]
      simp only [List.zip_cons_cons, List.map_cons, if_true, List.set_cons_zero]
      rw [hm ks vs nd'.1]
    · obtain ⟨j, h1, h2, h3⟩ := setKey_has (dv := dv) (v := v) (by simpa using l1) (by simpa using l2) nd'.2 (show k ∈ ks by rcases List.mem_cons.mp h with e | e; exact absurd e c; exact e)
      refine ⟨j + 1, by simpa using h1, by simp [setKey, c, h2], ?_⟩
      have hk : k ∈ ks := by rcases List.mem_cons.mp h with e | e; exact absurd e c; exact e
      have l2' : ks.length = vs.length := by simpa using l2
      have any1 : ((ks.zip vs).any fun kv => decide (kv.1 = k)) = true := by
        rw [List.any_eq_true]
        obtain ⟨i, hi, e⟩ := List.getElem_of_mem hk
        exact ⟨(ks[i], vs[i]'(by omega)), by rw [← List.getElem_zip (h := by rw [List.length_zip]; omega)]; exact List.getElem_mem _, by simpa using e⟩
      unfold putK at h3 ⊢
      rw [if_pos any1] at h3
      rw [if_pos (by rw [List.zip_cons_cons, List.any_cons, any1, Bool.or_true])]
      simp only [List.zip_cons_cons, List.map_cons, List.set_cons_succ]
      rw [if_neg (show ¬ a = k from fun e => c e.symm), h3]
theorem setKey_new {k : Key} {dv : D} : ∀ {ks : List Key} {ds : List D}, ks.length = ds.length → k ∉ ks → (setKey k dv ks ds) = (ks ++ [k], ds ++ [dv])
  | [], [], _, _ => rfl
  | [], x :: ds, l, _ => by simp at l
  | a :: ks, [], l, _ => by simp at l
  | a :: ks, x :: ds, l, h => by
    have h' : k ≠ a ∧ k ∉ ks := by simpa using h
    rw [setKey, if_neg h'.1, setKey_new (by simpa using l) h'.2]; rfl
theorem look_mem {k : Key} : ∀ {ks : List Key} {ds : List D}, ks.length = ds.length → ((look k ks ds).isSome = true ↔ k ∈ ks)
  | [], ds, _ => by simp [look]
  | a :: ks, [], l => by simp at l
  | a :: ks, x :: ds, l => by
    simp only [look]
    by_cases c : k = a
    · simp [c]
    · rw [if_neg c, look_mem (by simpa using l)]
      simp [c]
theorem Put.dic {a : Addr} {ks : List Key} {xs : List V} {ds : List D} {bs asv : List Addr} {dv : D} {v : V} {k : Key} (h : H a = some (.dK (ks.zip xs))) (hl : ks.length = ds.length) (hn : ks.Nodup) (r : Reps P H ds xs bs) (hv : Rep P H dv v asv) (nd : ((a :: bs) ++ asv).Nodup) :
    ∃ as', Put P H a (a :: bs) asv (.dic true (setKey k dv ks ds).1 (setKey k dv ks ds).2) (.dK (putK (ks.zip xs) k v)) as' := by
  have hx : ks.length = xs.length := by rw [hl, r.length]
  by_cases hk : k ∈ ks
  · obtain ⟨j, h1, h2, h3⟩ := setKey_has (dv := dv) (v := v) hl hx hn hk
    rw [h2, h3]
    obtain ⟨pre, old, post, e1, e2⟩ := r.setN hv h1
    subst e1
    have nd2 := nodup_swap nd
    refine ⟨a :: (pre ++ asv ++ post), ⟨_, h, rfl⟩, List.mem_cons_self, rfl, ?_, fun b z => ?_, nd2⟩
    · exact .dicO upd_same (by simpa using hl) hn (e2.frame (fix_upd h rfl) (upd_at (List.nodup_cons.mp nd2).1))
    · rcases List.mem_cons.mp z with z | z
      · exact .inl (by rw [z]; exact List.mem_cons_self)
      · simp only [List.mem_append] at z
        rcases z with (z | z) | z
        · exact .inl (by simp [z])
        · exact .inr z
        · exact .inl (by simp [z])
  · rw [setKey_new hl hk]
    have any0 : ((ks.zip xs).any fun kv => decide (kv.1 = k)) = false := by
      rw [List.any_eq_false]
      intro p hp e
      exact hk (by rw [← of_decide_eq_true e]; exact (List.of_mem_zip hp).1)
    have e3 : putK (ks.zip xs) k v = (ks ++ [k]).zip (xs ++ [v]) := by
      unfold putK
      rw [if_neg (by rw [any0]; exact Bool.false_ne_true), List.zip_append hx]
      rfl
    rw [e3]
    have r2 : Reps P H (ds ++ [dv]) (xs ++ [v]) (bs ++ asv) := by
      have := r.append (.cons hv .nil)
      simpa using this
    have nd2 : (a :: (bs ++ asv)).Nodup := by simpa using nd
    refine ⟨a :: (bs ++ asv), ⟨_, h, rfl⟩, List.mem_cons_self, rfl, ?_, fun b z => ?_, nd2⟩
    · refine .dicO upd_same (by simpa using hl) ?_ (r2.frame (fix_upd h rfl) (upd_at (List.nodup_cons.mp nd2).1))
      exact List.nodup_append.mpr ⟨hn, by simp, fun x hx y hy e => hk (by rw [List.mem_singleton.mp hy] at e; rw [← e]; exact hx)⟩
    · rcases List.mem_cons.mp z with z | z
      · exact .inl (by rw [z]; exact List.mem_cons_self)
      · rcases List.mem_append.mp z with z | z
        · exact .inl (List.mem_cons_of_mem _ z)
        · exact .inr z
theorem set_put (hu : X.A.units + 1 < cLine) : PSet X (rPut P) := by
  intro pins s σ H o i v ov iv u Q I ro ri rv h
  obtain ⟨d1, d2, dv, as1, as2, asv, d', h1, h2, h3, nd, e, q⟩ := h
  cases d1 with
  | lst m xs =>
    cases m with
    | false => cases e
    | true =>
      cases d2 with
      | int j =>
        cases h2
        obtain ⟨a, vs, bs, rfl, hH, r, rfl⟩ := h1.lstO'
        obtain ⟨k, e1, e2⟩ := Option.map_eq_some_iff.mp (show (ixN xs.length j).map (fun j => D.lst true (xs.set j dv)) = some d' from e)
        subst e2
        obtain ⟨as', p⟩ := Put.lst hH r h3 nd (j := k) (by obtain ⟨_, h, _⟩ := ixN_seq e1; exact h)
        exact set_list pins s σ H _ _ _ ov iv u Q I ro ri rv ⟨a, vs, j, k, rfl, rfl, hH, by rw [← r.length]; exact e1, q a _ as' rfl p⟩
      | _ => cases e
  | dic m ks xs =>
    cases m with
    | false => cases e
    | true =>
      obtain ⟨k, e1, e2⟩ := bind_some (show (keyD d2).bind (fun k => if ks.length < sizeLine then some (D.dic true (setKey k dv ks xs).1 (setKey k dv ks xs).2) else none) = some d' by cases d2 <;> exact e)
      have e3 := h2.key e1
      subst e3
      obtain ⟨a, vs, bs, rfl, hH, hl, hn, r, rfl⟩ := h1.dicO'
      cases ro
      have fin : ∀ as', Put P H a (a :: bs) asv d' (.dK (putK (ks.zip vs) k v)) as' → (ks.zip vs).length < sizeLine → wpAny (model X.prog X.w) X.A (setItem (.ref a) iv u) (fun _ s' => ∃ H', Inv X pins σ H' s' ∧ Q H') X.xe s := fun as' p hz =>
        d_setItem hu I (.k hH hz) ri rv fun s' I' => ⟨_, I', q a _ as' rfl p⟩
      have hx : (ks.zip vs).length = ks.length := by rw [List.length_zip, hl, r.length]; omega
      split at e2
      · rename_i hz
        cases e2
        obtain ⟨as', p⟩ := Put.dic (k := k) hH hl hn r h3 nd
        exact fin as' p (by omega)
      · cases e2
  | _ => cases e

/-! ### slices -/
def rSlc (P : RP) : V → Option Int → Option Int → Hp → VK → Prop := fun x lo hi H Q => ∃ d1 as1 d, Rep P H d1 x as1 ∧ slice d1 lo hi = some d ∧ RQ P d H Q
theorem sl_slc (hK : X.K = P.K) : L2.SlR X (rSlc P) := by
  intro pins s σ H x v vl vu lo hi sl Q I rx hs pl pu h
  obtain ⟨d1, as1, d, h1, e, q⟩ := h
  cases d1 with
  | tup xs =>
    obtain ⟨a, vs, rfl, hT, r⟩ := h1.sqT
    rw [← hK] at hT
    simp only [slice] at e
    split at e
    · rename_i c
      cases e
      have f := r.fz c
      refine sl_tupA pins s σ H _ v vl vu lo hi sl Q I rx hs pl pu ⟨a, vs, rfl, hT, fun w => ?_, fun _ => q.tup (f.cut lo hi)⟩
      have e3 : cutD xs lo hi = xs := by
        unfold cutD
        rw [r.length, w.1, w.2, List.drop_zero, Nat.sub_zero, ← r.length, List.take_length]
      rw [e3] at q
      exact q.same (.tup (by rw [← hK]; exact hT) f)
    · cases e
  | lst m xs =>
    obtain ⟨a, vs, cs, rfl, hT, r, z⟩ := h1.sqL
    rw [← hK] at hT
    simp only [slice] at e
    split at e
    · rename_i c
      cases e
      exact sl_list pins s σ H _ v vl vu lo hi sl Q I rx hs pl pu ⟨a, vs, rfl, hT, q.lst ((r.fz c).cut lo hi)⟩
    · cases e
  | _ => cases e
def rRev (P : RP) : V → Hp → VK → Prop := fun x H Q => ∃ d1 as1 d, Rep P H d1 x as1 ∧ revD d1 = some d ∧ RQ P d H Q
theorem rev_of {x : V} (h : rRev P x H Q) : rRevA P.K x H Q := by
  obtain ⟨d1, as1, d, h1, e, q⟩ := h
  cases d1 with
  | tup xs =>
    obtain ⟨a, vs, rfl, hT, r⟩ := h1.sqT
    simp only [revD] at e
    split at e
    · rename_i c
      cases e
      exact ⟨a, vs, rfl, .inl ⟨hT, q.tup (r.fz c).rev⟩⟩
    · cases e
  | lst m xs =>
    obtain ⟨a, vs, cs, rfl, hT, r, z⟩ := h1.sqL
    simp only [revD] at e
    split at e
    · rename_i c
      cases e
      exact ⟨a, vs, rfl, .inr ⟨hT, q.lst (r.fz c).rev⟩⟩
    · cases e
  | _ => cases e

/-! ### built-ins -/
def tyN : Ty → String
  | .tuple => "tuple"
  | .int => "int"
  | .bool => "bool"
  | .str => "str"
  | .list => "list"
/-- the built-in, its values -/
def rBlt (P : RP) (o : Bl) : List V → Hp → VK → Prop := fun vs H Q => ∃ ds us as d, Reps P H ds us as ∧ vs = (match o with | .isin t => us ++ [.ty (tyN t)] | _ => us) ∧ blt o ds = some d ∧ RQ P d H Q
theorem one_of {ds : List D} {us : List V} {as : List Addr} {d : D} (h : Reps P H ds us as) (e : ds = [d]) : ∃ v, us = [v] ∧ Rep P H d v as := by
  subst e
  cases h with
  | cons h r => cases r; exact ⟨_, rfl, by simpa using h⟩
theorem blt_one {o : Bl} {ds : List D} (e : blt o ds = some d) : ∃ x, ds = [x] := by
  cases ds with
  | nil => cases o <;> cases e
  | cons x l =>
    cases l with
    | nil => exact ⟨x, rfl⟩
    | cons y l => cases o <;> cases x <;> cases e
theorem call_lenQ (hK : X.K = P.K) : CallR X (.builtin "len") (rBlt P .len) := by
  intro pins s σ H xs us Q I rs h
  obtain ⟨ds, ws, as, d, h1, rfl, e, q⟩ := h
  obtain ⟨x, rfl⟩ := blt_one e
  obtain ⟨v, rfl, h2⟩ := one_of h1 rfl
  cases x with
  | tup xs =>
    obtain ⟨a, vs, rfl, hT, r⟩ := h2.sqT
    cases e
    exact call_len pins s σ H _ us Q I rs ⟨_, _, rfl, .inr ⟨vs, by rw [hK]; exact hT, rfl⟩, by rw [← r.length]; exact q.int⟩
  | lst m xs =>
    obtain ⟨a, vs, cs, rfl, hT, r, z⟩ := h2.sqL
    cases e
    exact call_len pins s σ H _ us Q I rs ⟨_, _, rfl, .inl ⟨vs, by rw [hK]; exact hT, rfl⟩, by rw [← r.length]; exact q.int⟩
  | dic m ks xs =>
    obtain ⟨a, vs, cs, rfl, hT, hl, r, z⟩ := h2.dic
    cases e
    obtain ⟨u, rfl, r1⟩ := vals1 rs
    cases r1
    refine d_len I hT fun t s' I' => ⟨.int _, H, I', ⟨t, rfl⟩, ?_⟩
    rw [List.length_zip, hl, ← r.length, Nat.min_self]
    exact q.int
  | str z =>
    cases h2
    simp only [blt] at e
    split at e
    · rename_i c
      cases e
      exact call_len pins s σ H _ us Q I rs ⟨_, _, rfl, ⟨c, rfl⟩, q.int⟩
    · cases e
  | _ => cases e
theorem call_listQ (hK : X.K = P.K) : CallR X (.type "list") (rBlt P .listOf) := by
  intro pins s σ H xs us Q I rs h
  obtain ⟨ds, ws, as, d, h1, rfl, e, q⟩ := h
  obtain ⟨x, rfl⟩ := blt_one e
  obtain ⟨v, rfl, h2⟩ := one_of h1 rfl
  cases x with
  | tup xs =>
    obtain ⟨a, vs, rfl, hT, r⟩ := h2.sqT
    simp only [blt] at e
    split at e
    · rename_i c
      cases e
      exact call_list_of pins s σ H _ us Q I rs ⟨a, vs, rfl, .inr (by rw [hK]; exact hT), q.lst (r.fz c)⟩
    · cases e
  | lst m xs =>
    obtain ⟨a, vs, cs, rfl, hT, r, z⟩ := h2.sqL
    simp only [blt] at e
    split at e
    · rename_i c
      cases e
      exact call_list_of pins s σ H _ us Q I rs ⟨a, vs, rfl, .inl (by rw [hK]; exact hT), q.lst (r.fz c)⟩
    · cases e
  | _ => cases e
theorem call_tupleQ (hK : X.K = P.K) : CallR X (.type "tuple") (rBlt P .tupleOf) := by
  intro pins s σ H xs us Q I rs h
  obtain ⟨ds, ws, as, d, h1, rfl, e, q⟩ := h
  obtain ⟨x, rfl⟩ := blt_one e
  obtain ⟨v, rfl, h2⟩ := one_of h1 rfl
  cases x with
  | tup xs =>
    obtain ⟨a, vs, rfl, hT, r⟩ := h2.sqT
    simp only [blt] at e
    split at e
    · rename_i c
      cases e
      exact call_tuple_of pins s σ H _ us Q I rs ⟨a, vs, rfl, .inr ⟨by rw [hK]; exact hT, q.same (.tup hT (r.fz c))⟩⟩
    · cases e
  | lst m xs =>
    obtain ⟨a, vs, cs, rfl, hT, r, z⟩ := h2.sqL
    simp only [blt] at e
    split at e
    · rename_i c
      cases e
      exact call_tuple_of pins s σ H _ us Q I rs ⟨a, vs, rfl, .inl ⟨by rw [hK]; exact hT, q.tup (r.fz c)⟩⟩
    · cases e
  | _ => cases e
theorem call_intQ : CallR X (.type "int") (rBlt P .intOf) := by
  intro pins s σ H xs us Q I rs h
  obtain ⟨ds, ws, as, d, h1, rfl, e, q⟩ := h
  obtain ⟨x, rfl⟩ := blt_one e
  obtain ⟨v, rfl, h2⟩ := one_of h1 rfl
  cases x with
  | int i =>
    cases h2
    cases e
    exact call_int1 pins s σ H _ us Q I rs (.inl ⟨i, rfl, q.int⟩)
  | _ => cases e
def dataTy : D → Option String
  | .non => some "NoneType"
  | .bl _ => some "bool"
  | .int _ => some "int"
  | .str _ => some "str"
  | .tup _ => some "tuple"
  | .lst _ _ => some "list"
  | _ => none
theorem Rep.ty {x : D} {v : V} {as : List Addr} {t : String} (h : Rep P H x v as) (e : dataTy x = some t) : TyX P.K H v (.type t) := by
  cases h with
  | non => cases e; exact .base .non
  | bl b => cases e; exact .base (.bl b)
  | int i => cases e; exact .base (.int i)
  | str z => cases e; exact .base (.str z)
  | tup h r =>
    cases e
    rcases h with (h | ⟨o, h⟩) | ⟨o, its, n, h1, h2, _⟩
    · exact .base (.tup h)
    · exact .fTuple h
    · exact .kTuple h1 h2
  | lstF h r =>
    cases e
    rcases h with ⟨o, h⟩ | ⟨o, its, n, h1, h2, _⟩
    · exact .base (.frz h)
    · exact .kList h1 h2
  | lstO h r => cases e; exact .base (.lst h)
  | _ => cases e
theorem isTy_some {t : Ty} {x : D} {k : Bool} (e : isTy t x = some k) : ∃ n, dataTy x = some n ∧ kitB n (tyN t) = some k := by
  have f : ∀ n, dataTy x = some n → kitB n (tyN t) = isTy t x → ∃ n, dataTy x = some n ∧ kitB n (tyN t) = some k := fun n h1 h2 => ⟨n, h1, h2.trans e⟩
  cases x <;> first | (cases t <;> cases e; done) | (refine f _ rfl ?_; cases t <;> first | exact (show kitB _ _ = some true by decide +kernel) | exact (show kitB _ _ = some false by decide +kernel))
theorem call_isinQ (hK : X.K = P.K) (t : Ty) : CallR X (.builtin "isinstance") (rBlt P (.isin t)) := by
  intro pins s σ H xs us Q I rs h
  obtain ⟨ds, ws, as, d, h1, rfl, e, q⟩ := h
  obtain ⟨x, rfl⟩ := blt_one e
  obtain ⟨v, rfl, h2⟩ := one_of h1 rfl
  obtain ⟨k, e1, rfl⟩ := map_bl (show (isTy t x).map D.bl = some d from e)
  obtain ⟨n, e2, e3⟩ := isTy_some e1
  exact call_isi pins s σ H _ us Q I rs ⟨v, .ty (tyN t), .type n, .type (tyN t), k, rfl, .ty _, by rw [hK]; exact h2.ty e2, kit_ty e3, q.bl⟩
end
end Q

set_option Elab.async false
set_option linter.all false
set_option maxRecDepth 100000
/-! W7: expressions, one by one: from the readings of the parts to the reading of the whole. -/
namespace Q
open Snd
open PySem PySem.Spec PyProof.Rows L2

section
variable {P : RP} {F : FR} {W : WX} {g : G} {b : Below} {X : Cx} {a c e : E} {A1 A2 A3 : Expr} {pos : Pos} {σ : L2.St} {H : Hp} {Q : VK}
theorem Rep.frameE {H H' : Hp} {d : D} {v : V} (h : Rep P H d v []) (f : FixIn H H') : Rep P H' d v [] := h.frame f fun _ z => nomatch z
/-- a value that is there -/
theorem PostE.same {own : List Addr} {sl : Sl} {d : D} {v : V} (hp : e.pk = false) (s : Sim P F sl σ H own) (r : Rep P H d v []) : PostE P F g b e σ H own sl d v sl H own [] :=
  fin hp s .refl (fun _ => ⟨rfl, rfl, .refl⟩) (.same r)
/-- two operands, then an operation -/
theorem tE_op2 {f : D → D → Option D} {r : R2} (hr : ∀ x y H Q, (∃ d1 d2 as1 as2 d, Rep P H d1 x as1 ∧ Rep P H d2 y as2 ∧ f d1 d2 = some d ∧ RQ P d H Q) → r x y H Q)
    (hev : ∀ sl, ev g b e sl = (ev g b a sl).bind fun p => (ev g b c p.2).bind fun q => (R.of (f p.1 q.1)).bind fun d => .ok (d, q.2))
    (hp : e.pk = false) (hpu : e.pure = true → (a.pure && c.pure) = true) (k : ((!a.pk && !c.pk) || (a.pure && c.pure)) = true) (h : tE P F W g b e σ H Q) : tOp r (tE P F W g b a) (tE P F W g b c) σ H Q := by
  obtain ⟨sl, own, sim, h⟩ := h
  rw [hev] at h
  refine ⟨sl, own, sim, h.bind.mono fun p _ h v H1 own1 as1 p1 => ⟨p.2, own1, p1.sim, (h.bind.after p1.step).mono fun q _ h v2 H2 own2 as2 p2 => ?_⟩⟩
  obtain ⟨d, e', h⟩ := h.ofB
  have t := two p1 p2 k
  exact hr _ _ _ _ ⟨p.1, q.1, as1, as2, d, t.r1, t.r2, e', fun v3 H3 as3 n => h v3 H3 own2 as3 (fin hp t.sim t.step (fun z => t.pure (hpu z)) n)⟩
theorem s_bin {o : BOp} (hK : X.K = P.K) (h1 : PE X A1 (tE P F W g b a)) (h2 : PE X A2 (tE P F W g b c)) (k : ((!a.pk && !c.pk) || (a.pure && c.pure)) = true) : PE X (.BinOp A1 (opA o) A2 pos) (tE P F W g b (.bin o a c)) :=
  (pe_op (op_bin hK o) h1 h2).weak fun σ H Q h => tE_op2 (e := .bin o a c) (f := bin o) (fun _ _ _ _ x => x) (fun _ => rfl) rfl (fun z => z) k h
theorem s_cmp {o : COp} (hK : X.K = P.K) (hu : X.A.units + 65 < cLine) (h1 : PE X A1 (tE P F W g b a)) (h2 : PE X A2 (tE P F W g b c)) (k : ((!a.pk && !c.pk) || (a.pure && c.pure)) = true) (hm : behindInMarks (cmpA o) A2 = false) : PE X (.Compare A1 [cmpA o] [A2] pos) (tE P F W g b (.cmp o a c)) :=
  (pe_cmpR (op_cmp hK hu o) h1 h2 hm).weak fun σ H Q h => tE_op2 (e := .cmp o a c) (f := cmp o) (fun _ _ _ _ x => x) (fun _ => rfl) rfl (fun z => z) k h
/-- one operand, then an operation -/
theorem tE_op1 {f : D → Option D} {r : V → Hp → VK → Prop} (hr : ∀ x H Q, (∃ d1 as1 d, Rep P H d1 x as1 ∧ f d1 = some d ∧ RQ P d H Q) → r x H Q)
    (hev : ∀ sl, ev g b e sl = (ev g b a sl).bind fun p => (R.of (f p.1)).bind fun d => .ok (d, p.2))
    (hp : e.pk = false) (hpu : e.pure = true → a.pure = true) (h : tE P F W g b e σ H Q) : tUn r (tE P F W g b a) σ H Q := by
  obtain ⟨sl, own, sim, h⟩ := h
  rw [hev] at h
  refine ⟨sl, own, sim, h.bind.mono fun p _ h v H1 own1 as1 p1 => ?_⟩
  obtain ⟨d, e', h⟩ := h.ofB
  exact hr _ _ _ ⟨p.1, as1, d, p1.rep, e', fun v3 H3 as3 n => h v3 H3 own1 as3 (fin hp p1.sim p1.step (fun z => p1.pure (hpu z)) n)⟩
def negD : D → Option D
  | .int i => some (.int (-i))
  | _ => none
theorem s_neg (h1 : PE X A1 (tE P F W g b a)) : PE X (.UnaryOp .USub A1 pos) (tE P F W g b (.neg a)) :=
  (pe_un un_neg' h1).weak fun σ H Q h => tE_op1 (e := .neg a) (f := negD) (fun x H Q ⟨d1, as1, d, r, e, q⟩ => by cases d1 <;> cases e; exact ⟨_, as1, r, q⟩)
    (fun sl => by show (ev g b a sl).bind _ = _; congr 1; funext p; obtain ⟨d, sl⟩ := p; cases d <;> rfl) rfl (fun z => z) h
theorem s_rev {j : Nat} {p p1 p2 : Pos} (hK : X.K = P.K) (h1 : PE X A1 (tE P F W g b a)) : PE X (.Subscript A1 (.Slice none none (some (.UnaryOp .USub (.Constant (.int 1) j p) p1)) p2) pos) (tE P F W g b (.rev a)) :=
  (pe_revS h1).weak fun σ H Q h => by rw [hK]; exact tE_op1 (e := .rev a) (f := revD) (fun x H Q h => rev_of h) (fun _ => rfl) rfl (fun z => z) h
/-! names and constants -/
def constD : D → Const → Bool
  | .non, .none => true
  | .bl x, .bool y => x == y
  | .int i, .int j => i == j
  | .str x, .str y => decide (x = y)
  | _, _ => false
theorem s_c {d : D} {k : Const} {j : Nat} (h : constD d k = true) : PE X (.Constant k j pos) (tE P F W g b (.c d)) := by
  have go : ∀ (v : V), PE X (.Constant k j pos) (tC v) → (∀ H, Rep P H d v []) → PE X (.Constant k j pos) (tE P F W g b (.c d)) := fun v hp hr => hp.weak fun σ H Q ⟨sl, own, sim, h⟩ => h v H own [] (.same rfl sim (hr H))
  cases d <;> cases k <;> first | (cases h; done) | skip
  · exact go _ pe_non fun _ => .non
  · have e := eq_of_beq h; subst e; exact go _ pe_bl fun _ => .bl _
  · have e := eq_of_beq h; subst e; exact go _ pe_int fun _ => .int _
  · have e := of_decide_eq_true h; subst e; exact go _ pe_str fun _ => .str _
theorem s_var {i : Nat} {x : Str} (hN : X.N[i]? = some x) (hv : Vis X.env.scope x) (hd : (x == ("__debug__" : Str)) = false) (hcd : (x == ("__classdict__" : Str)) = false) : PE X (.Name x pos) (tE P F W g b (.var i)) :=
  (pe_var hN hv hd hcd).weak fun σ H Q ⟨sl, own, sim, h⟩ => by
    obtain ⟨d, e, h⟩ := h.ofB
    split at h
    · rename_i f
      obtain ⟨v, as, pre, post, h1, h2, h3, _⟩ := sim.r.at e
      exact ⟨v, h1, h v H own [] (.same rfl sim (h2.fz f))⟩
    · exact h.elim
theorem Sim.xsN {sl : Sl} {own own' : List Addr} {σ' : L2.St} {H' : Hp} {i : Nat} {d : Option D} (s : Sim P F sl σ H own) (f : FixIn H H') (hd : ∀ c fs, d ≠ some (.xc c fs)) : ∀ j c fs, getX j (sl.set i d) = some (.xc c fs) → ∃ dd, (j, dd) ∈ F.xs ∧ XRep P H' c fs dd := fun j c fs e => by
  rcases getX_set e with ⟨_, z⟩ | z
  · exact absurd z (hd c fs)
  · obtain ⟨dd, h1, h2⟩ := s.xs j c fs z
    exact ⟨dd, h1, h2.fix f⟩
theorem set_same {σ : L2.St} {i : Nat} {x : Option V} (h : σ[i]? = some x) : σ.set i x = σ := by
  apply List.ext_getElem?
  intro j
  by_cases e : i = j
  · subst e
    rw [List.getElem?_set_self (by exact (List.getElem?_eq_some_iff.mp h).1), h]
  · rw [List.getElem?_set_ne e]
theorem s_move {i : Nat} {x : Str} (hN : X.N[i]? = some x) (hv : Vis X.env.scope x) (hd : (x == ("__debug__" : Str)) = false) (hcd : (x == ("__classdict__" : Str)) = false) : PE X (.Name x pos) (tE P F W g b (.move i)) :=
  (pe_var hN hv hd hcd).weak fun σ H Q ⟨sl, own, sim, h⟩ => by
    obtain ⟨d, e, h⟩ := h.ofB
    obtain ⟨v, as, pre, post, h1, h2, h3, h4, h5, h6⟩ := sim.r.at e
    have r5 := h5 (H2 := H) (x := some v) FixIn.refl (fun _ _ => rfl)
    rw [set_same h1] at r5
    have nd := sim.nd
    rw [h3] at nd
    have sub : ∀ a ∈ pre ++ post, a ∈ own := fun a z => by
      rw [h3]; rcases List.mem_append.mp z with z | z <;> simp [z]
    have st : Step own H H (pre ++ post) := ⟨fun _ _ h _ _ => h, fun _ ps h => ⟨ps, h⟩, fun a z => .inl (sub a z)⟩
    have nd2 : (as ++ (pre ++ post)).Nodup := (List.Perm.nodup_iff (by
      have : (pre ++ as ++ post).Perm (as ++ pre ++ post) := List.Perm.append_right _ List.perm_append_comm
      simpa using this)).mp nd
    refine ⟨v, h1, h v H (pre ++ post) as ⟨⟨r5, (List.nodup_append.mp nd2).2.1, sim.tabs, sim.io, sim.bas.step st, sim.xsN (own' := own) (σ' := σ) FixIn.refl (fun _ _ z => (nomatch z))⟩, h2, st, fun _ => ⟨nd2, fun a z => .inl ?_⟩, fun z => (nomatch z), fun i z => (nomatch z), fun z => (nomatch z)⟩⟩
    rw [h3]; simp [z]
theorem s_peek {i : Nat} {x : Str} (hN : X.N[i]? = some x) (hv : Vis X.env.scope x) (hd : (x == ("__debug__" : Str)) = false) (hcd : (x == ("__classdict__" : Str)) = false) : PE X (.Name x pos) (tE P F W g b (.peek i)) :=
  (pe_var hN hv hd hcd).weak fun σ H Q ⟨sl, own, sim, h⟩ => by
    obtain ⟨d, e, h⟩ := h.ofB
    obtain ⟨v, as, pre, post, h1, h2, h3, h4, _⟩ := sim.r.at e
    refine ⟨v, h1, h v H own as ⟨sim, h2, .refl, fun z => (nomatch z), fun _ => ⟨pre, post, h3, fun H2 d2 as2 sl2 f k r2 e2 => ?_⟩, fun j z => (by cases z; exact h1), fun _ => ⟨rfl, rfl, .refl⟩⟩⟩
    cases e2
    exact h4 f k r2
theorem s_idx (hK : X.K = P.K) (hu : X.A.units + 1 < cLine) (h1 : PE X A1 (tE P F W g b a)) (h2 : PE X A2 (tE P F W g b c)) (k : ((!a.pk && !c.pk) || (a.pure && c.pure)) = true) (hs : PlainIx A2) : PE X (.Subscript A1 A2 pos) (tE P F W g b (.idx a c)) :=
  (pe_ix (ix_itm hK hu) h1 h2 hs).weak fun σ H Q ⟨sl, own, sim, h⟩ => by
    refine ⟨sl, own, sim, (Res.bind h).mono fun p _ h v H1 own1 as1 p1 => ⟨p.2, own1, p1.sim, (h.bind.after p1.step).mono fun q _ h v2 H2 own2 as2 p2 => ?_⟩⟩
    obtain ⟨d, e', h⟩ := h.ofB
    have t := two p1 p2 k
    split at h
    · rename_i f
      exact ⟨p.1, q.1, as1, as2, d, t.r1, t.r2, e', fun v3 as3 it => h v3 H2 own2 [] (fin rfl t.sim t.step t.pure (.same (it.1.fz f)))⟩
    · exact h.elim
theorem s_bidx (hK : X.K = P.K) (hu : X.A.units + 1 < cLine) (h1 : PE X A1 (tE P F W g b a)) (h2 : PE X A2 (tE P F W g b c)) (ka : a.pk = true) (k1 : a.pure = true) (k2 : c.pure = true) (hs : PlainIx A2) : PE X (.Subscript A1 A2 pos) (tE P F W g b (.bidx a c)) :=
  (pe_ix (ix_itm hK hu) h1 h2 hs).weak fun σ H Q ⟨sl, own, sim, h⟩ => by
    refine ⟨sl, own, sim, (Res.bind h).mono fun p ea h v H1 own1 as1 p1 => ⟨p.2, own1, p1.sim, (h.bind.after p1.step).mono fun q ec h v2 H2 own2 as2 p2 => ?_⟩⟩
    obtain ⟨d, e', h⟩ := h.ofB
    have t := two p1 p2 (by rw [k1, k2]; simp)
    refine ⟨p.1, q.1, as1, as2, d, t.r1, t.r2, e', fun v3 as3 it => h v3 H2 own2 as3 ⟨t.sim, it.1, t.step, fun z => (nomatch z), fun _ => ?_, fun i z => (nomatch z), fun _ => t.pure (by rw [k1, k2]; rfl)⟩⟩
    obtain ⟨b1, b2, b3⟩ := p1.pure k1
    obtain ⟨c1, c2, c3⟩ := p2.pure k2
    obtain ⟨r3, pre2, post2, e3, put3⟩ := it
    obtain ⟨pre, post, e1, foc⟩ := p1.foc ka
    refine ⟨pre ++ pre2, post2 ++ post, by rw [c2, e1, e3]; simp, fun H3 d3 as4 sl3 f k3 r4 e4 => ?_⟩
    have esl : q.2 = sl := c1.trans b1
    have ec' : ev g b c sl = .ok q := by rw [← b1]; exact ec
    rw [esl] at e4
    simp only [pkPut, ea, b1, ec'] at e4
    cases e5 : putItem p.1 q.1 d3 with
    | none => rw [e5] at e4; cases e4
    | some d4 =>
      rw [e5] at e4
      simp only [Option.bind_some] at e4
      have mem : ∀ x ∈ pre2 ++ post2, x ∈ (pre ++ pre2) ++ (post2 ++ post) := fun x z => by
        rcases List.mem_append.mp z with z | z <;> simp [z]
      have r5 := put3 H3 d3 d4 as4 f (fun x z => k3 x (mem x z)) r4 e5
      have ok1 := p1.sim.r.own
      have hH : ∀ x ∈ pre ++ post, H3 x = H1 x := fun x z => by
        have z1 : x ∈ own1 := by rw [e1]; rcases List.mem_append.mp z with z | z <;> simp [z]
        rw [k3 x (by rcases List.mem_append.mp z with z | z <;> simp [z])]
        exact c3.at ok1 x z1
      have := foc H3 d4 (pre2 ++ as4 ++ post2) sl3 (c3.fix.trans f) hH r5 (by rw [b1]; exact e4)
      simpa using this
theorem two3 {e1 e2 e3 : E} {σ : L2.St} {H H1 H2 H3 : Hp} {own own1 own2 own3 as1 as2 as3 : List Addr} {sl sl1 sl2 sl3 : Sl} {d1 d2 d3 : D} {v1 v2 v3 : V} (a : PostE P F g b e1 σ H own sl d1 v1 sl1 H1 own1 as1) (a2 : PostE P F g b e2 σ H1 own1 sl1 d2 v2 sl2 H2 own2 as2) (a3 : PostE P F g b e3 σ H2 own2 sl2 d3 v3 sl3 H3 own3 as3)
    (k : ((!e2.pk && !e3.pk) || (e2.pure && e3.pure)) = true) : Rep P H3 d2 v2 as2 ∧ Rep P H3 d3 v3 as3 ∧ Step own H H3 own3 := by
  have t := two a2 a3 k
  exact ⟨t.r1, t.r2, a.step.trans t.step⟩
theorem cmp_bl {o : COp} {x y d : D} (e : cmp o x y = some d) : ∃ k, d = .bl k := by
  cases o with
  | eq => obtain ⟨k, _, rfl⟩ := map_bl (show (eqD x y).map D.bl = some d by cases x <;> cases y <;> exact e); exact ⟨_, rfl⟩
  | ne => obtain ⟨k, _, rfl⟩ := map_bl (show (eqD x y).map (fun k => D.bl (!k)) = some d by cases x <;> cases y <;> exact e); exact ⟨_, rfl⟩
  | mem =>
    cases y with
    | tup xs => obtain ⟨k, _, rfl⟩ := map_bl (show (memD x xs).map D.bl = some d by cases x <;> exact e); exact ⟨_, rfl⟩
    | lst m xs => obtain ⟨k, _, rfl⟩ := map_bl (show (memD x xs).map D.bl = some d by cases x <;> exact e); exact ⟨_, rfl⟩
    | _ => cases x <;> cases e
  | nmem =>
    cases y with
    | tup xs => obtain ⟨k, _, rfl⟩ := map_bl (show (memD x xs).map (fun k => D.bl (!k)) = some d by cases x <;> exact e); exact ⟨_, rfl⟩
    | lst m xs => obtain ⟨k, _, rfl⟩ := map_bl (show (memD x xs).map (fun k => D.bl (!k)) = some d by cases x <;> exact e); exact ⟨_, rfl⟩
    | _ => cases x <;> cases e
  | _ => cases x <;> cases y <;> first | (cases e; done) | (cases e; exact ⟨_, rfl⟩)
/-- a chain of two comparisons: no peeks -/
theorem chn_read {o1 o2 : COp} {x : E} (k1 : a.pk = false) (k2 : c.pk = false) (k3 : x.pk = false) {σ : L2.St} {H : Hp} {Q : VK} (h : tE P F W g b (.chn o1 o2 a c x) σ H Q) : tChain (rCmp P o1) (rCmp P o2) (tE P F W g b a) (tE P F W g b c) (tE P F W g b x) σ H Q := by
  obtain ⟨sl, own, sim, h⟩ := h
  refine ⟨sl, own, sim, (Res.bind h).mono fun p _ h v H1 own1 as1 p1 => ⟨p.2, own1, p1.sim, (h.bind.after p1.step).mono fun q _ h v2 H2 own2 as2 p2 => ?_⟩⟩
  obtain ⟨d, e', h⟩ := h.ofB
  have t := two p1 p2 (by rw [k1, k2]; rfl)
  obtain ⟨kb, rfl⟩ := cmp_bl e'
  refine ⟨p.1, q.1, as1, as2, _, t.r1, t.r2, e', fun v3 H3 as3 n => ?_⟩
  cases n.rep
  refine ⟨kb, rfl, ?_⟩
  have s3 : Step own H H3 own2 := t.step.trans n.grow.step
  cases kb with
  | false => exact h (.bl false) H3 own2 [] (fin rfl t.sim t.step (fun z => t.pure (by simp only [E.pure, Bool.and_eq_true] at z ⊢; exact z.1)) ⟨.bl _, n.grow, fun _ z => (nomatch z), List.nodup_nil⟩)
  | true =>
    refine ⟨q.2, own2, t.sim.grow n.grow, (Res.after s3 (Res.bind h)).mono fun r _ h w H4 own4 as4 p4 => ?_⟩
    obtain ⟨d2, e2, h⟩ := h.ofB
    have p2' : PostE P F g b c σ H1 own1 p.2 q.1 v2 q.2 H3 own2 as2 := by
      obtain ⟨f1, f2⟩ := p2.fresh k2
      refine ⟨p2.sim.grow n.grow, p2.rep.frame n.grow.fix (n.grow.at p2.rep.own), p2.step.trans n.grow.step, fun _ => ⟨f1, f2⟩, fun z => absurd z (by rw [k2]; exact Bool.false_ne_true), fun i z => (by rw [z] at k2; cases k2), fun z => ?_⟩
      obtain ⟨z1, z2, z3⟩ := p2.pure z
      exact ⟨z1, z2, z3.trans n.grow.ext⟩
    have t2 := two p2' p4 (by rw [k2, k3]; rfl)
    refine ⟨q.1, r.1, as2, as4, d2, t2.r1, t2.r2, e2, fun v5 H5 as5 n5 => h v5 H5 own4 as5 (fin rfl t2.sim ?_ (fun z => ?_) n5)⟩
    · exact p1.step.trans t2.step
    · simp only [E.pure, Bool.and_eq_true] at z
      obtain ⟨y1, y2, y3⟩ := p1.pure z.1.1
      obtain ⟨x1, x2, x3⟩ := t2.pure (by rw [z.1.2, z.2]; rfl)
      exact ⟨x1.trans y1, x2.trans y2, y3.trans x3⟩
theorem s_chn {o1 o2 : COp} {x : E} (hK : X.K = P.K) (hu : X.A.units + 65 < cLine) (h1 : PE X A1 (tE P F W g b a)) (h2 : PE X A2 (tE P F W g b c)) (h3 : PE X A3 (tE P F W g b x)) (k1 : a.pk = false) (k2 : c.pk = false) (k3 : x.pk = false) (hm : lastMarks [cmpA o1, cmpA o2] [A2, A3] = false) :
    PE X (.Compare A1 [cmpA o1, cmpA o2] [A2, A3] pos) (tE P F W g b (.chn o1 o2 a c x)) :=
  (pe_chain (op_cmp hK hu o1) (op_cmp hK hu o2) h1 h2 h3 hm).weak fun σ H Q h => chn_read k1 k2 k3 h
end
end Q

set_option Elab.async false
set_option linter.all false
set_option maxRecDepth 100000
/-! W8: and, or, not, choices; tests. -/
namespace Q
open Snd
open PySem PySem.Spec PyProof.Rows L2

/-- a test of Q -/
def tst (g : G) (b : Below) (e : E) : Sl → R (Bool × Sl) := fun sl => (ev g b e sl).bind fun p => (R.of (truth p.1)).bind fun k => .ok (k, p.2)
section
variable {P : RP} {F : FR} {W : WX} {g : G} {b : Below} {X : Cx} {a c e t : E} {A1 A2 A3 : Expr} {pos : Pos} {rest : List Expr}
abbrev TQ (P : RP) (F : FR) (W : WX) (g : G) (b : Below) (e : E) : TT := tT P F W e.pure (tst g b e)
theorem tT_after {σ : L2.St} {H H1 : Hp} {own own1 : List Addr} {sl sl1 : Sl} {pur pu1 pu2 : Bool} (hp : pur = true → pu1 = true ∧ pu2 = true) (st : Step own H H1 own1) (p1 : pu1 = true → sl1 = sl ∧ own1 = own ∧ Ext H H1) {H2 : Hp} {own2 : List Addr} {sl2 : Sl} (p2 : PostT P F pu2 σ H1 own1 sl1 sl2 H2 own2) :
    PostT P F pur σ H own sl sl2 H2 own2 := ⟨p2.sim, st.trans p2.step, fun z => by
  obtain ⟨z1, z2⟩ := hp z
  obtain ⟨a1, a2, a3⟩ := p1 z1
  obtain ⟨b1, b2, b3⟩ := p2.pure z2
  exact ⟨b1.trans a1, b2.trans a2, a3.trans b3⟩⟩
theorem PostE.tst {σ : L2.St} {H H1 : Hp} {own own1 as : List Addr} {sl sl1 : Sl} {d : D} {v : V} (p : PostE P F g b e σ H own sl d v sl1 H1 own1 as) : PostT P F e.pure σ H own sl sl1 H1 own1 := ⟨p.sim, p.step, p.pure⟩
/-- a value behind another value -/
theorem PostE.after {σ : L2.St} {H H1 H2 : Hp} {own own1 own2 as : List Addr} {sl sl1 sl2 : Sl} {d : D} {v : V} {e1 e2 : E} {pu1 : Bool} (st : Step own H H1 own1) (p1 : pu1 = true → sl1 = sl ∧ own1 = own ∧ Ext H H1) (k1 : e1.pk = false) (k2 : e2.pk = false) (hp : e1.pure = true → pu1 = true ∧ e2.pure = true)
    (p : PostE P F g b e2 σ H1 own1 sl1 d v sl2 H2 own2 as) : PostE P F g b e1 σ H own sl d v sl2 H2 own2 as := by
  obtain ⟨f1, f2⟩ := p.fresh k2
  refine ⟨p.sim, p.rep, st.trans p.step, fun _ => ⟨f1, fun x z => ?_⟩, fun z => (by rw [k1] at z; cases z), fun i z => (by rw [z] at k1; cases k1), fun z => ?_⟩
  · rcases f2 x z with z | z
    · exact st.new x z
    · exact st.back z
  · obtain ⟨z1, z2⟩ := hp z
    obtain ⟨a1, a2, a3⟩ := p1 z1
    obtain ⟨b1, b2, b3⟩ := p.pure z2
    exact ⟨b1.trans a1, b2.trans a2, a3.trans b3⟩
/-! values -/
theorem and2 {z : Bool × Bool} (h : (z.1 && z.2) = true) : z.1 = true ∧ z.2 = true := Bool.and_eq_true_iff.mp h
theorem s_and (hK : X.K = P.K) (h1 : PE X A1 (tE P F W g b a)) (h2 : PE X (.BoolOp .And (A2 :: rest) pos) (tE P F W g b c)) (k1 : a.pk = false) (k2 : c.pk = false) : PE X (.BoolOp .And (A1 :: A2 :: rest) pos) (tE P F W g b (.and a c)) :=
  (pe_andT h1 h2).weak fun σ H Q ⟨sl, own, sim, h⟩ => by
    refine ⟨sl, own, sim, (Res.bind h).mono fun p _ h v H1 own1 as1 p1 => ?_⟩
    obtain ⟨k, e, h⟩ := h.ofB
    refine ⟨k, by rw [hK]; exact p1.rep.tru e, ?_⟩
    cases k with
    | true => exact ⟨p.2, own1, p1.sim, (Res.after p1.step h).mono fun q _ h v2 H2 own2 as2 p2 => h v2 H2 own2 as2 (p2.after p1.step p1.pure rfl k2 fun z => and2 (z := (_, _)) z)⟩
    | false =>
      obtain ⟨f1, f2⟩ := p1.fresh k1
      exact h v H1 own1 as1 ⟨p1.sim, p1.rep, p1.step, fun _ => ⟨f1, f2⟩, fun z => (nomatch z), fun i z => (nomatch z), fun z => p1.pure (and2 (z := (_, _)) z).1⟩
theorem s_or (hK : X.K = P.K) (h1 : PE X A1 (tE P F W g b a)) (h2 : PE X (.BoolOp .Or (A2 :: rest) pos) (tE P F W g b c)) (k1 : a.pk = false) (k2 : c.pk = false) : PE X (.BoolOp .Or (A1 :: A2 :: rest) pos) (tE P F W g b (.or a c)) :=
  (pe_orT h1 h2).weak fun σ H Q ⟨sl, own, sim, h⟩ => by
    refine ⟨sl, own, sim, (Res.bind h).mono fun p _ h v H1 own1 as1 p1 => ?_⟩
    obtain ⟨k, e, h⟩ := h.ofB
    refine ⟨k, by rw [hK]; exact p1.rep.tru e, ?_⟩
    cases k with
    | false => exact ⟨p.2, own1, p1.sim, (Res.after p1.step h).mono fun q _ h v2 H2 own2 as2 p2 => h v2 H2 own2 as2 (p2.after p1.step p1.pure rfl k2 fun z => and2 (z := (_, _)) z)⟩
    | true =>
      obtain ⟨f1, f2⟩ := p1.fresh k1
      exact h v H1 own1 as1 ⟨p1.sim, p1.rep, p1.step, fun _ => ⟨f1, f2⟩, fun z => (nomatch z), fun i z => (nomatch z), fun z => p1.pure (and2 (z := (_, _)) z).1⟩
theorem s_not (hK : X.K = P.K) (h1 : PE X A1 (tE P F W g b a)) : PE X (.UnaryOp .Not A1 pos) (tE P F W g b (.not a)) :=
  (pe_notT h1).weak fun σ H Q ⟨sl, own, sim, h⟩ => by
    refine ⟨sl, own, sim, (Res.bind h).mono fun p _ h v H1 own1 as1 p1 => ?_⟩
    obtain ⟨k, e, h⟩ := h.ofB
    exact ⟨k, by rw [hK]; exact p1.rep.tru e, h (.bl (!k)) H1 own1 [] (fin rfl p1.sim p1.step p1.pure (.same (.bl _)))⟩
theorem ev_ifx (sl : Sl) : ev g b (.ifx t a c) sl = (tst g b t sl).bind fun p => match p.1 with | true => ev g b a p.2 | false => ev g b c p.2 := by
  unfold tst
  cases m : ev g b t sl with
  | ok p =>
    simp only [ev, m, R.bind]
    cases m2 : truth p.1 with
    | none => simp only [R.of]
    | some k => cases k <;> rfl
  | exc x fs s => simp only [ev, m, R.bind]
  | bad => simp only [ev, m, R.bind]
theorem s_ifx (h0 : PT X A3 (TQ P F W g b t)) (h1 : PE X A1 (tE P F W g b a)) (h2 : PE X A2 (tE P F W g b c)) (k1 : a.pk = false) (k2 : c.pk = false) : PE X (.IfExp A3 A1 A2 pos) (tE P F W g b (.ifx t a c)) :=
  (pe_ifExp h0 h1 h2).weak fun σ H Q ⟨sl, own, sim, h⟩ => by
    rw [ev_ifx] at h
    refine ⟨sl, own, sim, h.bind.mono fun p _ h H1 own1 p1 => ?_⟩
    obtain ⟨kb, sl1⟩ := p
    cases kb with
    | true =>
      exact ⟨sl1, own1, p1.sim, (Res.after p1.step h).mono fun q _ h v2 H2 own2 as2 p2 => h v2 H2 own2 as2 (p2.after p1.step p1.pure rfl k1 fun z => by
        simp only [E.pure, Bool.and_eq_true] at z; exact ⟨z.1.1, z.1.2⟩)⟩
    | false =>
      exact ⟨sl1, own1, p1.sim, (Res.after p1.step h).mono fun q _ h v2 H2 own2 as2 p2 => h v2 H2 own2 as2 (p2.after p1.step p1.pure rfl k2 fun z => by
        simp only [E.pure, Bool.and_eq_true] at z; exact ⟨z.1.1, z.2⟩)⟩
/-! tests -/
theorem t_plain (hK : X.K = P.K) (h1 : PE X A1 (tE P F W g b a)) (he : ∀ whole, isTrue A1 X.env whole = (do let v ← whole; standAt A1.pos; holding [v] (truthy v))) : PT X A1 (TQ P F W g b a) :=
  (pt_truth h1 he).weak fun σ H Q ⟨sl, own, sim, h⟩ => by
    refine ⟨sl, own, sim, (Res.bind h).mono fun p _ h v H1 own1 as1 p1 => ?_⟩
    obtain ⟨k, e, h⟩ := h.ofB
    exact ⟨k, by rw [hK]; exact p1.rep.tru e, h H1 own1 p1.tst⟩
theorem tst_not (sl : Sl) : tst g b (.not a) sl = (tst g b a sl).bind fun p => .ok (!p.1, p.2) := by
  unfold tst
  cases m : ev g b a sl with
  | ok p =>
    simp only [ev, m, R.bind]
    cases m2 : truth p.1 with
    | none => simp only [R.of]
    | some k => simp only [R.of, truth]
  | exc x fs s => simp only [ev, m, R.bind]
  | bad => simp only [ev, m, R.bind]
theorem t_not (h1 : PT X A1 (TQ P F W g b a)) : PT X (.UnaryOp .Not A1 pos) (TQ P F W g b (.not a)) :=
  (pt_not h1).weak fun σ H Q ⟨sl, own, sim, h⟩ => by
    rw [tst_not] at h
    exact ⟨sl, own, sim, h.bind.mono fun p _ h H1 own1 p1 => h H1 own1 ⟨p1.sim, p1.step, p1.pure⟩⟩
theorem tst_and (sl : Sl) : tst g b (.and a c) sl = (tst g b a sl).bind fun p => match p.1 with | true => tst g b c p.2 | false => .ok (false, p.2) := by
  unfold tst
  cases m : ev g b a sl with
  | ok p =>
    simp only [ev, m, R.bind]
    cases m2 : truth p.1 with
    | none => simp only [R.of]
    | some k => cases k <;> simp only [R.of, m2]
  | exc x fs s => simp only [ev, m, R.bind]
  | bad => simp only [ev, m, R.bind]
theorem tst_or (sl : Sl) : tst g b (.or a c) sl = (tst g b a sl).bind fun p => match p.1 with | false => tst g b c p.2 | true => .ok (true, p.2) := by
  unfold tst
  cases m : ev g b a sl with
  | ok p =>
    simp only [ev, m, R.bind]
    cases m2 : truth p.1 with
    | none => simp only [R.of]
    | some k => cases k <;> simp only [R.of, m2]
  | exc x fs s => simp only [ev, m, R.bind]
  | bad => simp only [ev, m, R.bind]
theorem t_and_read {σ : L2.St} {H : Hp} {Q : Bool → Hp → Prop} (h : TQ P F W g b (.and a c) σ H Q) : tAnd (TQ P F W g b a) (TQ P F W g b c) σ H Q := by
  obtain ⟨sl, own, sim, h⟩ := h
  rw [tst_and] at h
  refine ⟨sl, own, sim, h.bind.mono fun p _ h H1 own1 p1 => ?_⟩
  obtain ⟨kb, sl1⟩ := p
  cases kb with
  | true => exact ⟨sl1, own1, p1.sim, (Res.after p1.step h).mono fun q _ h H2 own2 p2 => h H2 own2 (tT_after (fun z => and2 (z := (_, _)) z) p1.step p1.pure p2)⟩
  | false => exact h H1 own1 ⟨p1.sim, p1.step, fun z => p1.pure (and2 (z := (_, _)) z).1⟩
theorem t_or_read {σ : L2.St} {H : Hp} {Q : Bool → Hp → Prop} (h : TQ P F W g b (.or a c) σ H Q) : tOr (TQ P F W g b a) (TQ P F W g b c) σ H Q := by
  obtain ⟨sl, own, sim, h⟩ := h
  rw [tst_or] at h
  refine ⟨sl, own, sim, h.bind.mono fun p _ h H1 own1 p1 => ?_⟩
  obtain ⟨kb, sl1⟩ := p
  cases kb with
  | false => exact ⟨sl1, own1, p1.sim, (Res.after p1.step h).mono fun q _ h H2 own2 p2 => h H2 own2 (tT_after (fun z => and2 (z := (_, _)) z) p1.step p1.pure p2)⟩
  | true => exact h H1 own1 ⟨p1.sim, p1.step, fun z => p1.pure (and2 (z := (_, _)) z).1⟩
theorem _root_.L2.PW.weak {e : Expr} {t t' : TT} (h : PW X e t) (k : ∀ σ H Q, t' σ H Q → t σ H Q) : PW X e t' := ⟨fun wh pins s σ H Q I q => h.run wh pins s σ H Q I (k σ H Q q)⟩
theorem t_and (h1 : PT X A1 (TQ P F W g b a)) (h2 : PW X (.BoolOp .And (A2 :: rest) pos) (TQ P F W g b c)) : PW X (.BoolOp .And (A1 :: A2 :: rest) pos) (TQ P F W g b (.and a c)) := (pw_and h1 h2).weak fun _ _ _ h => t_and_read h
theorem t_or (h1 : PT X A1 (TQ P F W g b a)) (h2 : PW X (.BoolOp .Or (A2 :: rest) pos) (TQ P F W g b c)) : PW X (.BoolOp .Or (A1 :: A2 :: rest) pos) (TQ P F W g b (.or a c)) := (pw_or h1 h2).weak fun _ _ _ h => t_or_read h
/-- a comparison as a test, by the reading of its value -/
theorem tTest_of {te : TE} {e : E} {σ : L2.St} {H : Hp} {Q : Bool → Hp → Prop} (hb : ∀ sl p, ev g b e sl = .ok p → ∃ k, p.1 = .bl k) (hk : e.pk = false) (hr : ∀ Q, tE P F W g b e σ H Q → te σ H Q) (h : TQ P F W g b e σ H Q) : tTest te σ H Q := by
  refine hr _ ?_
  obtain ⟨sl, own, sim, h⟩ := h
  refine ⟨sl, own, sim, (Res.bind h).mono fun p ep h v H1 own1 as1 p1 => ?_⟩
  obtain ⟨k, e', h⟩ := h.ofB
  obtain ⟨k', ek⟩ := hb sl p ep
  have r := p1.rep
  rw [ek] at r e'
  cases r
  cases e'
  exact ⟨_, rfl, h H1 own1 p1.tst⟩
theorem ev_cmp_bl {o : COp} {sl : Sl} {p : D × Sl} (h : ev g b (.cmp o a c) sl = .ok p) : ∃ k, p.1 = .bl k := by
  simp only [ev] at h
  cases m : ev g b a sl with
  | ok p1 =>
    simp only [m, R.bind] at h
    cases m2 : ev g b c p1.2 with
    | ok p2 =>
      simp only [m2] at h
      cases m3 : cmp o p1.1 p2.1 with
      | none => simp only [m3, R.of] at h; cases h
      | some d =>
        simp only [m3, R.of] at h
        cases h
        exact cmp_bl m3
    | exc x fs s => simp only [m2] at h; cases h
    | bad => simp only [m2] at h; cases h
  | exc x fs s => simp only [m, R.bind] at h; cases h
  | bad => simp only [m, R.bind] at h; cases h
theorem t_cmp {o : COp} (hK : X.K = P.K) (hu : X.A.units + 65 < cLine) (h1 : PE X A1 (tE P F W g b a)) (h2 : PE X A2 (tE P F W g b c)) (k : ((!a.pk && !c.pk) || (a.pure && c.pure)) = true) (hm : behindInMarks (cmpA o) A2 = false) : PT X (.Compare A1 [cmpA o] [A2] pos) (TQ P F W g b (.cmp o a c)) :=
  (pt_cmpR (op_cmp hK hu o) h1 h2 hm).weak fun σ H Q h => tTest_of (e := .cmp o a c) (fun _ _ h => ev_cmp_bl h) rfl (fun _ h => tE_op2 (e := .cmp o a c) (f := cmp o) (fun _ _ _ _ x => x) (fun _ => rfl) rfl (fun z => z) k h) h
theorem ev_chn_bl {o1 o2 : COp} {x : E} {sl : Sl} {p : D × Sl} (h : ev g b (.chn o1 o2 a c x) sl = .ok p) : ∃ k, p.1 = .bl k := by
  simp only [ev] at h
  cases m : ev g b a sl with
  | ok p1 =>
    simp only [m, R.bind] at h
    cases m2 : ev g b c p1.2 with
    | ok p2 =>
      simp only [m2] at h
      cases m3 : cmp o1 p1.1 p2.1 with
      | none => simp only [m3, R.of] at h; cases h
      | some d =>
        obtain ⟨k, rfl⟩ := cmp_bl m3
        simp only [m3, R.of] at h
        cases k with
        | false => cases h; exact ⟨_, rfl⟩
        | true =>
          simp only at h
          cases m4 : ev g b x p2.2 with
          | ok p3 =>
            simp only [m4] at h
            cases m5 : cmp o2 p2.1 p3.1 with
            | none => simp only [m5] at h; cases h
            | some d2 => simp only [m5] at h; cases h; exact cmp_bl m5
          | exc x fs s => simp only [m4] at h; cases h
          | bad => simp only [m4] at h; cases h
    | exc x fs s => simp only [m2] at h; cases h
    | bad => simp only [m2] at h; cases h
  | exc x fs s => simp only [m, R.bind] at h; cases h
  | bad => simp only [m, R.bind] at h; cases h
theorem t_chn {o1 o2 : COp} {x : E} (hK : X.K = P.K) (hu : X.A.units + 65 < cLine) (h1 : PE X A1 (tE P F W g b a)) (h2 : PE X A2 (tE P F W g b c)) (h3 : PE X A3 (tE P F W g b x)) (k1 : a.pk = false) (k2 : c.pk = false) (k3 : x.pk = false) (hm : lastMarks [cmpA o1, cmpA o2] [A2, A3] = false) :
    PT X (.Compare A1 [cmpA o1, cmpA o2] [A2, A3] pos) (TQ P F W g b (.chn o1 o2 a c x)) :=
  (pt_chain (op_cmp hK hu o1) (op_cmp hK hu o2) h1 h2 h3 hm).weak fun σ H Q h => tTest_of (e := .chn o1 o2 a c x) (fun _ _ h => ev_chn_bl h) rfl (fun _ h => chn_read k1 k2 k3 h) h
end
end Q

set_option Elab.async false
set_option linter.all false
set_option maxRecDepth 100000
/-! W9: argument lists, displays, slices, built-ins. -/
namespace Q
open Snd
open PySem PySem.Spec PyProof.Rows L2

/-- arguments: values, or what stands at a slot -/
inductive AR (P : RP) (H : Hp) (σ : L2.St) : List E → List D → List V → List Addr → Prop
  | nil : AR P H σ [] [] [] []
  | val {e : E} {es : List E} {d : D} {ds : List D} {v : V} {vs : List V} {as bs : List Addr} (k : e.pk = false) (h : Rep P H d v as) (r : AR P H σ es ds vs bs) : AR P H σ (e :: es) (d :: ds) (v :: vs) (as ++ bs)
  | pk {i : Nat} {es : List E} {d : D} {ds : List D} {v : V} {vs : List V} {bs : List Addr} (h : σ[i]? = some (some v)) (r : AR P H σ es ds vs bs) : AR P H σ (.peek i :: es) (d :: ds) (v :: vs) bs
structure PostA (P : RP) (F : FR) (σ : L2.St) (H : Hp) (own : List Addr) (es : List E) (sl : Sl) (ds : List D) (vs : List V) (sl' : Sl) (H' : Hp) (own' as : List Addr) : Prop where
  sim : Sim P F sl' σ H' own'
  ar : AR P H' σ es ds vs as
  step : Step own H H' own'
  nd : (as ++ own').Nodup
  new : ∀ a ∈ as, a ∈ own ∨ H a = none
  pure : E.pures es = true → sl' = sl ∧ own' = own ∧ Ext H H'
def tAr (P : RP) (F : FR) (W : WX) (g : G) (b : Below) (es : List E) : TA := fun σ H Q => ∃ sl own, Sim P F sl σ H own ∧ Res P F W σ H own (evs g b es sl) fun p => ∀ vs H' own' as, PostA P F σ H own es sl p.1 vs p.2 H' own' as → Q vs H'
def plainA : Expr → Bool
  | .Starred .. => false
  | .Slice .. => false
  | _ => true
theorem star_plain {A : Expr} {As : List Expr} {env : Env} (h : plainA A = true) : starEach (A :: As) env = (false, eval A env) :: starEach As env := by
  cases A <;> first | rfl | cases h
theorem ix_plain {A : Expr} (h : plainA A = true) : PlainIx A := fun o i => by
  cases A <;> first | rfl | cases h
def isPeek : E → Bool
  | .peek _ => true
  | _ => false
section
variable {P : RP} {σ : L2.St} {H H1 : Hp} {es : List E}
theorem AR.own {ds : List D} {vs : List V} {as : List Addr} (h : AR P H σ es ds vs as) : OwnOk H as := by
  induction h with
  | nil => exact fun _ z => nomatch z
  | val k h r ih => exact fun a z => (List.mem_append.mp z).elim (fun z => h.own a z) fun z => ih a z
  | pk h r ih => exact ih
theorem AR.length {ds : List D} {vs : List V} {as : List Addr} (h : AR P H σ es ds vs as) : ds.length = es.length ∧ vs.length = es.length := by
  induction h with
  | nil => exact ⟨rfl, rfl⟩
  | val k h r ih => simp [ih.1, ih.2]
  | pk h r ih => simp [ih.1, ih.2]
theorem AR.frame {ds : List D} {vs : List V} {as : List Addr} (f : FixIn H H1) (h : AR P H σ es ds vs as) : (∀ a ∈ as, H1 a = H a) → AR P H1 σ es ds vs as := by
  induction h with
  | nil => exact fun _ => .nil
  | val k h r ih => exact fun z => .val k (h.frame f fun a y => z a (List.mem_append_left _ y)) (ih fun a y => z a (List.mem_append_right _ y))
  | pk h r ih => exact fun z => .pk h (ih z)
theorem AR.reps {ds : List D} {vs : List V} {as : List Addr} (h : AR P H σ es ds vs as) : es.all (fun e => !e.pk) = true → Reps P H ds vs as := by
  induction h with
  | nil => exact fun _ => .nil
  | val k h r ih => exact fun z => .cons h (ih (by simp only [List.all_cons, Bool.and_eq_true] at z; exact z.2))
  | pk h r ih => exact fun z => by simp [E.pk] at z
end
section
variable {P : RP} {F : FR} {W : WX} {g : G} {b : Below} {X : Cx} {a c e : E} {es : List E} {A1 A2 : Expr} {As : List Expr} {pos : Pos} {σ : L2.St} {H H1 H2 : Hp} {own own1 own2 : List Addr} {sl sl1 sl2 : Sl}
/-- fresh things and what was there -/
theorem fresh_ne {as : List Addr} (ok : OwnOk H1 as) (nd : (as ++ own1).Nodup) (st : Step own1 H1 H2 own2) (nd2 : own2.Nodup) : (as ++ own2).Nodup ∧ (∀ a ∈ as, H2 a = H1 a) := by
  have h := List.nodup_append.mp nd
  have off : ∀ a ∈ as, a ∉ own1 := fun x hx hy => h.2.2 x hx x hy rfl
  refine ⟨List.nodup_append.mpr ⟨h.1, nd2, fun x hx y hy e => ?_⟩, st.at ok off⟩
  subst e
  rcases st.new x hy with z | z
  · exact off x hx z
  · obtain ⟨o, ho, _⟩ := ok x hx
    rw [z] at ho; cases ho
theorem a_nil : PA X [] (tAr P F W g b []) := pa_nil.weak fun σ H Q ⟨sl, own, sim, h⟩ => h [] H own [] ⟨sim, .nil, .refl, by simpa using sim.nd, fun _ z => (nomatch z), fun _ => ⟨rfl, rfl, .refl⟩⟩
theorem cons_read {Q : List V → Hp → Prop} (hk : (!e.pk || isPeek e) = true) (h : tAr P F W g b (e :: es) σ H Q) : tCons (tE P F W g b e) (tAr P F W g b es) σ H Q := by
    obtain ⟨sl, own, sim, h⟩ := h
    refine ⟨sl, own, sim, (Res.bind h).mono fun p _ h v H1 own1 as1 p1 => ⟨p.2, own1, p1.sim, (h.bind.after p1.step).mono fun q _ h vs H2 own2 as2 p2 => ?_⟩⟩
    have pu : E.pures (e :: es) = true → q.2 = sl ∧ own2 = own ∧ Ext H H2 := fun z => by
      obtain ⟨z1, z2⟩ := and2 (z := (_, _)) z
      obtain ⟨a1, a2, a3⟩ := p1.pure z1
      obtain ⟨b1, b2, b3⟩ := p2.pure z2
      exact ⟨b1.trans a1, b2.trans a2, a3.trans b3⟩
    have new2 : ∀ a ∈ as2, a ∈ own ∨ H a = none := fun a z => by
      rcases p2.new a z with z | z
      · exact p1.step.new a z
      · exact p1.step.back z
    cases ke : e.pk with
    | false =>
      obtain ⟨f1, f2⟩ := p1.fresh ke
      have ok1 := p1.rep.own
      have off : ∀ a ∈ as1, a ∉ own1 := fun x hx hy => (List.nodup_append.mp f1).2.2 x hx x hy rfl
      obtain ⟨n1, n2⟩ := fresh_ne ok1 f1 p2.step p2.sim.nd
      refine h (v :: vs) H2 own2 (as1 ++ as2) ⟨p2.sim, .val ke (p1.rep.frame (p2.step.fix p1.sim.r.own) n2) p2.ar, p1.step.trans p2.step, ?_, fun a z => (List.mem_append.mp z).elim (f2 a) (new2 a), pu⟩
      have m := List.nodup_append.mp n1
      rw [List.append_assoc]
      refine List.nodup_append.mpr ⟨m.1, p2.nd, fun x hx y hy e => ?_⟩
      rcases List.mem_append.mp hy with z | z
      · subst e
        rcases p2.new x z with z | z
        · exact off x hx z
        · obtain ⟨o, ho, _⟩ := ok1 x hx
          rw [z] at ho; cases ho
      · exact m.2.2 x hx y z e
    | true =>
      rw [ke] at hk
      cases e with
      | peek i => exact h (v :: vs) H2 own2 as2 ⟨p2.sim, .pk (p1.pos i rfl) p2.ar, p1.step.trans p2.step, p2.nd, new2, pu⟩
      | _ => cases hk
theorem a_cons (hs : plainA A1 = true) (h1 : PE X A1 (tE P F W g b e)) (h2 : PA X As (tAr P F W g b es)) (hk : (!e.pk || isPeek e) = true) : PA X (A1 :: As) (tAr P F W g b (e :: es)) :=
  (pa_cons h1 h2 (star_plain hs)).weak fun σ H Q h => cons_read hk h
/-! displays -/
theorem evs_len {es : List E} : ∀ {sl : Sl} {p : List D × Sl}, evs g b es sl = .ok p → p.1.length = es.length := by
  induction es with
  | nil => intro sl p h; cases h; rfl
  | cons e es ih =>
    intro sl p h
    simp only [evs] at h
    cases m : ev g b e sl with
    | ok p1 =>
      simp only [m, R.bind] at h
      cases m2 : evs g b es p1.2 with
      | ok p2 => simp only [m2] at h; cases h; simp [ih m2]
      | exc x fs s => simp only [m2] at h; cases h
      | bad => simp only [m2] at h; cases h
    | exc x fs s => simp only [m, R.bind] at h; cases h
    | bad => simp only [m, R.bind] at h; cases h
/-- a new object over arguments -/
theorem PostA.made {p : Addr} {o : HO} {ds : List D} {vs : List V} {as bs : List Addr} {d : D} (hk : e.pk = false) (hp : e.pure = true → E.pures es = true) (x : PostA P F σ H own es sl ds vs sl1 H1 own1 as) (hp1 : H1 p = none) (ho : bs = as ∨ bs = p :: as)
    (r : Rep P (upd H1 p o) d (.ref p) bs) : PostE P F g b e σ H own sl d (.ref p) sl1 (upd H1 p o) own1 bs := by
  have gr : Grow H1 (upd H1 p o) := .upd hp1
  have np : p ∉ as ++ own1 := fun z => by
    rcases List.mem_append.mp z with z | z
    · obtain ⟨o, ho, _⟩ := x.ar.own p z
      rw [hp1] at ho; cases ho
    · obtain ⟨o, ho, _⟩ := x.sim.r.own p z
      rw [hp1] at ho; cases ho
  refine ⟨x.sim.grow gr, r, x.step.trans gr.step, fun _ => ?_, fun z => (by rw [hk] at z; cases z), fun i z => (by rw [z] at hk; cases hk), fun z => ?_⟩
  · rcases ho with rfl | rfl
    · exact ⟨x.nd, x.new⟩
    · refine ⟨List.nodup_cons.mpr ⟨np, x.nd⟩, fun a z => ?_⟩
      rcases List.mem_cons.mp z with rfl | z
      · exact x.step.back hp1
      · exact x.new a z
  · obtain ⟨z1, z2, z3⟩ := x.pure (hp z)
    exact ⟨z1, z2, z3.trans gr.ext⟩
theorem PostA.reps {p : Addr} {o : HO} {ds : List D} {vs : List V} {as : List Addr} (x : PostA P F σ H own es sl ds vs sl1 H1 own1 as) (hp1 : H1 p = none) (ha : es.all (fun e => !e.pk) = true) : Reps P (upd H1 p o) ds vs as :=
  (x.ar.reps ha).frame (Grow.upd hp1).fix ((Grow.upd hp1).at x.ar.own)
theorem s_tup {x1 : Nat} (h1 : PA X As (tAr P F W g b es)) (ha : es.all (fun e => !e.pk) = true) : PE X (.Tuple As x1 pos) (tE P F W g b (.tup es)) :=
  (pe_tup h1).weak fun σ H Q ⟨sl, own, sim, h⟩ => by
    refine ⟨sl, own, sim, (Res.bind h).mono fun p ep h vs H1 own1 as1 p1 => ?_⟩
    split at h
    · rename_i hz
      have hl := p1.ar.length
      exact ⟨by omega, fun q hq => h (.ref q) _ own1 as1 (p1.made rfl (fun z => z) hq (.inl rfl) (.tup (.of upd_same) (p1.reps hq ha)))⟩
    · exact h.elim
theorem s_lst (h1 : PA X As (tAr P F W g b es)) (ha : es.all (fun e => !e.pk) = true) : PE X (.List As pos) (tE P F W g b (.lst es)) :=
  (pe_lst h1).weak fun σ H Q ⟨sl, own, sim, h⟩ => by
    refine ⟨sl, own, sim, (Res.bind h).mono fun p ep h vs H1 own1 as1 p1 => ?_⟩
    split at h
    · rename_i hz
      have hl := p1.ar.length
      exact ⟨by omega, fun q hq => h (.ref q) _ own1 (q :: as1) (p1.made rfl (fun z => z) hq (.inr rfl) (.lstO upd_same (p1.reps hq ha)))⟩
    · exact h.elim
end
end Q

set_option Elab.async false
set_option linter.all false
set_option maxRecDepth 100000
/-! W10: freezing; slices; built-ins; dicts. -/
namespace Q
open Snd
open PySem PySem.Spec PyProof.Rows L2

section
variable {P : RP} {X : Cx} {pins : List (Addr × Obj)} {σ : L2.St} {s : Shared}
theorem fix_lock {H : Hp} {a : Addr} {o u : HO} (h : H a = some o) (w : isOwn o = true) : FixIn H (upd H a u) := fix_upd h w
theorem frzs_len : ∀ ds : List D, ds.length = (D.frzs ds).length
  | [] => rfl
  | d :: ds => by simp [D.frzs, frzs_len ds]
mutual
/-- what is owned is locked for good -/
theorem Rep.freeze : ∀ {H : Hp} {d : D} {v : V} {as : List Addr}, Rep P H d v as → as.Nodup → L2.Inv X pins σ H s → ∃ H', L2.Inv X pins σ H' s ∧ Rep P H' d.frz v [] ∧ (∀ b, b ∉ as → H' b = H b) ∧ FixIn H H'
  | H, _, _, _, .non, _, I => ⟨H, I, .non, fun _ _ => rfl, .refl⟩
  | H, _, _, _, .bl b, _, I => ⟨H, I, .bl b, fun _ _ => rfl, .refl⟩
  | H, _, _, _, .int i, _, I => ⟨H, I, .int i, fun _ _ => rfl, .refl⟩
  | H, _, _, _, .str x, _, I => ⟨H, I, .str x, fun _ _ => rfl, .refl⟩
  | H, _, _, _, .tup h r, nd, I => by
    obtain ⟨H', I', r', k, f⟩ := Reps.freeze r nd I
    exact ⟨H', I', .tup (f.sqT h) r', k, f⟩
  | H, _, _, _, .lstF h r, nd, I => by
    obtain ⟨H', I', r', k, f⟩ := Reps.freeze r nd I
    exact ⟨H', I', .lstF (f.sqF h) r', k, f⟩
  | H, _, _, _, @Rep.lstO _ _ ds a xs as h r, nd, I => by
    obtain ⟨n1, n2⟩ := List.nodup_cons.mp nd
    obtain ⟨H', I', r', k, f⟩ := Reps.freeze r n2 I
    have ha : H' a = some (.lst xs) := (k a n1).trans h
    obtain ⟨od, I2⟩ := I'.lock ha trivial
    have f2 := fix_lock (u := .frz od (.lst xs)) ha rfl
    refine ⟨_, I2, .lstF (.inl ⟨od, upd_same⟩) (r'.frame f2 fun _ z => nomatch z), fun b hb => ?_, f.trans f2⟩
    have hb : b ≠ a ∧ b ∉ as := ⟨fun e => hb (by rw [e]; exact List.mem_cons_self), fun z => hb (List.mem_cons_of_mem _ z)⟩
    rw [upd_ne hb.1]
    exact k b hb.2
  | H, _, _, _, .dicF h hl nd r, n, I => by
    obtain ⟨H', I', r', k, f⟩ := Reps.freeze r n I
    exact ⟨H', I', .dicF (f _ _ h rfl) (by rw [hl]; exact frzs_len _) nd r', k, f⟩
  | H, _, _, _, @Rep.dicO _ _ ks ds a xs as h hl hn r, nd, I => by
    obtain ⟨n1, n2⟩ := List.nodup_cons.mp nd
    obtain ⟨H', I', r', k, f⟩ := Reps.freeze r n2 I
    have ha : H' a = some (.dK (ks.zip xs)) := (k a n1).trans h
    obtain ⟨od, I2⟩ := I'.lock ha trivial
    have f2 := fix_lock (u := .frz od (.dK (ks.zip xs))) ha rfl
    refine ⟨_, I2, .dicF upd_same (by rw [hl]; exact frzs_len _) hn (r'.frame f2 fun _ z => nomatch z), fun b hb => ?_, f.trans f2⟩
    have hb : b ≠ a ∧ b ∉ as := ⟨fun e => hb (by rw [e]; exact List.mem_cons_self), fun z => hb (List.mem_cons_of_mem _ z)⟩
    rw [upd_ne hb.1]
    exact k b hb.2
theorem Reps.freeze : ∀ {H : Hp} {ds : List D} {vs : List V} {as : List Addr}, Reps P H ds vs as → as.Nodup → L2.Inv X pins σ H s → ∃ H', L2.Inv X pins σ H' s ∧ Reps P H' (D.frzs ds) vs [] ∧ (∀ b, b ∉ as → H' b = H b) ∧ FixIn H H'
  | H, _, _, _, .nil, _, I => ⟨H, I, .nil, fun _ _ => rfl, .refl⟩
  | H, _, _, _, .cons (as := a1) (bs := a2) h r, nd, I => by
    have n := List.nodup_append.mp nd
    obtain ⟨H1, I1, h1, k1, f1⟩ := Rep.freeze h n.1 I
    obtain ⟨H2, I2, r2, k2, f2⟩ := Reps.freeze (r.frame f1 fun b z => k1 b fun y => n.2.2 b y b z rfl) n.2.1 I1
    exact ⟨H2, I2, .fcons (h1.frame f2 fun _ z => nomatch z) r2, fun b hb => (k2 b fun z => hb (List.mem_append_right _ z)).trans (k1 b fun z => hb (List.mem_append_left _ z)), f1.trans f2⟩
end
end
theorem tabs_of {T : List (Addr × Str)} {H H' : Hp} (k : ∀ b o, H b = some o → isOwn o = false → H' b = some o) (t : LamX.Tabs T H) : LamX.Tabs T H' := fun p hp => by
  obtain ⟨ps, h1, h2, h3⟩ := t p hp
  refine ⟨ps, k _ _ h1 rfl, h2, fun pos cv hc => ?_⟩
  obtain ⟨c, e1, e2⟩ := h3 pos cv hc
  exact ⟨c, e1, k _ _ e2 rfl⟩
section
variable {P : RP} {F : FR} {W : WX} {g : G} {b : Below} {X : Cx} {a c e : E} {es : List E} {A1 A2 : Expr} {As : List Expr} {pos : Pos} {σ : L2.St} {H H1 H2 : Hp} {own own1 own2 : List Addr} {sl sl1 sl2 : Sl}
/-- a fresh value locked -/
theorem freeze_post {pins : List (Addr × Obj)} {s : Shared} {d : D} {v : V} {as : List Addr} (sim : Sim P F sl σ H own) (k : e.pk = false) (x : PostE P F g b e σ H own sl d v sl1 H1 own1 as) (I : L2.Inv X pins σ H1 s) :
    ∃ H2, L2.Inv X pins σ H2 s ∧ Rep P H2 d.frz v [] ∧ Sim P F sl1 σ H2 own1 ∧ Step own H H2 own1 := by
  obtain ⟨f1, f2⟩ := x.fresh k
  have n := List.nodup_append.mp f1
  obtain ⟨H2, I2, r2, k2, fx⟩ := x.rep.freeze n.1 I
  have off1 : ∀ z ∈ own1, H2 z = H1 z := fun z hz => k2 z fun hy => n.2.2 z hy z hz rfl
  have keep : ∀ z o, H1 z = some o → isOwn o = false → H2 z = some o := fun z o h f => by
    rw [k2 z fun hy => ?_]
    · exact h
    · obtain ⟨o', h', f'⟩ := x.rep.own z hy
      rw [h] at h'; cases h'
      rw [f] at f'; cases f'
  have st : Step own H H2 own1 := by
    refine ⟨fun z o h hn t => ?_, fun z ps h => ?_, x.step.new⟩
    · rw [k2 z fun hy => ?_]
      · exact x.step.keep z o h hn t
      · rcases f2 z hy with q | q
        · exact hn q
        · rw [h] at q; cases q
    · obtain ⟨ps', h'⟩ := x.step.tbl z ps h
      exact ⟨ps', keep z _ h' rfl⟩
  exact ⟨H2, I2, r2, ⟨x.sim.r.frame fx off1, x.sim.nd, tabs_of keep x.sim.tabs, x.sim.io, sim.bas.step st, fun i c fs e => by obtain ⟨dd, h1, h2⟩ := x.sim.xs i c fs e; exact ⟨dd, h1, h2.fix fx⟩⟩, st⟩
theorem s_frz (h1 : PE X A1 (tE P F W g b a)) (k : a.pk = false) : PE X A1 (tE P F W g b (.frz a)) := by
  refine ⟨fun pins s σ H Q I ⟨sl, own, sim, h⟩ => ?_⟩
  refine thn (h1.run pins s σ H (fun v H1 => ∃ p own1 as1, ev g b a sl = .ok p ∧ PostE P F g b a σ H own sl p.1 v p.2 H1 own1 as1) I ⟨sl, own, sim, (Res.bind h).mono fun p ep _ v H1 own1 as1 p1 => ⟨p, own1, as1, ep, p1⟩⟩) fun u s1 ⟨v, H1, I1, r1, p, own1, as1, ep, p1⟩ => ?_
  obtain ⟨H2, I2, r2, sim2, st⟩ := freeze_post sim k p1 I1
  simp only [ev, ep, R.bind] at h
  exact ⟨v, H2, I2, r1, h v H2 own1 [] ⟨sim2, r2, st, fun _ => ⟨by simpa using sim2.nd, fun _ z => (nomatch z)⟩, fun z => (nomatch z), fun i z => (nomatch z), fun z => (nomatch z)⟩⟩
/-! slices -/
/-- a part: left out, or an int -/
structure SO (P : RP) (F : FR) (W : WX) (g : G) (b : Below) (o : Option E) (t : TO) : Prop where
  run : ∀ (σ : L2.St) (H H1 : Hp) (own own1 : List Addr) (sl1 : Sl) (B : (Option Int × Sl) → Prop) (R' : Option Int → Hp → Prop), Sim P F sl1 σ H1 own1 → Step own H H1 own1 → Res P F W σ H own (evo g b o sl1) B →
    (∀ q, B q → ∀ H2 own2, Sim P F q.2 σ H2 own2 → Step own1 H1 H2 own2 → (E.pureO o = true → q.2 = sl1 ∧ own2 = own1 ∧ Ext H1 H2) → R' q.1 H2) → t σ H1 R'
theorem so_none : SO P F W g b none tNoPart := ⟨fun σ H H1 own own1 sl1 B R' sim1 st1 hr hk => hk (none, sl1) hr H1 own1 sim1 .refl fun _ => ⟨rfl, rfl, .refl⟩⟩
theorem so_some : SO P F W g b (some e) (tPart (tE P F W g b e)) := ⟨fun σ H H1 own own1 sl1 B R' sim1 st1 hr hk => by
  have hr : Res P F W σ H own ((ev g b e sl1).bind fun p => match p.1 with | .int i => .ok (some i, p.2) | _ => .bad) B := hr
  refine ⟨sl1, own1, sim1, (hr.bind.after st1).mono fun q eq hq v2 H2 own2 as2 p2 => ?_⟩
  obtain ⟨d, sl'⟩ := q
  cases d with
  | int j =>
    have r2 := p2.rep
    cases r2
    exact ⟨j, rfl, hk (some j, sl') hq H2 own2 p2.sim p2.step p2.pure⟩
  | _ => exact hq.elim⟩
theorem sli_read {o1 o2 : Option E} {t1 t2 : TO} (ka : a.pk = false) (S1 : SO P F W g b o1 t1) (S2 : SO P F W g b o2 t2) {Q : VK} (h : tE P F W g b (.sli a o1 o2) σ H Q) :
    tSl (rSlc P) (tE P F W g b a) t1 t2 σ H Q := by
  obtain ⟨sl, own, sim, h⟩ := h
  refine ⟨sl, own, sim, (Res.bind h).mono fun p _ h v H1 own1 as1 p1 => ?_⟩
  obtain ⟨f1, f2⟩ := p1.fresh ka
  refine S1.run σ H H1 own own1 p.2 _ _ p1.sim p1.step h.bind fun q hq H2 own2 sim2 st2 pu2 => ?_
  obtain ⟨g1, g2⟩ := fresh_ne p1.rep.own f1 st2 sim2.nd
  refine S2.run σ H H2 own own2 q.2 _ _ sim2 (p1.step.trans st2) hq.bind fun r hr H3 own3 sim3 st3 pu3 => ?_
  obtain ⟨d, e, hr⟩ := hr.ofB
  have ok2 : OwnOk H2 as1 := fun x hx => by
    obtain ⟨o, ho, w⟩ := p1.rep.own x hx
    exact ⟨o, (g2 x hx).trans ho, w⟩
  obtain ⟨k1, k2⟩ := fresh_ne ok2 g1 st3 sim3.nd
  have r3 := (p1.rep.frame (st2.fix p1.sim.r.own) g2).frame (st3.fix sim2.r.own) k2
  refine ⟨p.1, as1, d, r3, e, fun v' H4 as4 n => hr v' H4 own3 as4 (fin rfl sim3 ((p1.step.trans st2).trans st3) (fun z => ?_) n)⟩
  simp only [E.pure, Bool.and_eq_true] at z
  obtain ⟨a1, a2, a3⟩ := p1.pure z.1.1
  obtain ⟨b1, b2, b3⟩ := pu2 z.1.2
  obtain ⟨c1, c2, c3⟩ := pu3 z.2
  exact ⟨(c1.trans b1).trans a1, (c2.trans b2).trans a2, (a3.trans b3).trans c3⟩
theorem s_sli {o1 o2 : Option E} {t1 t2 : TO} {lo hi : Option Expr} {p2 : Pos} (hK : X.K = P.K) (h1 : PE X A1 (tE P F W g b a)) (ka : a.pk = false) (hl : PO X lo t1) (hu : PO X hi t2) (S1 : SO P F W g b o1 t1) (S2 : SO P F W g b o2 t2) : PE X (.Subscript A1 (.Slice lo hi none p2) pos) (tE P F W g b (.sli a o1 o2)) :=
  (pe_slice (sl_slc hK) h1 hl hu).weak fun σ H Q h => sli_read ka S1 S2 h
/-! built-ins -/
def bltName : Bl → Str
  | .len => "len"
  | .isin _ => "isinstance"
  | .tupleOf => "tuple"
  | .listOf => "list"
  | .intOf => "int"
theorem blt_read {o : Bl} (h : tE P F W g b (.blt o [a]) σ H Q) (hn : ∀ t, o ≠ .isin t) : tCB (rBlt P o) (tCons (tE P F W g b a) tNil) σ H Q := by
  obtain ⟨sl, own, sim, h⟩ := h
  have h' : Res P F W σ H own ((ev g b a sl).bind fun p => (R.of (blt o [p.1])).bind fun d => .ok (d, p.2)) (fun p => ∀ (v : V) (H' : Hp) (own' as : List Addr), PostE P F g b (.blt o [a]) σ H own sl p.1 v p.2 H' own' as → Q v H') := by
    cases m : ev g b a sl with
    | ok p => simp only [ev, evs, m, R.bind] at h ⊢; exact h
    | exc x fs s => simp only [ev, evs, m, R.bind] at h ⊢; exact h
    | bad => simp only [ev, evs, m, R.bind] at h; exact h
  refine ⟨sl, own, sim, h'.bind.mono fun p _ h v H1 own1 as1 p1 => ?_⟩
  obtain ⟨d, e, h⟩ := h.ofB
  refine ⟨[p.1], [v], as1 ++ [], d, .cons p1.rep .nil, ?_, e, fun v' H' as' n => h v' H' own1 as' (fin rfl p1.sim p1.step (fun z => p1.pure (by simp only [E.pure, E.pures, Bool.and_true] at z; exact z)) n)⟩
  cases o <;> first | rfl | exact absurd rfl (hn _)
theorem isin_read {t : Ty} (h : tE P F W g b (.blt (.isin t) [a]) σ H Q) : tCB (rBlt P (.isin t)) (tCons (tE P F W g b a) (tCons (tC (.ty (tyN t))) tNil)) σ H Q := by
  obtain ⟨sl, own, sim, h⟩ := h
  have h' : Res P F W σ H own ((ev g b a sl).bind fun p => (R.of (blt (.isin t) [p.1])).bind fun d => .ok (d, p.2)) (fun p => ∀ (v : V) (H' : Hp) (own' as : List Addr), PostE P F g b (.blt (.isin t) [a]) σ H own sl p.1 v p.2 H' own' as → Q v H') := by
    cases m : ev g b a sl with
    | ok p => simp only [ev, evs, m, R.bind] at h ⊢; exact h
    | exc x fs s => simp only [ev, evs, m, R.bind] at h ⊢; exact h
    | bad => simp only [ev, evs, m, R.bind] at h; exact h
  refine ⟨sl, own, sim, h'.bind.mono fun p _ h v H1 own1 as1 p1 => ?_⟩
  obtain ⟨d, e, h⟩ := h.ofB
  exact ⟨[p.1], [v], as1 ++ [], d, .cons p1.rep .nil, rfl, e, fun v' H' as' n => h v' H' own1 as' (fin rfl p1.sim p1.step (fun z => p1.pure (by simp only [E.pure, E.pures, Bool.and_true] at z; exact z)) n)⟩
end
end Q

set_option Elab.async false
set_option linter.all false
set_option maxRecDepth 100000
/-! W11: built-ins by name, repr, dicts. -/
namespace Q
open Snd
open PySem PySem.Spec PyProof.Rows L2

section
variable {P : RP} {F : FR} {W : WX} {g : G} {b : Below} {X : Cx} {a c e : E} {es : List E} {A1 A2 : Expr} {As : List Expr} {pos p p1 p2 p3 p4 : Pos} {σ : L2.St} {H H1 H2 : Hp} {own own1 own2 : List Addr} {sl sl1 sl2 : Sl}
theorem s_len (hK : X.K = P.K) (hg : Gl X "len") (hm : X.mg "len" = none) (hs : plainA A1 = true) (h1 : PE X A1 (tE P F W g b a)) : PE X (.Call (.Name "len" p) [A1] [] pos) (tE P F W g b (.blt .len [a])) :=
  (pe_callB (call_lenQ hK) hg hm (by decide +kernel) (pa_cons h1 pa_nil (star_plain hs)) (he := star_plain hs)).weak fun σ H Q h => blt_read h fun _ z => nomatch z
theorem s_listOf (hK : X.K = P.K) (hg : Gl X "list") (hm : X.mg "list" = none) (hs : plainA A1 = true) (h1 : PE X A1 (tE P F W g b a)) : PE X (.Call (.Name "list" p) [A1] [] pos) (tE P F W g b (.blt .listOf [a])) :=
  (pe_callTy (call_listQ hK) hg hm (by decide +kernel) (pa_cons h1 pa_nil (star_plain hs)) (he := star_plain hs)).weak fun σ H Q h => blt_read h fun _ z => nomatch z
theorem s_tupleOf (hK : X.K = P.K) (hg : Gl X "tuple") (hm : X.mg "tuple" = none) (hs : plainA A1 = true) (h1 : PE X A1 (tE P F W g b a)) : PE X (.Call (.Name "tuple" p) [A1] [] pos) (tE P F W g b (.blt .tupleOf [a])) :=
  (pe_callTy (call_tupleQ hK) hg hm (by decide +kernel) (pa_cons h1 pa_nil (star_plain hs)) (he := star_plain hs)).weak fun σ H Q h => blt_read h fun _ z => nomatch z
theorem s_intOf (hg : Gl X "int") (hm : X.mg "int" = none) (hs : plainA A1 = true) (h1 : PE X A1 (tE P F W g b a)) : PE X (.Call (.Name "int" p) [A1] [] pos) (tE P F W g b (.blt .intOf [a])) :=
  (pe_callTy call_intQ hg hm (by decide +kernel) (pa_cons h1 pa_nil (star_plain hs)) (he := star_plain hs)).weak fun σ H Q h => blt_read h fun _ z => nomatch z
theorem boot_ty (t : Ty) : bootBuiltins (Str.ofString (tyN t)) = some (.type (tyN t)) := by
  cases t
  · exact (by decide +kernel : bootBuiltins (Str.ofString "tuple") = some (.type "tuple"))
  · exact (by decide +kernel : bootBuiltins (Str.ofString "int") = some (.type "int"))
  · exact (by decide +kernel : bootBuiltins (Str.ofString "bool") = some (.type "bool"))
  · exact (by decide +kernel : bootBuiltins (Str.ofString "str") = some (.type "str"))
  · exact (by decide +kernel : bootBuiltins (Str.ofString "list") = some (.type "list"))
theorem name_ty (t : Ty) : Str.ofString (tyN t) ≠ "__name__" ∧ (Str.ofString (tyN t) == ("__debug__" : Str)) = false := by
  cases t <;> exact ⟨by decide +kernel, by decide +kernel⟩
theorem s_isin {t : Ty} (hK : X.K = P.K) (hg : Gl X "isinstance") (hm : X.mg "isinstance" = none) (hg2 : Gl X (Str.ofString (tyN t))) (hm2 : X.mg (Str.ofString (tyN t)) = none) (hs : plainA A1 = true) (h1 : PE X A1 (tE P F W g b a)) :
    PE X (.Call (.Name "isinstance" p) [A1, .Name (Str.ofString (tyN t)) p1] [] pos) (tE P F W g b (.blt (.isin t) [a])) :=
  (pe_callB (call_isinQ hK t) hg hm (by decide +kernel) (pa_cons h1 (pa_cons (pe_bltn hg2 hm2 (boot_ty t) (show RelV (.ty (tyN t)) (.type (tyN t)) from rfl) (name_ty t).1 (name_ty t).2) pa_nil rfl) (star_plain hs)) (he := star_plain hs)).weak fun σ H Q h => isin_read h
/-! repr -/
def rRepr (P : RP) : List V → Hp → VK → Prop := fun vs H Q => ∃ d v as s, vs = [v] ∧ Rep P H d v as ∧ shD d = some s ∧ Q (.str s) H
theorem call_reprQ (hK : X.K = P.K) (hg : X.A.guards = some []) (hu : X.A.units + 70 < cLine) : CallR X (.builtin "repr") (rRepr P) := by
  intro pins s σ H xs us Q I rs h
  obtain ⟨d, v, as, sh, rfl, h1, e, q⟩ := h
  obtain ⟨u, rfl, r1⟩ := vals1 rs
  unfold shD at e
  split at e
  · rename_i pd hp
    split at e
    · rename_i c
      cases e
      simp only [Bool.and_eq_true, decide_eq_true_eq] at c
      have D1 : Dp X.K H v pd := by rw [hK]; exact h1.dp hp
      obtain ⟨bs, rd⟩ := Dp.reads I pd v u D1 r1
      have hr : ∃ ad, v = .ref ad := by
        cases h1 <;> first | exact ⟨_, rfl⟩ | (cases c.1.1.1; done)
      obtain ⟨ad, rfl⟩ := hr
      cases r1
      have hd := SeqAt.depth_of_shaped c.1.2
      exact repr_of_reads' rd c.1.1.2 (PyData.noDict_hsm (PyData.hasDict_of_canLay _ (SeqAt.canLay_of_shaped c.1.2))) hg (by omega) (fun _ _ e => e) (fun h' u' tk hk => ⟨.str _, H, I.kept hk, ⟨_, rfl⟩, q⟩) c.2
    · cases e
  · cases e
theorem likes_read (k1 : a.pk = false) (k2 : c.pk = false) {Q : VK} (h : tE P F W g b (.likes a c) σ H Q) : tOp rEq (tCB (rRepr P) (tCons (tE P F W g b a) tNil)) (tCB (rRepr P) (tCons (tE P F W g b c) tNil)) σ H Q := by
  obtain ⟨sl, own, sim, h⟩ := h
  refine ⟨sl, own, sim, (Res.bind h).mono fun p _ h v H1 own1 as1 p1 => ?_⟩
  obtain ⟨s1, e1, h⟩ := h.ofB
  refine ⟨p.1, v, as1, s1, rfl, p1.rep, e1, p.2, own1, p1.sim, (Res.after p1.step h.bind).mono fun q _ h v2 H2 own2 as2 p2 => ?_⟩
  obtain ⟨s2, e2, h⟩ := h.ofB
  refine ⟨q.1, v2, as2, s2, rfl, p2.rep, e2, rfl, ?_⟩
  have e3 : decide (V.str s1 = V.str s2) = decide (s1 = s2) := by
    by_cases z : s1 = s2
    · rw [decide_eq_true z, decide_eq_true (by rw [z])]
    · rw [decide_eq_false z, decide_eq_false (fun y => z (V.str.inj y))]
  rw [e3]
  have t := two p1 p2 (by rw [k1, k2]; rfl)
  exact h _ H2 own2 [] (fin rfl t.sim t.step t.pure (.same (.bl _)))
theorem s_likes (hK : X.K = P.K) (hgd : X.A.guards = some []) (hu : X.A.units + 70 < cLine) (hg : Gl X "repr") (hm : X.mg "repr" = none) (hs1 : plainA A1 = true) (hs2 : plainA A2 = true) (h1 : PE X A1 (tE P F W g b a)) (h2 : PE X A2 (tE P F W g b c)) (k1 : a.pk = false) (k2 : c.pk = false) :
    PE X (.Compare (.Call (.Name "repr" p1) [A1] [] p2) [.Eq] [.Call (.Name "repr" p3) [A2] [] p4] pos) (tE P F W g b (.likes a c)) :=
  (pe_cmpR op_eq (pe_callB (call_reprQ hK hgd hu) hg hm (by decide +kernel) (pa_cons h1 pa_nil (star_plain hs1)) (he := star_plain hs1)) (pe_callB (call_reprQ hK hgd hu) hg hm (by decide +kernel) (pa_cons h2 pa_nil (star_plain hs2)) (he := star_plain hs2)) rfl).weak fun σ H Q h => likes_read k1 k2 h
/-! dicts -/
theorem tE_mono {Q Q' : VK} (h : tE P F W g b e σ H Q) (k : ∀ v H', Q v H' → Q' v H') : tE P F W g b e σ H Q' := by
  obtain ⟨sl, own, sim, h⟩ := h
  exact ⟨sl, own, sim, h.mono fun p _ h v H' own' as x => k _ _ (h v H' own' as x)⟩
def trs (P : RP) (F : FR) (W : WX) (g : G) (b : Below) : List Key → List E → List (TE × TE)
  | k :: ks, e :: es => (tC (kV k), tE P F W g b e) :: trs P F W g b ks es
  | _, _ => []
theorem pairs_read : ∀ {es : List E} {ks : List Key} {H : Hp} {Q : List V → Hp → Prop} {R : List (V × V) → Hp → Prop}, ks.length = es.length → es.all (fun e => !e.pk) = true → tAr P F W g b es σ H Q →
    (∀ vs H', vs.length = es.length → Q vs H' → R ((ks.zip vs).map fun kv => (kV kv.1, kv.2)) H') → tPairs (trs P F W g b ks es) σ H R
  | [], [], H, Q, R, _, _, h, k => by
    obtain ⟨sl, own, sim, h⟩ := h
    exact k [] H rfl (h [] H own [] ⟨sim, .nil, .refl, by simpa using sim.nd, fun _ z => (nomatch z), fun _ => ⟨rfl, rfl, .refl⟩⟩)
  | [], _ :: _, _, _, _, l, _, _, _ => by simp at l
  | _ :: _, [], _, _, _, l, _, _, _ => by simp at l
  | e :: es, key :: ks, H, Q, R, l, ha, h, k => by
    simp only [List.all_cons, Bool.and_eq_true] at ha
    have h2 := cons_read (by rw [ha.1]; rfl) h
    show tE P F W g b e σ H fun y H2 => tPairs (trs P F W g b ks es) σ H2 fun ps H3 => R ((kV key, y) :: ps) H3
    exact tE_mono h2 fun y H2 hy => pairs_read (by simpa using l) ha.2 hy fun vs H' lv q => k (y :: vs) H' (by simp [lv]) q
theorem putK_new' {kvs : List (Key × V)} {k : Key} {v : V} (h : k ∉ kvs.map (·.1)) : putK kvs k v = kvs ++ [(k, v)] := by
  unfold putK
  rw [if_neg]
  intro e
  obtain ⟨p, hp, e⟩ := List.any_eq_true.mp e
  exact h (List.mem_map.mpr ⟨p, hp, of_decide_eq_true e⟩)
theorem merge_new : ∀ {more acc : List (Key × V)}, ((acc ++ more).map (·.1)).Nodup → mergeK acc more = acc ++ more
  | [], acc, _ => by simp [mergeK]
  | p :: more, acc, h => by
    have h' : ((acc.map (·.1)) ++ (p.1 :: more.map (·.1))).Nodup := by simpa using h
    have n : p.1 ∉ acc.map (·.1) := fun z => (List.nodup_append.mp h').2.2 _ z _ List.mem_cons_self rfl
    show mergeK (putK acc p.1 p.2) more = _
    rw [putK_new' n, merge_new (by simpa using h)]
    simp
theorem zip_keys {ks : List Key} {vs : List V} (l : ks.length = vs.length) : (ks.zip vs).map (·.1) = ks := by
  rw [List.map_fst_zip (by omega)]
theorem dic_read {ks : List Key} (l : ks.length = es.length) (nd : ks.Nodup) (ha : es.all (fun e => !e.pk) = true) (h15 : ks.length ≤ 15) {Q : VK} (h : tE P F W g b (.dic ks es) σ H Q) : tDisp (trs P F W g b ks es) σ H Q := by
  obtain ⟨sl, own, sim, h⟩ := h
  intro p hp
  have gr : Grow H (upd H p (.dK [])) := .upd hp
  have pno : p ∉ own := fun z => by
    obtain ⟨o, ho, _⟩ := sim.r.own p z
    rw [hp] at ho; cases ho
  refine pairs_read (Q := fun vs H' => ∃ (q : List D × Sl) (own' as : List Addr), PostA P F σ (upd H p (.dK [])) own es sl q.1 vs q.2 H' own' as ∧ ∀ (v : V) (H2 : Hp) (own2 as2 : List Addr), PostE P F g b (.dic ks es) σ H own sl (.dic true ks q.1) v q.2 H2 own2 as2 → Q v H2) l ha ?_ ?_
  · exact ⟨sl, own, sim.grow gr, Res.after gr.step ((Res.bind h).mono fun q _ h vs H' own' as x => ⟨q, own', as, x, h⟩)⟩
  · rintro vs H' lv ⟨q, own', as, x, k⟩
    have hp' : H' p = some (.dK []) := x.step.keep p _ upd_same pno rfl
    have nown : p ∉ own' := fun z => by
      rcases x.step.new p z with z | z
      · exact pno z
      · rw [upd_same] at z; cases z
    have nas : p ∉ as := fun z => by
      rcases x.new p z with z | z
      · exact pno z
      · rw [upd_same] at z; cases z
    have la := x.ar.length
    have lz : ks.length = vs.length := by omega
    refine ⟨hp', ks.zip vs, rfl, by rw [List.length_zip]; omega, ?_⟩
    rw [merge_new (by rw [List.nil_append, zip_keys lz]; exact nd), List.nil_append]
    have fx : FixIn H' (upd H' p (.dK (ks.zip vs))) := fix_upd hp' rfl
    have st : Step own H (upd H' p (.dK (ks.zip vs))) own' := by
      refine ⟨fun z o hz hn t => ?_, fun z ps hz => ?_, fun z hz => ?_⟩
      · have np : z ≠ p := fun e => by rw [e, hp] at hz; cases hz
        rw [upd_ne np]
        exact x.step.keep z o (gr z o hz) hn t
      · have np : z ≠ p := fun e => by rw [e, hp] at hz; cases hz
        obtain ⟨ps', h'⟩ := x.step.tbl z ps (gr z _ hz)
        exact ⟨ps', by rw [upd_ne np]; exact h'⟩
      · rcases x.step.new z hz with y | y
        · exact .inl y
        · exact gr.step.back y
    refine k (.ref p) _ own' (p :: as) ⟨⟨x.sim.r.frame fx (upd_at nown), x.sim.nd, tabs_of (fun z o hz f => ?_) x.sim.tabs, x.sim.io, sim.bas.step st, fun i c fs e => ?_⟩, ?_, st, fun _ => ⟨?_, fun a z => ?_⟩, fun z => (nomatch z), fun i z => (nomatch z), fun z => ?_⟩
    · have np : z ≠ p := fun e => by rw [e, hp'] at hz; cases hz; cases f
      rw [upd_ne np]; exact hz
    · obtain ⟨dd, h1, h2⟩ := x.sim.xs i c fs e
      exact ⟨dd, h1, h2.fix fx⟩
    · exact .dicO upd_same (by omega) nd ((x.ar.reps ha).frame fx (upd_at nas))
    · refine List.nodup_cons.mpr ⟨fun z => (List.mem_append.mp z).elim nas nown, x.nd⟩
    · rcases List.mem_cons.mp z with rfl | z
      · exact .inr hp
      · rcases x.new a z with y | y
        · exact .inl y
        · exact gr.step.back (own := own) (own1 := own) y
    · obtain ⟨z1, z2, z3⟩ := x.pure z
      refine ⟨z1, z2, fun y o hy t => ?_⟩
      have np : y ≠ p := fun e => by rw [e, hp] at hy; cases hy
      rw [upd_ne np]
      exact z3 y o (gr y o hy) t
end
end Q

set_option Elab.async false
set_option linter.all false
set_option maxRecDepth 100000
/-! W12: calls of defs. -/
namespace Q
open Snd
open PySem PySem.Spec PyProof.Rows L2

/-- the shared argument behind a call -/
def IoR (P : RP) (H : Hp) (io : Option Nat) (vs : List V) (iod : Option D) (as : List Addr) : Prop := match io, iod with
  | some j, some d => ∃ v, vs[j]? = some v ∧ Rep P H d v as
  | none, none => as = []
  | _, _ => False
/-- behind a call: its value, its shared argument -/
structure CPost (P : RP) (io : Option Nat) (vs : List V) (as : List Addr) (H : Hp) (d : D) (iod : Option D) (v : V) (H' : Hp) (asR asI : List Addr) : Prop where
  rep : Rep P H' d v asR
  io : IoR P H' io vs iod asI
  nd : (asR ++ asI).Nodup
  step : Step as H H' (asR ++ asI)
  tabs : LamX.Tabs P.T H'
structure CPostX (P : RP) (io : Option Nat) (vs : List V) (as : List Addr) (H : Hp) (c : Nat) (fs : List D) (iod : Option D) (H' : Hp) (dd : Addr) (asI : List Addr) : Prop where
  x : XRep P H' c fs dd
  io : IoR P H' io vs iod asI
  nd : asI.Nodup
  step : Step as H H' asI
  tabs : LamX.Tabs P.T H'
/-- what is wanted of a call -/
def CRes (P : RP) (io : Option Nat) (vs : List V) (as : List Addr) (H : Hp) (r : CR) (Q : VK) (E : XK) : Prop := match r with
  | .ok d iod => ∀ v H' asR asI, CPost P io vs as H d iod v H' asR asI → Q v H'
  | .exc c fs iod => ∀ H' dd asI, CPostX P io vs as H c fs iod H' dd asI → E (.ref (P.cad c)) (some dd) H'
  | .bad => False
/-- a def keeps its promise -/
def FnG (P : RP) (prog : Program) (w : World) (K : PySem.W.Frag) (mg : Str → Option Value) (base : Heap) (k : Nat) (f : Addr) (io : Option Nat) (spec : List D → CR) : Prop :=
  ∀ (A : Around) (outer : List Env) (s : Shared) (H : Hp) (us : List Value) (vs : List V) (ds : List D) (as : List Addr) (Q : VK) (E : XK), Room k A → A.guards = some [] → Env0 prog w K mg base A outer s H → Vals vs us → Reps P H ds vs as → as.Nodup → LamX.Tabs P.T H → CRes P io vs as H (spec ds) Q E →
    codeAny (model prog w) A (.call (.ref f) ⟨us, []⟩) (L2.CR (L2.CX prog w) outer prog w H s Q E) s
section
variable {P : RP} {F : FR} {W : WX} {g : G} {b : Below} {X : Cx} {a c e : E} {es : List E} {A1 A2 : Expr} {As : List Expr} {pos p : Pos} {σ : L2.St} {H H1 H2 : Hp} {own own1 own2 : List Addr} {sl sl1 sl2 : Sl}
theorem AR.io {i : Nat} {di : D} {v : V} {asi : List Addr} (hv : σ[i]? = some (some v)) (hr : Rep P H di v asi) {es : List E} : ∀ {j : Nat} {ds : List D} {vs : List V} {as : List Addr}, AR P H σ es ds vs as → es[j]? = some (.peek i) → (∀ k e, es[k]? = some e → e.pk = true → k = j) →
    ∃ a1 a2, as = a1 ++ a2 ∧ vs[j]? = some v ∧ Reps P H (ds.set j di) vs (a1 ++ asi ++ a2) := by
  induction es with
  | nil => intro j ds vs as h e; simp at e
  | cons e es ih =>
    intro j ds vs as h he hu
    cases j with
    | zero =>
      have he : e = .peek i := by simpa using he
      subst he
      have rest : es.all (fun e => !e.pk) = true := by
        rw [List.all_eq_true]
        intro x hx
        cases hk : x.pk with
        | false => rfl
        | true =>
          obtain ⟨k, hk1, hk2⟩ := List.getElem_of_mem hx
          have := hu (k + 1) x (by simp [hk2, hk1]) hk
          omega
      cases h with
      | val k h r => cases k
      | @pk _ _ d ds v' vs bs h r =>
        rw [hv] at h
        cases h
        exact ⟨[], as, rfl, rfl, .cons hr (r.reps rest)⟩
    | succ j =>
      have ke : e.pk = false := by
        cases hk : e.pk with
        | false => rfl
        | true => have := hu 0 e rfl hk; omega
      cases h with
      | @val _ _ d ds v' vs as1 bs k h r =>
        obtain ⟨a1, a2, e1, e2, e3⟩ := ih r (by simpa using he) (fun k x hx hk => by have := hu (k + 1) x (by simpa using hx) hk; omega)
        refine ⟨as1 ++ a1, a2, by rw [e1]; simp, by simpa using e2, ?_⟩
        have := Reps.cons h e3
        simpa using this
      | pk h r => cases ke
/-- behind a call, seen from the caller -/
theorem call_after {as cas asR asI pre asi post : List Addr} {H' : Hp} (st0 : Step own H H1 own1) (nd0 : (as ++ own1).Nodup) (new0 : ∀ a ∈ as, a ∈ own ∨ H a = none) (ok1 : OwnOk H1 own1) (e1 : own1 = pre ++ asi ++ post) (hc : ∀ x ∈ cas, x ∈ as ∨ x ∈ asi) (okc : OwnOk H1 cas)
    (cst : Step cas H1 H' (asR ++ asI)) (ndc : (asR ++ asI).Nodup) :
    FixIn H1 H' ∧ (∀ x ∈ pre ++ post, H' x = H1 x) ∧ Step own H H' (pre ++ asI ++ post) ∧ (asR ++ (pre ++ asI ++ post)).Nodup ∧ ∀ x ∈ asR, x ∈ own ∨ H x = none := by
  have sub : ∀ x ∈ pre ++ post, x ∈ own1 := fun x z => by rw [e1]; rcases List.mem_append.mp z with z | z <;> simp [z]
  have n0 := List.nodup_append.mp nd0
  have n1 := n0.2.1
  rw [e1] at n1
  have n1' : ((pre ++ post) ++ asi).Nodup := (List.Perm.nodup_iff (by
    have q : (pre ++ asi ++ post).Perm (pre ++ (post ++ asi)) := by rw [List.append_assoc]; exact List.Perm.append_left _ List.perm_append_comm
    simpa using q)).mp n1
  have m1 := List.nodup_append.mp n1'
  have off : ∀ x ∈ pre ++ post, x ∉ cas := fun x z hx => by
    rcases hc x hx with y | y
    · exact n0.2.2 x y x (sub x z) rfl
    · exact m1.2.2 x z x y rfl
  have okpp : OwnOk H1 (pre ++ post) := fun x z => ok1 x (sub x z)
  have cnew : ∀ x ∈ asR ++ asI, x ∈ own ∨ H x = none := fun x z => by
    rcases cst.new x z with y | y
    · rcases hc x y with y | y
      · exact new0 x y
      · exact st0.new x (by rw [e1]; simp [y])
    · exact st0.back y
  have offc : ∀ x ∈ asR ++ asI, x ∉ pre ++ post := fun x z hx => by
    rcases cst.new x z with y | y
    · exact off x hx y
    · obtain ⟨o, ho, _⟩ := okpp x hx
      rw [y] at ho; cases ho
  refine ⟨cst.fix okc, cst.at okpp off, ⟨fun x o h hn t => ?_, fun x ps h => ?_, fun x z => ?_⟩, ?_, fun x z => cnew x (List.mem_append_left _ z)⟩
  · have no1 : x ∉ own1 := fun z => by
      rcases st0.new x z with y | y
      · exact hn y
      · rw [h] at y; cases y
    refine cst.keep x o (st0.keep x o h hn t) (fun z => ?_) t
    rcases hc x z with y | y
    · rcases new0 x y with q | q
      · exact hn q
      · rw [h] at q; cases q
    · exact no1 (by rw [e1]; simp [y])
  · obtain ⟨ps1, h1⟩ := st0.tbl x ps h
    exact cst.tbl x ps1 h1
  · simp only [List.mem_append] at z
    rcases z with (z | z) | z
    · exact st0.new x (sub x (by simp [z]))
    · exact cnew x (by simp [z])
    · exact st0.new x (sub x (by simp [z]))
  · have q : ((pre ++ post) ++ (asR ++ asI)).Nodup := List.nodup_append.mpr ⟨m1.1, ndc, fun x hx y hy e => by subst e; exact offc x hy hx⟩
    refine (List.Perm.nodup_iff ?_).mp q
    have q1 : ((pre ++ post) ++ (asR ++ asI)).Perm ((asR ++ asI) ++ (pre ++ post)) := List.perm_append_comm
    refine q1.trans ?_
    rw [List.append_assoc]
    refine List.Perm.append_left _ ?_
    have q2 : (asI ++ (pre ++ post)).Perm ((pre ++ asI) ++ post) := by
      rw [← List.append_assoc]
      exact List.Perm.append_right _ List.perm_append_comm
    exact q2
theorem fix_xs (s : Sim P F sl σ H own) (f : FixIn H H1) : ∀ i c fs, getX i sl = some (.xc c fs) → ∃ dd, (i, dd) ∈ F.xs ∧ XRep P H1 c fs dd := fun i c fs e => by
  obtain ⟨dd, h1, h2⟩ := s.xs i c fs e
  exact ⟨dd, h1, h2.fix f⟩
def ioOk (io : Option Nat) (es : List E) : Bool := (List.range es.length).all fun k => match es[k]? with
  | some e => !e.pk || decide (io = some k)
  | none => true
theorem ioOk_at {io : Option Nat} (h : ioOk io es = true) : ∀ k e, es[k]? = some e → e.pk = true → io = some k := fun k e h1 h2 => by
  have hk : k < es.length := (List.getElem?_eq_some_iff.mp h1).1
  have := List.all_eq_true.mp h k (List.mem_range.mpr hk)
  rw [h1] at this
  simpa [h2] using this
theorem AR.peeks {ds : List D} {vs : List V} {as : List Addr} (h : AR P H σ es ds vs as) : ∀ e ∈ es, e.pk = true → ∃ i, e = .peek i := by
  induction h with
  | nil => exact fun _ z => nomatch z
  | val k h r ih =>
    intro e z hk
    rcases List.mem_cons.mp z with rfl | z
    · rw [k] at hk; cases hk
    · exact ih e z hk
  | @pk i es d ds v vs bs h r ih =>
    intro e z hk
    rcases List.mem_cons.mp z with rfl | z
    · exact ⟨i, rfl⟩
    · exact ih e z hk
theorem Step.less {as own1 own2 : List Addr} (s : Step as H H1 own1) (k : ∀ x ∈ own2, x ∈ own1) : Step as H H1 own2 := ⟨s.keep, s.tbl, fun a z => s.new a (k a z)⟩
/-- the caller's end -/
theorem call_end {Fd : Fn} {f : Nat} {pl : List D × Sl} {vs : List V} {as : List Addr} {Q : VK} (sim : Sim P F sl σ H own) (hio : ioOk Fd.io es = true) (x : PostA P F σ H own es sl pl.1 vs pl.2 H1 own1 as)
    (h : Res P F W σ H own ((R.of (reread pl.2 (ioArg Fd.io es) pl.1)).bind fun ds => afterCall (ioArg Fd.io es) pl.2 (b.call f ds)) fun p => ∀ v H' own' as, PostE P F g b (.call f es) σ H own sl p.1 v p.2 H' own' as → Q v H') :
    ∃ ds cas, Reps P H1 ds vs cas ∧ cas.Nodup ∧ CRes P Fd.io vs cas H1 (b.call f ds) Q (fun c d H' => W c d σ H') := by
  obtain ⟨ds, eds, h⟩ := h.ofB
  have okas := x.ar.own
  have ok1 := x.sim.r.own
  have n0 := List.nodup_append.mp x.nd
  have fin' : ∀ {d : D} {v : V} {H' : Hp} {cas asR asI pre asi post : List Addr} {sl2 : Sl}, own1 = pre ++ asi ++ post → (∀ x ∈ cas, x ∈ as ∨ x ∈ asi) → OwnOk H1 cas → Step cas H1 H' (asR ++ asI) → (asR ++ asI).Nodup → LamX.Tabs P.T H' → Rep P H' d v asR →
      (FixIn H1 H' → (∀ x ∈ pre ++ post, H' x = H1 x) → SlR P H' sl2 σ (pre ++ asI ++ post)) → (∀ i c fs, FixIn H1 H' → getX i sl2 = some (.xc c fs) → ∃ dd, (i, dd) ∈ F.xs ∧ XRep P H' c fs dd) → PostE P F g b (.call f es) σ H own sl d v sl2 H' (pre ++ asI ++ post) asR := by
    intro d v H' cas asR asI pre asi post sl2 e1 hc okc cst ndc tb r hs hx
    obtain ⟨c1, c2, c3, c4, c5⟩ := call_after x.step x.nd x.new ok1 e1 hc okc cst ndc
    exact ⟨⟨hs c1 c2, (List.nodup_append.mp c4).2.1, tb, sim.io, sim.bas.step c3, fun i c fs => hx i c fs c1⟩, r, c3, fun _ => ⟨c4, c5⟩, fun z => (nomatch z), fun i z => (nomatch z), fun z => (nomatch z)⟩
  have finX : ∀ {c : Nat} {fs : List D} {H' : Hp} {dd : Addr} {cas asI pre asi post : List Addr} {sl2 : Sl}, own1 = pre ++ asi ++ post → (∀ x ∈ cas, x ∈ as ∨ x ∈ asi) → OwnOk H1 cas → Step cas H1 H' asI → asI.Nodup → LamX.Tabs P.T H' → XRep P H' c fs dd →
      (FixIn H1 H' → (∀ x ∈ pre ++ post, H' x = H1 x) → SlR P H' sl2 σ (pre ++ asI ++ post)) → (∀ i c fs, FixIn H1 H' → getX i sl2 = some (.xc c fs) → ∃ dd, (i, dd) ∈ F.xs ∧ XRep P H' c fs dd) → PostX P F σ H own c fs sl2 H' (pre ++ asI ++ post) dd := by
    intro c fs H' dd cas asI pre asi post sl2 e1 hc okc cst ndc tb r hs hx
    obtain ⟨c1, c2, c3, c4, c5⟩ := call_after (asR := []) x.step x.nd x.new ok1 e1 hc okc cst ndc
    exact ⟨⟨hs c1 c2, (List.nodup_append.mp c4).2.1, tb, sim.io, sim.bas.step c3, fun i c fs => hx i c fs c1⟩, c3, r⟩
  cases ho : ioArg Fd.io es with
  | none =>
    rw [ho] at eds h
    cases eds
    have np : es.all (fun e => !e.pk) = true := by
      rw [List.all_eq_true]
      intro e he
      cases hk : e.pk with
      | false => rfl
      | true =>
        obtain ⟨i, rfl⟩ := x.ar.peeks e he hk
        obtain ⟨k, hk1, hk2⟩ := List.getElem_of_mem he
        have hk3 : es[k]? = some (.peek i) := by rw [List.getElem?_eq_getElem hk1, hk2]
        have := ioOk_at hio k _ hk3 hk
        unfold ioArg at ho
        rw [this] at ho
        simp only [hk3] at ho
        cases ho
    refine ⟨pl.1, as, x.ar.reps np, n0.1, ?_⟩
    have e1 : own1 = own1 ++ [] ++ [] := by simp
    have hs : ∀ {H' : Hp}, FixIn H1 H' → (∀ z ∈ own1 ++ [], H' z = H1 z) → SlR P H' pl.2 σ (own1 ++ [] ++ []) := fun f k => by
      have := x.sim.r.frame f fun z hz => k z (by simpa using hz)
      simpa using this
    cases m : b.call f pl.1 with
    | bad => rw [m] at h; exact h
    | ok d iod =>
      rw [m] at h
      intro v H' asR asI cp
      have n := (List.nodup_append.mp cp.nd).1
      have st : Step as H1 H' (asR ++ []) := cp.step.less fun z hz => by simp at hz; simp [hz]
      exact h v H' _ asR (fin' (asI := []) (asi := []) (post := []) e1 (fun z hz => .inl hz) okas st (by simpa using n) cp.tabs cp.rep hs (fun i c fs f e => fix_xs x.sim f i c fs e))
    | exc cc fs iod =>
      rw [m] at h
      intro H' dd asI cp
      have st : Step as H1 H' [] := cp.step.less fun z hz => (nomatch hz)
      exact h H' _ dd (finX (asI := []) (asi := []) (post := []) e1 (fun z hz => .inl hz) okas st List.nodup_nil cp.tabs cp.x hs (fun i c fs f e => fix_xs x.sim f i c fs e))
  | some ji =>
    obtain ⟨j, i⟩ := ji
    have hj : Fd.io = some j ∧ es[j]? = some (.peek i) := by
      unfold ioArg at ho
      split at ho
      · cases ho
      · rename_i j' hj'
        split at ho
        · rename_i i' hi'
          cases ho
          exact ⟨hj', hi'⟩
        · cases ho
    rw [ho] at eds h
    obtain ⟨di, ei, rfl⟩ := Option.map_eq_some_iff.mp (show (get i pl.2).map (fun d => pl.1.set j d) = some ds from eds)
    obtain ⟨v0, asi, pre, post, h1, h2, h3, h4, h5, h6⟩ := x.sim.r.at ei
    obtain ⟨a1, a2, q1, q2, q3⟩ := AR.io h1 h2 x.ar hj.2 (fun k e h1 h2 => by
      have := ioOk_at hio k e h1 h2
      rw [hj.1] at this
      exact (Option.some.inj this).symm)
    have hc : ∀ z ∈ a1 ++ asi ++ a2, z ∈ as ∨ z ∈ asi := fun z hz => by
      simp only [List.mem_append] at hz
      rcases hz with (hz | hz) | hz
      · exact .inl (by rw [q1]; simp [hz])
      · exact .inr hz
      · exact .inl (by rw [q1]; simp [hz])
    have ndc : (a1 ++ asi ++ a2).Nodup := by
      have sub : ∀ z ∈ asi, z ∈ own1 := fun z hz => by rw [h3]; simp [hz]
      have ni : asi.Nodup := (List.nodup_append.mp (List.nodup_append.mp (by rw [← h3]; exact x.sim.nd)).1).2.1
      have n1 : (as ++ asi).Nodup := List.nodup_append.mpr ⟨n0.1, ni, fun y hy z hz e => n0.2.2 y hy z (sub z hz) e⟩
      rw [q1] at n1
      refine (List.Perm.nodup_iff ?_).mp n1
      rw [List.append_assoc, List.append_assoc]
      exact List.Perm.append_left _ List.perm_append_comm
    refine ⟨_, _, q3, ndc, ?_⟩
    have okc := q3.own
    cases m : b.call f (pl.1.set j di) with
    | bad => rw [m] at h; exact h
    | ok d iod =>
      rw [m] at h
      intro v H' asR asI cp
      have io := cp.io
      rw [hj.1] at io
      cases iod with
      | none => exact io.elim
      | some d' =>
        obtain ⟨v', g1, g2⟩ := io
        rw [q2] at g1
        cases g1
        exact h v H' _ asR (fin' h3 hc okc cp.step cp.nd cp.tabs cp.rep (fun f k => h4 f k g2) (fun i' c fs f e => x.sim.xsN (own' := own1) (σ' := σ) f (fun c fs z => by cases z; exact g2.noxc) i' c fs e))
    | exc cc fs iod =>
      rw [m] at h
      intro H' dd asI cp
      have io := cp.io
      rw [hj.1] at io
      cases iod with
      | none => exact io.elim
      | some d' =>
        obtain ⟨v', g1, g2⟩ := io
        rw [q2] at g1
        cases g1
        exact h H' _ dd (finX h3 hc okc cp.step cp.nd cp.tabs cp.x (fun f k => h4 f k g2) (fun i' c fs f e => x.sim.xsN (own' := own1) (σ' := σ) f (fun c fs z => by cases z; exact g2.noxc) i' c fs e))
/-- the callee runs -/
theorem run_fnG {pins : List (Addr × Obj)} {s : Shared} {k : Nat} {fad : Addr} {io : Option Nat} {spec : List D → CR} {us : List Value} {vs : List V} {ds : List D} {as : List Addr} {Q : VK} (Fn : FnG P X.prog X.w X.K X.mg X.base k fad io spec) (hr : Room k X.A) (hgd : X.A.guards = some []) (tk : Takes X W) (I : L2.Inv X pins σ H s)
    (r : Vals vs us) (rs : Reps P H ds vs as) (nd : as.Nodup) (tb : LamX.Tabs P.T H) (h : CRes P io vs as H (spec ds) Q (fun c d H' => W c d σ H')) : wpAny (model X.prog X.w) X.A (call (.ref fad) us) (EP X pins σ Q) X.xe s := by
  refine wpAny_call (codeAny_mono (Fn X.A X.stack s H us vs ds as Q _ hr hgd I.env0 r rs nd tb h) fun r s' hq => ?_)
  cases r with
  | error e => exact tk e s' (XE.of_call I (fun _ _ _ z => z) hq)
  | ok fl =>
    cases fl with
    | ret u => exact I.after hq
    | next => exact False.elim hq
    | brk => exact False.elim hq
    | cont => exact False.elim hq
theorem s_call {x : Str} {f k : Nat} {Fd : Fn} {fad : Addr} (Fn : FnG P X.prog X.w X.K X.mg X.base k fad Fd.io (b.call f)) (hr : Room k X.A) (hgd : X.A.guards = some []) (tk : Takes X W) (hg : Gl X x) (hm : X.mg x = some (.ref fad)) (hk : PySem.W.keepIn X.K (.ref fad) = true) (hF : g.fns f = some Fd)
    (ha : PA X (A1 :: As) (tAr P F W g b es)) (hio : ioOk Fd.io es = true) (hdb : (x == ("__debug__" : Str)) = false) (he : starEach (A1 :: As) X.env = (false, eval A1 X.env) :: starEach As X.env) (hpl : (backTo pos (starEach As X.env)).any (·.1) = false) :
    PE X (.Call (.Name x p) (A1 :: As) [] pos) (tE P F W g b (.call f es)) := by
  refine ⟨fun pins s σ H Q I ⟨sl, own, sim, h⟩ => ?_⟩
  have h' : Res P F W σ H own ((evs g b es sl).bind fun p => (R.of (reread p.2 (ioArg Fd.io es) p.1)).bind fun ds => afterCall (ioArg Fd.io es) p.2 (b.call f ds)) (fun p => ∀ v H' own' as, PostE P F g b (.call f es) σ H own sl p.1 v p.2 H' own' as → Q v H') := by
    simp only [ev, hF, R.of, R.bind] at h ⊢
    exact h
  refine wpAny_Call_Name_kw (ld_glob I hg hm ?_ hdb)
  refine PySem.W.callWith_K (h₀ := X.base) I.ok.mod.kin hk (thn (ha.run pos pins s σ H (fun vs H1 => ∃ (q : List D × Sl) (own1 as1 : List Addr), evs g b es sl = .ok q ∧ PostA P F σ H own es sl q.1 vs q.2 H1 own1 as1) I ⟨sl, own, sim, h'.bind.mono fun q eq _ vs H1 own1 as1 x => ⟨q, own1, as1, eq, x⟩⟩)
    fun us s1 ⟨vs, H1, I1, r, q, own1, as1, eq, x⟩ => ⟨I1.kIn, ?_⟩) he hpl
  rw [eq] at h'
  obtain ⟨ds, cas, rs, nd, cr⟩ := call_end sim hio x h'
  exact run_fnG Fn hr hgd tk I1 r rs nd x.sim.tabs cr
theorem s_call0 {x : Str} {f k : Nat} {Fd : Fn} {fad : Addr} (Fn : FnG P X.prog X.w X.K X.mg X.base k fad Fd.io (b.call f)) (hr : Room k X.A) (hgd : X.A.guards = some []) (tk : Takes X W) (hg : Gl X x) (hm : X.mg x = some (.ref fad)) (hk : PySem.W.keepIn X.K (.ref fad) = true) (hF : g.fns f = some Fd)
    (hdb : (x == ("__debug__" : Str)) = false) : PE X (.Call (.Name x p) [] [] pos) (tE P F W g b (.call f [])) := by
  refine ⟨fun pins s σ H Q I ⟨sl, own, sim, h⟩ => ?_⟩
  have h' : Res P F W σ H own ((R.of (reread sl (ioArg Fd.io []) [])).bind fun ds => afterCall (ioArg Fd.io []) sl (b.call f ds)) (fun p => ∀ v H' own' as, PostE P F g b (.call f []) σ H own sl p.1 v p.2 H' own' as → Q v H') := by
    simp only [ev, evs, hF, R.of, R.bind] at h ⊢
    exact h
  refine wpAny_Call_Name_kw (ld_glob I hg hm ?_ hdb)
  have x : PostA P F σ H own [] sl [] [] sl H own [] := ⟨sim, .nil, .refl, by simpa using sim.nd, fun _ z => (nomatch z), fun _ => ⟨rfl, rfl, .refl⟩⟩
  obtain ⟨ds, cas, rs, nd, cr⟩ := call_end (pl := ([], sl)) sim rfl x h'
  exact PySem.W.callWith_K0 I.kIn hk (run_fnG Fn hr hgd tk I .nil rs nd sim.tabs cr)
end
end Q

set_option Elab.async false
set_option linter.all false
set_option maxRecDepth 100000
/-! W13: statements without loops. -/
namespace Q
open Snd
open PySem PySem.Spec PyProof.Rows L2

/-- behind a statement -/
structure PostS (P : RP) (F : FR) (H : Hp) (own : List Addr) (sl' : Sl) (σ' : L2.St) (H' : Hp) (own' : List Addr) : Prop where
  sim : Sim P F sl' σ' H' own'
  step : Step own H H' own'
/-- what is wanted of a statement's run -/
def ResS (P : RP) (F : FR) (W : WX) (H : Hp) (own : List Addr) (D : Ends) (m : R (Fl × Sl)) : Prop := match m with
  | .ok (.nx, sl') => ∀ σ' H' own', PostS P F H own sl' σ' H' own' → D.nx σ' H'
  | .ok (.brk, sl') => ∀ σ' H' own', PostS P F H own sl' σ' H' own' → D.bk σ' H'
  | .ok (.cont, sl') => ∀ σ' H' own', PostS P F H own sl' σ' H' own' → D.ct σ' H'
  | .ok (.ret d, sl') => ∀ σ' H' own' v as, PostS P F H own sl' σ' H' own' → Rep P H' d v as → (as ++ own').Nodup → (∀ a ∈ as, a ∈ own ∨ H a = none) → D.rt v H'
  | .exc c fs sl' => ∀ σ' H' own' dd, PostS P F H own sl' σ' H' own' → XRep P H' c fs dd → W (.ref (P.cad c)) (some dd) σ' H'
  | .bad => False
def tS (P : RP) (F : FR) (W : WX) (g : G) (b : Below) (s : S) : TS := fun D σ H => ∃ sl own, Sim P F sl σ H own ∧ ResS P F W H own D (ex g b s sl)
def tSs (P : RP) (F : FR) (W : WX) (g : G) (b : Below) (ss : List S) : TS := fun D σ H => ∃ sl own, Sim P F sl σ H own ∧ ResS P F W H own D (exs g b ss sl)
section
variable {P : RP} {F : FR} {W : WX} {g : G} {b : Below} {X : Cx} {a c e : E} {es : List E} {A1 A2 : Expr} {As : List Expr} {pos p : Pos} {σ σ' : L2.St} {H H1 H2 : Hp} {own own1 own2 : List Addr} {sl sl1 sl2 : Sl} {En : Ends} {s : S} {ss : List S} {st : Stmt} {sts : List Stmt}
theorem PostS.trans (st : Step own H H1 own1) (x : PostS P F H1 own1 sl2 σ' H2 own2) : PostS P F H own sl2 σ' H2 own2 := ⟨x.sim, st.trans x.step⟩
theorem ResS.after {m : R (Fl × Sl)} (st : Step own H H1 own1) (h : ResS P F W H own En m) : ResS P F W H1 own1 En m := by
  cases m with
  | ok p =>
    obtain ⟨fl, sl⟩ := p
    cases fl with
    | nx => exact fun σ' H' own' x => h σ' H' own' (x.trans st)
    | brk => exact fun σ' H' own' x => h σ' H' own' (x.trans st)
    | cont => exact fun σ' H' own' x => h σ' H' own' (x.trans st)
    | ret d => exact fun σ' H' own' v as x r n k => h σ' H' own' v as (x.trans st) r n fun a z => (k a z).elim (fun y => st.new a y) fun y => st.back y
  | exc c fs sl => exact fun σ' H' own' dd x => h σ' H' own' dd (x.trans st)
  | bad => exact h
/-- an expression first -/
theorem ResS.expr {α : Type} {m : R α} {k : α → R (Fl × Sl)} (h : ResS P F W H own En (m.bind k)) : Res P F W σ H own m fun p => ResS P F W H own En (k p) := by
  cases m with
  | ok p => exact h
  | exc c fs sl => exact fun H' own' dd x => h σ H' own' dd ⟨x.sim, x.step⟩ x.x
  | bad => exact h
theorem ResS.ofB {α : Type} {o : Option α} {k : α → R (Fl × Sl)} (h : ResS P F W H own En ((R.of o).bind k)) : ∃ a, o = some a ∧ ResS P F W H own En (k a) := by
  cases o with
  | none => exact h.elim
  | some a => exact ⟨a, rfl, h⟩
theorem ss_nil : PSs X [] (tSs P F W g b []) := pss_nil.weak fun D σ H ⟨sl, own, sim, h⟩ => h σ H own ⟨sim, .refl⟩
theorem seq_read (h : tSs P F W g b (s :: ss) En σ H) : tSeq (tS P F W g b s) (tSs P F W g b ss) En σ H := by
  obtain ⟨sl, own, sim, h⟩ := h
  refine ⟨sl, own, sim, ?_⟩
  have h : ResS P F W H own En ((ex g b s sl).bind fun p => match p.1 with | .nx => exs g b ss p.2 | f => .ok (f, p.2)) := h
  cases m : ex g b s sl with
  | ok p =>
    obtain ⟨fl, sl1⟩ := p
    rw [m] at h
    cases fl with
    | nx => exact fun σ' H' own' x => ⟨sl1, own', x.sim, ResS.after x.step h⟩
    | brk => exact h
    | cont => exact h
    | ret d => exact h
  | exc c fs sl1 => rw [m] at h; exact h
  | bad => rw [m] at h; exact h
theorem ss_cons (h1 : PS X st (tS P F W g b s)) (h2 : PSs X sts (tSs P F W g b ss)) : PSs X (st :: sts) (tSs P F W g b (s :: ss)) := (pss_cons h1 h2).weak fun D σ H h => seq_read h
theorem s_pass : PS X (.Pass pos) (tS P F W g b .pass) := ps_pass.weak fun D σ H ⟨sl, own, sim, h⟩ => h σ H own ⟨sim, .refl⟩
theorem s_brk : PS X (.Break pos) (tS P F W g b .brk) := ps_break.weak fun D σ H ⟨sl, own, sim, h⟩ => h σ H own ⟨sim, .refl⟩
theorem s_cont : PS X (.Continue pos) (tS P F W g b .cont) := ps_continue.weak fun D σ H ⟨sl, own, sim, h⟩ => h σ H own ⟨sim, .refl⟩
theorem s_retN : PS X (.Return none pos) (tS P F W g b .retN) := ps_retN.weak fun D σ H ⟨sl, own, sim, h⟩ => h σ H own .non [] ⟨sim, .refl⟩ .non (by simpa using sim.nd) fun _ z => (nomatch z)
theorem s_ret (h1 : PE X A1 (tE P F W g b e)) (k : e.pk = false) : PS X (.Return (some A1) pos) (tS P F W g b (.ret e)) :=
  (ps_ret h1).weak fun D σ H ⟨sl, own, sim, h⟩ => ⟨sl, own, sim, (ResS.expr h).mono fun p _ h v H1 own1 as1 p1 => by
    obtain ⟨f1, f2⟩ := p1.fresh k
    exact h σ H1 own1 v as1 ⟨p1.sim, p1.step⟩ p1.rep f1 f2⟩
theorem s_expr (h1 : PE X A1 (tE P F W g b e)) (hs : swapsWith A1 none pos.line X.env = pure false) : PS X (.Expr A1 pos) (tS P F W g b (.expr e)) :=
  (ps_expr h1 hs).weak fun D σ H ⟨sl, own, sim, h⟩ => ⟨sl, own, sim, (ResS.expr h).mono fun p _ h v H1 own1 as1 p1 => h σ H1 own1 ⟨p1.sim, p1.step⟩⟩
theorem ex_ifs (t : E) (x y : List S) (sl : Sl) : ex g b (.ifs t x y) sl = (tst g b t sl).bind fun p => match p.1 with | true => exs g b x p.2 | false => exs g b y p.2 := by
  unfold tst
  cases m : ev g b t sl with
  | ok p =>
    simp only [ex, m, R.bind]
    cases m2 : truth p.1 with
    | none => simp only [R.of]
    | some k => cases k <;> rfl
  | exc x fs s => simp only [ex, m, R.bind]
  | bad => simp only [ex, m, R.bind]
theorem s_ifs {t : E} {x y : List S} {Bx By : List Stmt} (h0 : PT X A1 (TQ P F W g b t)) (h1 : PSs X Bx (tSs P F W g b x)) (h2 : PSs X By (tSs P F W g b y)) : PS X (.If A1 Bx By pos) (tS P F W g b (.ifs t x y)) :=
  (ps_if h0 h1 h2).weak fun D σ H ⟨sl, own, sim, h⟩ => by
    rw [ex_ifs] at h
    refine ⟨sl, own, sim, (ResS.expr h).mono fun p _ h H1 own1 p1 => ?_⟩
    obtain ⟨kb, sl1⟩ := p
    cases kb with
    | true => exact ⟨sl1, own1, p1.sim, ResS.after p1.step h⟩
    | false => exact ⟨sl1, own1, p1.sim, ResS.after p1.step h⟩
/-! stores at names -/
theorem SlR.putAny (h : SlR P H sl σ own) (i : Nat) {d : D} {v : V} {as : List Addr} (r : Rep P H d v as) (nd : (as ++ own).Nodup) : ∃ own', SlR P H (sl.set i (some d)) (σ.set i (some v)) own' ∧ own'.Nodup ∧ ∀ x ∈ own', x ∈ as ∨ x ∈ own := by
  by_cases hi : i < sl.length
  · obtain ⟨old, pre, post, e1, k1, k2⟩ := h.put hi
    refine ⟨pre ++ as ++ post, k1 FixIn.refl (fun _ _ => rfl) r, ?_, fun x z => ?_⟩
    · rw [e1] at nd
      have q : (as ++ (pre ++ post)).Nodup := nd.sublist (List.Sublist.append_left (by
        rw [List.append_assoc]
        exact List.Sublist.append_left (List.sublist_append_right _ _) _) _)
      refine (List.Perm.nodup_iff ?_).mp q
      rw [← List.append_assoc]
      exact List.Perm.append_right _ List.perm_append_comm
    · rw [e1]
      simp only [List.mem_append] at z ⊢
      rcases z with (z | z) | z <;> simp [z]
  · have hl := h.length
    rw [List.set_eq_of_length_le (by omega), List.set_eq_of_length_le (by omega)]
    exact ⟨own, h, (List.nodup_append.mp nd).2.1, fun x z => .inr z⟩
def offIo (F : FR) (i : Nat) : Prop := ∀ p ∈ F.io, p.1 ≠ i
theorem Sim.put (s : Sim P F sl σ H own) {i : Nat} (ho : offIo F i) {d : D} {v : V} {as : List Addr} (r : Rep P H d v as) (nd : (as ++ own).Nodup) {H0 : Hp} {own0 : List Addr} (st : Step own0 H0 H own) (new : ∀ a ∈ as, a ∈ own0 ∨ H0 a = none) (b0 : Bas F.H0 own0 H0) :
    ∃ own', Sim P F (sl.set i (some d)) (σ.set i (some v)) H own' ∧ Step own0 H0 H own' ∧ ∀ x ∈ own', x ∈ as ∨ x ∈ own := by
  obtain ⟨own', r', nd', sub⟩ := s.r.putAny i r nd
  have st' : Step own0 H0 H own' := ⟨st.keep, st.tbl, fun x z => (sub x z).elim (new x) (st.new x)⟩
  refine ⟨own', ⟨r', nd', s.tabs, fun p hp => ?_, b0.step st', s.xsN (own' := own) (σ' := σ) FixIn.refl fun c fs z => by cases z; exact r.noxc⟩, st', sub⟩
  rw [List.getElem?_set_ne (fun e => ho p hp e.symm)]
  exact s.io p hp
theorem set_read {i : Nat} (ho : offIo F i) (k : e.pk = false) {te : TE} (hr : ∀ σ H Q, tE P F W g b e σ H Q → te σ H Q) (h : tS P F W g b (.set i e) En σ H) : tAsg te (gName i) En σ H := by
  obtain ⟨sl, own, sim, h⟩ := h
  refine hr σ H _ ⟨sl, own, sim, (ResS.expr h).mono fun p _ h v H1 own1 as1 p1 => ?_⟩
  obtain ⟨f1, f2⟩ := p1.fresh k
  obtain ⟨own', sim', st', _⟩ := p1.sim.put ho p1.rep f1 p1.step f2 sim.bas
  exact h (σ.set i (some v)) H1 own' ⟨sim', st'⟩
theorem s_set {i : Nat} {x : Str} (hN : X.N.Nodup) (hi : X.N[i]? = some x) (hx : Loc X.env.scope x) (hf : X.fn x = true ∨ X.env.scope.names.lookup x = some .local) (h1 : PE X A1 (tE P F W g b e)) (k : e.pk = false) (ho : offIo F i) (hs : swapsWith A1 (some (.Name x p)) pos.line X.env = pure false) :
    PS X (.Assign [.Name x p] A1 pos) (tS P F W g b (.set i e)) := (ps_set hN hi hx h1 hs hf).weak fun D σ H h => set_read ho k (fun _ _ _ h => h) h
theorem s_aug {i : Nat} {o : BOp} {op : Operator} {x : Str} {tpos : Pos} (hN : X.N.Nodup) (hi : X.N[i]? = some x) (hx : Loc X.env.scope x) (hf : X.fn x = true ∨ X.env.scope.names.lookup x = some .local) (h1 : PE X A1 (tE P F W g b e)) (k : e.pure = true) (ho : offIo F i)
    (hop : PIp X op (fun x y H Q => ∃ i j z, x = .int i ∧ y = .int j ∧ bin o (.int i) (.int j) = some (.int z) ∧ Q (.int z) H)) : PS X (.AugAssign (.Name x tpos) op A1 pos) (tS P F W g b (.aug i o e)) :=
  (ps_aug hN hi hx h1 hop hf).weak fun D σ H ⟨sl, own, sim, h⟩ => by
    have h : ResS P F W H own _ ((R.of (get i sl)).bind fun d => (ev g b e sl).bind fun p => match d, p.1 with | .int x, .int y => (R.of (bin o (.int x) (.int y))).bind fun z => .ok (.nx, p.2.set i (some z)) | _, _ => .bad) := h
    obtain ⟨d, ed, h⟩ := h.ofB
    obtain ⟨v, as, pre, post, h1, h2, h3, _⟩ := sim.r.at ed
    refine ⟨v, h1, sl, own, sim, (ResS.expr h).mono fun p _ h w H1 own1 as1 p1 => ?_⟩
    cases d with
    | int x =>
      cases h2
      obtain ⟨dp, slp⟩ := p
      cases dp with
      | int y =>
        have r1 := p1.rep
        cases r1
        obtain ⟨z, ez, h⟩ := h.ofB
        have hz : ∃ z', z = .int z' := by
          have := bin_int ez
          cases o with
          | add => exact ⟨_, this⟩
          | sub => exact ⟨_, this⟩
          | mul => exact ⟨_, this.2⟩
          | fdiv => exact ⟨_, this.2⟩
          | mod => exact ⟨_, this.2⟩
          | pow => exact ⟨_, this.2⟩
        obtain ⟨z', rfl⟩ := hz
        refine ⟨x, y, z', rfl, rfl, ez, ?_⟩
        obtain ⟨own', sim', st', _⟩ := p1.sim.put (i := i) (d := .int z') (v := .int z') (as := []) ho (.int z') (by simpa using p1.sim.nd) p1.step (fun _ z => (nomatch z)) sim.bas
        exact h _ H1 own' ⟨sim', st'⟩
      | _ => exact h.elim
    | _ => exact h.elim
/-! a heap where one owned thing has changed -/
theorem Sim.change {a : Addr} {u u0 : HO} {sl' : Sl} {pre post as as' : List Addr} (s : Sim P F sl1 σ H1 own1) (e1 : own1 = pre ++ as ++ post) {av : List Addr} (nd : (av ++ own1).Nodup) (ha : a ∈ as) (hu0 : H1 a = some u0) (ho : isOwn u0 = true) (hu : isOwn u = true)
    (sub : ∀ x ∈ as', x ∈ as ∨ x ∈ av) (nd' : as'.Nodup) (st : Step own H H1 own1) (new : ∀ x ∈ av, x ∈ own ∨ H x = none) (b0 : Bas F.H0 own H)
    (hs : FixIn H1 (upd H1 a u) → (∀ x ∈ pre ++ post, upd H1 a u x = H1 x) → SlR P (upd H1 a u) sl' σ (pre ++ as' ++ post)) (hx : ∀ i c fs, FixIn H1 (upd H1 a u) → getX i sl' = some (.xc c fs) → ∃ dd, (i, dd) ∈ F.xs ∧ XRep P (upd H1 a u) c fs dd) :
    PostS P F H own sl' σ (upd H1 a u) (pre ++ as' ++ post) := by
  have fx : FixIn H1 (upd H1 a u) := fix_upd hu0 ho
  have ao : a ∈ own1 := by rw [e1]; simp [ha]
  have n1 := (List.nodup_append.mp nd).2.1
  rw [e1] at n1
  have n2 : ((pre ++ post) ++ as).Nodup := (List.Perm.nodup_iff (by
    have q : (pre ++ as ++ post).Perm (pre ++ (post ++ as)) := by rw [List.append_assoc]; exact List.Perm.append_left _ List.perm_append_comm
    simpa using q)).mp n1
  have m := List.nodup_append.mp n2
  have npp : a ∉ pre ++ post := fun z => m.2.2 a z a ha rfl
  have subo : ∀ x ∈ pre ++ post, x ∈ own1 := fun x z => by rw [e1]; rcases List.mem_append.mp z with z | z <;> simp [z]
  have st' : Step own H (upd H1 a u) (pre ++ as' ++ post) := by
    refine ⟨fun x o h hn t => ?_, fun x ps h => ?_, fun x z => ?_⟩
    · have nx : x ∉ own1 := fun z => by
        rcases st.new x z with y | y
        · exact hn y
        · rw [h] at y; cases y
      rw [upd_ne fun e => nx (by rw [e]; exact ao)]
      exact st.keep x o h hn t
    · obtain ⟨ps1, h1⟩ := st.tbl x ps h
      have nx : x ≠ a := fun e => by rw [e, hu0] at h1; cases h1; cases ho
      exact ⟨ps1, by rw [upd_ne nx]; exact h1⟩
    · simp only [List.mem_append] at z
      rcases z with (z | z) | z
      · exact st.new x (subo x (by simp [z]))
      · rcases sub x z with y | y
        · exact st.new x (by rw [e1]; simp [y])
        · exact new x y
      · exact st.new x (subo x (by simp [z]))
  have nd3 : (pre ++ as' ++ post).Nodup := by
    have q : ((pre ++ post) ++ as').Nodup := List.nodup_append.mpr ⟨m.1, nd', fun x hx y hy e => by
      subst e
      rcases sub x hy with z | z
      · exact m.2.2 x hx x z rfl
      · exact (List.nodup_append.mp nd).2.2 x z x (subo x hx) rfl⟩
    refine (List.Perm.nodup_iff ?_).mp q
    have r : (pre ++ (post ++ as')).Perm (pre ++ (as' ++ post)) := List.Perm.append_left _ List.perm_append_comm
    simpa using r
  refine ⟨⟨hs fx (upd_at npp), nd3, tabs_of (fun x o h f => ?_) s.tabs, s.io, b0.step st', fun i c fs e => hx i c fs fx e⟩, st'⟩
  rw [upd_ne fun e => by rw [e, hu0] at h; cases h; rw [ho] at f; cases f]
  exact h
theorem pkPut_xc : ∀ {c : E} {d : D} {sl sl' : Sl} {i : Nat} {k : Nat} {fs : List D}, (∀ k fs, d ≠ .xc k fs) → pkPut g b c d sl = some sl' → getX i sl' = some (.xc k fs) → getX i sl = some (.xc k fs)
  | .peek j, d, sl, sl', i, k, fs, hd, h, e => by
    cases h
    rcases getX_set e with ⟨_, z⟩ | z
    · exact absurd (Option.some.inj z) (hd k fs)
    · exact z
  | .bidx a c, d, sl, sl', i, k, fs, hd, h, e => by
    simp only [pkPut] at h
    cases m : ev g b a sl with
    | ok p =>
      rw [m] at h
      simp only at h
      cases m2 : ev g b c p.2 with
      | ok q =>
        rw [m2] at h
        simp only at h
        cases m3 : putItem p.1 q.1 d with
        | none => rw [m3] at h; cases h
        | some d' =>
          rw [m3] at h
          refine pkPut_xc (fun k fs z => ?_) h e
          subst z
          cases x : p.1 with
          | lst mm xs => cases mm <;> cases y : q.1 <;> simp [putItem, x, y] at m3
          | dic mm ks xs =>
            cases mm with
            | false => simp [putItem, x] at m3
            | true =>
              cases y : q.1 <;> simp [putItem, x, y, keyD] at m3
          | _ => simp [putItem, x] at m3
      | exc x f s => rw [m2] at h; cases h
      | bad => rw [m2] at h; cases h
    | exc x f s => rw [m] at h; cases h
    | bad => rw [m] at h; cases h
  | .c _, _, _, _, _, _, _, _, h, _ => nomatch h
  | .var _, _, _, _, _, _, _, _, h, _ => nomatch h
  | .move _, _, _, _, _, _, _, _, h, _ => nomatch h
  | .glob _ _, _, _, _, _, _, _, _, h, _ => nomatch h
  | .bin _ _ _, _, _, _, _, _, _, _, h, _ => nomatch h
  | .neg _, _, _, _, _, _, _, _, h, _ => nomatch h
  | .cmp _ _ _, _, _, _, _, _, _, _, h, _ => nomatch h
  | .chn _ _ _ _ _, _, _, _, _, _, _, _, h, _ => nomatch h
  | .and _ _, _, _, _, _, _, _, _, h, _ => nomatch h
  | .or _ _, _, _, _, _, _, _, _, h, _ => nomatch h
  | .not _, _, _, _, _, _, _, _, h, _ => nomatch h
  | .ifx _ _ _, _, _, _, _, _, _, _, h, _ => nomatch h
  | .tup _, _, _, _, _, _, _, _, h, _ => nomatch h
  | .lst _, _, _, _, _, _, _, _, h, _ => nomatch h
  | .dic _ _, _, _, _, _, _, _, _, h, _ => nomatch h
  | .idx _ _, _, _, _, _, _, _, _, h, _ => nomatch h
  | .sli _ _ _, _, _, _, _, _, _, _, h, _ => nomatch h
  | .rev _, _, _, _, _, _, _, _, h, _ => nomatch h
  | .frz _, _, _, _, _, _, _, _, h, _ => nomatch h
  | .call _ _, _, _, _, _, _, _, _, h, _ => nomatch h
  | .callL _ _, _, _, _, _, _, _, _, h, _ => nomatch h
  | .act, _, _, _, _, _, _, _, h, _ => nomatch h
  | .blt _ _, _, _, _, _, _, _, _, h, _ => nomatch h
  | .likes _ _, _, _, _, _, _, _, _, h, _ => nomatch h
  | .comp _ _ _ _ _, _, _, _, _, _, _, _, h, _ => nomatch h
  | .allg _ _ _ _ _, _, _, _, _, _, _, _, h, _ => nomatch h
  | .fld _ _, _, _, _, _, _, _, _, h, _ => nomatch h
  | .never, _, _, _, _, _, _, _, h, _ => nomatch h
/-- c[k] = e -/
theorem put_read {k : E} (ke : e.pk = false) (kc : c.pk = true) (k1 : c.pure = true) (k2 : k.pure = true) {En : Ends} (h : tS P F W g b (.put c k e) En σ H) : tAsg (tE P F W g b e) (gSub (tE P F W g b c) (tE P F W g b k) (rPut P)) En σ H := by
  obtain ⟨sl, own, sim, h⟩ := h
  refine ⟨sl, own, sim, (ResS.expr h).mono fun p _ h v H1 own1 as1 p1 => ⟨p.2, own1, p1.sim, Res.after p1.step ((ResS.expr (σ := σ) h).mono fun q eq h o H2 own2 as2 p2 => ⟨q.2, own2, p2.sim, Res.after (p1.step.trans p2.step) ((ResS.expr (σ := σ) h).mono fun r er h x H3 own3 as3 p3 => ?_)⟩)⟩⟩
  obtain ⟨d, ed, h⟩ := ResS.ofB h
  obtain ⟨f1, f2⟩ := p1.fresh ke
  obtain ⟨b1, b2, b3⟩ := p2.pure k1
  obtain ⟨c1, c2, c3⟩ := p3.pure k2
  have t := two p2 p3 (by rw [k1, k2]; simp)
  obtain ⟨pre, post, e1, foc⟩ := p2.foc kc
  have E13 : Ext H1 H3 := b3.trans c3
  have okv := p1.rep.own
  have rv : Rep P H3 p.1 v as1 := p1.rep.frame E13.fix (E13.at okv)
  have e1' : own3 = pre ++ as2 ++ post := by rw [c2, e1]
  have nd3 : (as1 ++ own3).Nodup := by rw [c2, b2]; exact f1
  have nd21 : (as2 ++ as1).Nodup := by
    have n := List.nodup_append.mp nd3
    have n2 : as2.Nodup := by
      have := n.2.1
      rw [e1'] at this
      exact (List.nodup_append.mp (List.nodup_append.mp this).1).2.1
    exact List.nodup_append.mpr ⟨n2, n.1, fun x hx y hy e => n.2.2 y hy x (by rw [e1']; simp [hx]) e.symm⟩
  refine ⟨q.1, r.1, p.1, as2, as3, as1, d, t.r1, t.r2, rv, nd21, ed, fun a u as' ea pt => ?_⟩
  subst ea
  obtain ⟨u0, hu0, ho⟩ := pt.was
  obtain ⟨sl', m, h⟩ := ResS.ofB h
  have esl : r.2 = q.2 := c1
  refine h σ (upd H3 a u) (pre ++ as' ++ post) (Sim.change p3.sim e1' nd3 pt.mem hu0 ho pt.own pt.sub pt.nd ((p1.step.trans p2.step).trans p3.step) f2 sim.bas (fun fx k3 => ?_) (fun i cc fs fx e => ?_))
  · have ok2 := p2.sim.r.own
    refine foc (upd H3 a u) d as' sl' (c3.fix.trans fx) (fun x z => ?_) pt.rep (by rw [← esl]; exact m)
    rw [k3 x z]
    exact c3.at ok2 x (by rw [e1]; rcases List.mem_append.mp z with z | z <;> simp [z])
  · have e2 := pkPut_xc (fun k fs z => by subst z; exact pt.rep.noxc) m e
    obtain ⟨dd, h1, h2⟩ := p3.sim.xs i cc fs e2
    exact ⟨dd, h1, h2.fix fx⟩
theorem s_put {k : E} {K1 V1 : Expr} {p2 : Pos} (hu : X.A.units + 1 < cLine) (h1 : PE X V1 (tE P F W g b e)) (h2 : PE X A1 (tE P F W g b c)) (h3 : PE X K1 (tE P F W g b k)) (ke : e.pk = false) (kc : c.pk = true) (k1 : c.pure = true) (k2 : k.pure = true)
    (ha : ∀ v, assign (.Subscript A1 K1 p) X.env v = (do
      let ov ← holding [v] (eval A1 X.env)
      let iv ← holding [v, ov] (eval K1 X.env)
      standAt p
      holding [v, ov, iv] (setItem ov iv v)
      release [v, ov, iv] []))
    (hs : swapsWithSole [.Subscript A1 K1 p] V1 pos.line X.env = pure false) (hw : swappedStores [.Subscript A1 K1 p] V1 X.env = pure none) : PS X (.Assign [.Subscript A1 K1 p] V1 pos) (tS P F W g b (.put c k e)) :=
  (ps_asg h1 (pg_sub h2 h3 (set_put hu) ha) hs hw).weak fun D σ H h => put_read ke kc k1 k2 h
/-- xs.append(e) -/
theorem app_read {i : Nat} (ho : offIo F i ∨ True) (ke : e.pk = false) (hK : X.K = P.K) {En : Ends} (h : tS P F W g b (.app i e) En σ H) : tDrop (tBM X.K "list" rAppend (tVar i) (tCons (tE P F W g b e) tNil)) En σ H := by
  obtain ⟨sl, own, sim, h⟩ := h
  obtain ⟨d0, e0, h⟩ := ResS.ofB (show ResS P F W H own En ((R.of (get i sl)).bind _) from h)
  obtain ⟨v0, as0, pre0, post0, h1, h2, _⟩ := sim.r.at e0
  cases d0 with
  | lst m xs0 =>
    cases m with
    | false => exact h.elim
    | true =>
      obtain ⟨a0, vs0, bs0, rfl, hH0, r0, _⟩ := h2.lstO'
      refine ⟨.ref a0, h1, .inl ⟨rfl, vs0, .of hH0⟩, sl, own, sim, (ResS.expr h).mono fun p _ h v H1 own1 as1 p1 => ?_⟩
      obtain ⟨f1, f2⟩ := p1.fresh ke
      obtain ⟨d, ed, h⟩ := ResS.ofB h
      obtain ⟨d', ed', h⟩ := ResS.ofB h
      obtain ⟨v2, as2, pre, post, g1, g2, g3, g4, _⟩ := p1.sim.r.at ed
      rw [h1] at g1
      cases g1
      cases d with
      | lst m xs =>
        cases m with
        | false => cases ed'
        | true =>
          simp only [appD] at ed'
          split at ed'
          · rename_i hz
            cases ed'
            obtain ⟨a1, vs, bs, ea, hH, r, rfl⟩ := g2.lstO'
            cases ea
            have n := List.nodup_append.mp f1
            have nd21 : ((a0 :: bs) ++ as1).Nodup := by
              have n2 : (a0 :: bs).Nodup := by
                have := n.2.1
                rw [g3] at this
                exact (List.nodup_append.mp (List.nodup_append.mp this).1).2.1
              exact List.nodup_append.mpr ⟨n2, n.1, fun x hx y hy e => n.2.2 y hy x (by rw [g3]; simp only [List.mem_append]; exact .inl (.inr hx)) e.symm⟩
            obtain ⟨as', pt⟩ := Put.app hH r p1.rep nd21
            refine ⟨a0, vs, v, rfl, rfl, hH, by rw [← r.length]; exact hz, ?_⟩
            refine h σ _ (pre ++ as' ++ post) (Sim.change p1.sim g3 f1 pt.mem hH rfl rfl pt.sub pt.nd p1.step f2 sim.bas (fun fx k3 => g4 fx k3 pt.rep) (fun j cc fs fx e => ?_))
            exact p1.sim.xsN (own' := own1) (σ' := σ) fx (fun c fs z => by cases z) j cc fs e
          · cases ed'
      | _ => cases ed'
  | _ => exact h.elim
theorem s_app {i : Nat} {x : Str} {p1 p2 p3 : Pos} (hK : X.K = P.K) (hi : X.N[i]? = some x) (hv : Vis X.env.scope x) (hd : (x == ("__debug__" : Str)) = false) (hcd : (x == ("__classdict__" : Str)) = false) (h1 : PE X A1 (tE P F W g b e)) (ke : e.pk = false) (hs : plainA A1 = true) (hl : (p2.endLine == p3.line) = true) :
    PS X (.Expr (.Call (.Attribute (.Name x p1) "append" p2) [A1] [] p3) pos) (tS P F W g b (.app i e)) :=
  (ps_expr (pe_bm PySem.F.plainAttrs_list PySem.F.slot_list_append rfl mt_append (pe_var hi hv hd hcd) (pa_cons h1 pa_nil (star_plain hs)) (hfew := by rw [star_plain hs]; rfl) (hline := hl) (hs := star_plain hs)) rfl).weak fun D σ H h => app_read (.inr trivial) ke hK h
end
end Q

set_option Elab.async false
set_option linter.all false
set_option maxRecDepth 100000
/-! W14: targets; two names at once; freezing a name; for; while. -/
namespace Q
open Snd
open PySem PySem.Spec PyProof.Rows L2

/-- the same but at these -/
def SameW (is : List Nat) (σ σ' : L2.St) : Prop := ∀ vs : List Nat, (∀ i ∈ is, i ∈ vs) → wipe σ' vs = wipe σ vs
theorem wipe_set {σ : L2.St} {i : Nat} {x : Option V} : ∀ {vs : List Nat}, i ∈ vs → wipe (σ.set i x) vs = wipe σ vs
  | v :: vs, h => by
    by_cases c : i ∈ vs
    · simp only [wipe, wipe_set c]
    · have e : i = v := by rcases List.mem_cons.mp h with z | z; exact z; exact absurd z c
      subst e
      have k : ∀ (σ : L2.St) (ws : List Nat), i ∉ ws → wipe (σ.set i x) ws = (wipe σ ws).set i x := by
        intro σ ws
        induction ws with
        | nil => intro _; rfl
        | cons w ws ih =>
          intro hn
          have hn' : i ≠ w ∧ i ∉ ws := by simpa using hn
          simp only [wipe, ih hn'.2]
          rw [List.set_comm _ _ hn'.1]
      simp only [wipe, k σ vs c, List.set_set]
/-- a target, told by Q -/
def gT (P : RP) (F : FR) (t : Tg) : TG := fun v σ H Q => ∃ sl own d sl', Sim P F sl σ H own ∧ Rep P H d v [] ∧ asg t d sl = some sl' ∧ ∀ σ' own', Sim P F sl' σ' H own' → (∀ x ∈ own', x ∈ own) → SameW t.slots σ σ' → Q σ' H
def gTs (P : RP) (F : FR) (ts : List Tg) : TGs := fun vs σ H Q => ∃ sl own ds sl', Sim P F sl σ H own ∧ Reps P H ds vs [] ∧ asgs ts ds sl = some sl' ∧ ∀ σ' own', Sim P F sl' σ' H own' → (∀ x ∈ own', x ∈ own) → SameW (Tg.slotss ts) σ σ' → Q σ' H
theorem _root_.L2.PG.weak {X : Cx} {e : Expr} {t t' : TG} (h : PG X e t) (k : ∀ v σ H Q, t' v σ H Q → t v σ H Q) : PG X e t' := ⟨fun pins s σ H v u Q I r q => h.run pins s σ H v u Q I r (k v σ H Q q)⟩
theorem _root_.L2.PGs.weak {X : Cx} {e : List Expr} {t t' : TGs} (h : PGs X e t) (k : ∀ v σ H Q, t' v σ H Q → t v σ H Q) : PGs X e t' := ⟨fun pins s σ H v u Q I r q => h.run pins s σ H v u Q I r (k v σ H Q q)⟩
section
variable {P : RP} {F : FR} {W : WX} {g : G} {b : Below} {X : Cx} {a c e : E} {es : List E} {A1 A2 : Expr} {As : List Expr} {pos p : Pos} {σ σ' : L2.St} {H H1 H2 : Hp} {own own1 own2 : List Addr} {sl sl1 sl2 : Sl} {En : Ends} {s : S} {ss : List S} {st : Stmt} {sts : List Stmt}
theorem g_v {i : Nat} {x : Str} (hN : X.N.Nodup) (hi : X.N[i]? = some x) (hx : Loc X.env.scope x) (hf : X.fn x = true ∨ X.env.scope.names.lookup x = some .local) (ho : offIo F i) : PG X (.Name x pos) (gT P F (.v i)) :=
  (pg_name hN hi hx hf).weak fun v σ H Q ⟨sl, own, d, sl', sim, r, e, k⟩ => by
    cases e
    obtain ⟨own', sim', st', sub⟩ := sim.put ho r (by simpa using sim.nd) .refl (fun _ z => (nomatch z)) sim.bas
    exact k _ own' sim' (fun x z => (sub x z).elim (fun z => nomatch z) id) fun vs hv => wipe_set (hv i (by simp [Tg.slots]))
theorem assign_star {A : Expr} {As : List Expr} {env : Env} (h : plainA A = true) : (assignEach (A :: As) env).map (·.2) = assign A env :: (assignEach As env).map (·.2) ∧ ((assignEach (A :: As) env).length = (assignEach As env).length + 1) ∧ ((assignEach As env).findIdx? (·.1) = none → (assignEach (A :: As) env).findIdx? (·.1) = none) := by
  cases A <;> first | (cases h; done) | exact ⟨rfl, rfl, fun z => by
    rw [List.findIdx?_eq_none_iff] at z ⊢
    intro x hx
    rcases List.mem_cons.mp hx with rfl | hx
    · rfl
    · exact z x hx⟩
theorem assign_plain {env : Env} : ∀ {As : List Expr}, As.all plainA = true → (assignEach As env).length = As.length ∧ (assignEach As env).findIdx? (·.1) = none
  | [], _ => ⟨rfl, rfl⟩
  | A :: As, h => by
    simp only [List.all_cons, Bool.and_eq_true] at h
    obtain ⟨h1, h2⟩ := assign_plain (env := env) h.2
    obtain ⟨_, k1, k2⟩ := assign_star (As := As) (env := env) h.1
    exact ⟨by rw [k1, h1]; rfl, k2 h2⟩
theorem gs_nil : PGs X [] (gTs P F []) := pgs_nil.weak fun vs σ H Q ⟨sl, own, ds, sl', sim, r, e, k⟩ => by
  cases ds with
  | nil => cases r; cases e; exact ⟨rfl, k σ own sim (fun _ z => z) fun _ _ => rfl⟩
  | cons d ds => cases e
theorem gs_cons {t : Tg} {ts : List Tg} (h1 : PG X A1 (gT P F t)) (h2 : PGs X As (gTs P F ts)) (hs : plainA A1 = true) : PGs X (A1 :: As) (gTs P F (t :: ts)) :=
  (pgs_cons h1 h2 (assign_star hs).1).weak fun vs σ H Q ⟨sl, own, ds, sl', sim, r, e, k⟩ => by
    cases ds with
    | nil => cases e
    | cons d ds =>
      obtain ⟨v, us, rfl, r1, r2⟩ := r.uncons
      obtain ⟨sl1, e1, e2⟩ := bind_some (show (asg t d sl).bind (fun sl' => asgs ts ds sl') = some sl' from e)
      exact ⟨v, us, rfl, sl, own, d, sl1, sim, r1, e1, fun σ' own' sim' sub sm => ⟨sl1, own', ds, sl', sim', r2, e2, fun σ2 own2 s2 sub2 sm2 => k σ2 own2 s2 (fun x z => sub x (sub2 x z)) fun vs hv => (sm2 vs fun i z => hv i (by simp [Tg.slotss, z])).trans (sm vs fun i z => hv i (by simp [Tg.slotss, z]))⟩⟩
theorem asgs_len : ∀ {ts : List Tg} {ds : List D} {sl sl' : Sl}, asgs ts ds sl = some sl' → ts.length = ds.length
  | [], [], _, _, _ => rfl
  | [], _ :: _, _, _, e => nomatch e
  | _ :: _, [], _, _, e => nomatch e
  | t :: ts, d :: ds, sl, sl', e => by
    obtain ⟨sl1, _, e2⟩ := bind_some (show (asg t d sl).bind (fun sl' => asgs ts ds sl') = some sl' from e)
    simp [asgs_len e2]
theorem g_t {ts : List Tg} {k : Nat} (hc : X.calm = true) (hK : X.K = P.K) (h : PGs X As (gTs P F ts)) (ha : As.all plainA = true) (hl : As.length = ts.length) : PG X (.Tuple As k pos) (gT P F (.t ts)) :=
  (pg_tup hc h rfl (assign_plain ha).2).weak fun v σ H Q ⟨sl, own, d, sl', sim, r, e, k⟩ => by
    cases d with
    | tup xs =>
      obtain ⟨ad, vs, rfl, hT, r1⟩ := r.sqT
      refine ⟨ad, vs, rfl, by rw [hK]; exact hT, ?_, sl, own, xs, sl', sim, r1, e, fun σ' own' s' sub sm => k σ' own' s' sub (by simpa [Tg.slots] using sm)⟩
      rw [(assign_plain ha).1, hl, asgs_len (show asgs ts xs sl = some sl' from e), r1.length]
    | _ => cases e
theorem unp_read {t : Tg} {te : TE} (k : e.pk = false) (hr : ∀ σ H Q, tE P F W g b e σ H Q → te σ H Q) (h : tS P F W g b (.unp t e) En σ H) : tAsg te (gT P F t) En σ H := by
  obtain ⟨sl, own, sim, h⟩ := h
  refine hr σ H _ ⟨sl, own, sim, (ResS.expr h).mono fun p _ h v H1 own1 as1 p1 => ?_⟩
  split at h
  · rename_i f
    obtain ⟨sl', e1, h⟩ := ResS.ofB h
    exact ⟨p.2, own1, p.1, sl', p1.sim, p1.rep.fz f, e1, fun σ' own' sim' sub _ => h σ' H1 own' ⟨sim', p1.step.keep, p1.step.tbl, fun x z => p1.step.new x (sub x z)⟩⟩
  · exact h.elim
theorem s_unp {t : Tg} (h1 : PE X A1 (tE P F W g b e)) (h2 : PG X A2 (gT P F t)) (k : e.pk = false) (hs : swapsWithSole [A2] A1 pos.line X.env = pure false) (hw : swappedStores [A2] A1 X.env = pure none) (ha : plainA A2 = true) : PS X (.Assign [A2] A1 pos) (tS P F W g b (.unp t e)) :=
  (ps_asg h1 h2 hs hw (assign_star ha).1).weak fun D σ H h => unp_read k (fun _ _ _ h => h) h
/-- a, b = x, y -/
theorem par_read {i j : Nat} {e1 e2 : E} (hi : offIo F i) (hj : offIo F j) (k1 : e1.pk = false) (k2 : e2.pk = false) (h : tS P F W g b (.par [i, j] [e1, e2]) En σ H) : tPar i j (tAr P F W g b [e1, e2]) En σ H := by
  obtain ⟨sl, own, sim, h⟩ := h
  refine ⟨sl, own, sim, (ResS.expr h).mono fun p _ h vs H1 own1 as1 p1 => ?_⟩
  obtain ⟨s', es, h⟩ := ResS.ofB h
  have ra := p1.ar.reps (by simp [k1, k2])
  obtain ⟨ds, slp⟩ := p
  have nd := p1.nd
  have nw := p1.new
  cases ra with
  | nil => cases es
  | @cons d1 ds1 v1 vs1 a1 as2 r1 ra =>
    cases ra with
    | nil => cases es
    | @cons d2 ds2 v2 vs2 a2 as3 r2 ra =>
      cases ra with
      | cons r3 ra => cases es
      | nil =>
        simp only [List.append_nil] at nd nw
        cases es
        refine ⟨v1, v2, rfl, ?_⟩
        have n := List.nodup_append.mp nd
        have n12 := List.nodup_append.mp n.1
        have nd1 : (a1 ++ own1).Nodup := List.nodup_append.mpr ⟨n12.1, n.2.1, fun x hx y hy e => n.2.2 x (List.mem_append_left _ hx) y hy e⟩
        obtain ⟨own2, s2, st2, sub2⟩ := p1.sim.put hi r1 nd1 p1.step (fun x z => nw x (List.mem_append_left _ z)) sim.bas
        have nd2 : (a2 ++ own2).Nodup := List.nodup_append.mpr ⟨n12.2.1, s2.nd, fun x hx y hy e => by
          subst e
          rcases sub2 x hy with z | z
          · exact n12.2.2 x z x hx rfl
          · exact n.2.2 x (List.mem_append_right _ hx) x z rfl⟩
        obtain ⟨own3, s3, st3, _⟩ := s2.put hj r2 nd2 st2 (fun x z => nw x (List.mem_append_right _ z)) sim.bas
        exact h _ H1 own3 ⟨s3, st3⟩
/-- a name's thing is locked: no text -/
theorem s_frzS {i : Nat} (ho : offIo F i) (h2 : PSs X sts (tSs P F W g b ss)) : PSs X sts (tSs P F W g b (.frz i :: ss)) := by
  refine ⟨fun pins s σ H En I ⟨sl, own, sim, h⟩ => ?_⟩
  obtain ⟨d, ed, h⟩ := ResS.ofB (show ResS P F W H own En ((R.of (get i sl)).bind fun d => exs g b ss (sl.set i (some d.frz))) by
    cases m : get i sl with
    | none => simp only [exs, ex, m, R.of, R.bind] at h; exact h
    | some d => simp only [exs, ex, m, R.of, R.bind] at h ⊢; exact h)
  obtain ⟨v, as, pre, post, h1, hr, h3, h4, _⟩ := sim.r.at ed
  have nd := sim.nd
  rw [h3] at nd
  have n2 : ((pre ++ post) ++ as).Nodup := (List.Perm.nodup_iff (by
    have q : (pre ++ as ++ post).Perm (pre ++ (post ++ as)) := by rw [List.append_assoc]; exact List.Perm.append_left _ List.perm_append_comm
    simpa using q)).mp nd
  have m := List.nodup_append.mp n2
  obtain ⟨H2, I2, r2, k2, fx⟩ := hr.freeze m.2.1 I
  have off : ∀ x ∈ pre ++ post, H2 x = H x := fun x z => k2 x fun y => m.2.2 x z x y rfl
  have keep : ∀ z o, H z = some o → isOwn o = false → H2 z = some o := fun z o h f => by
    rw [k2 z fun hy => ?_]
    · exact h
    · obtain ⟨o', h', f'⟩ := hr.own z hy
      rw [h] at h'; cases h'
      rw [f] at f'; cases f'
  have st : Step own H H2 (pre ++ post) := by
    refine ⟨fun z o h hn t => ?_, fun z ps h => ⟨ps, keep z _ h rfl⟩, fun x z => .inl ?_⟩
    · rw [k2 z fun y => hn (by rw [h3]; simp [y])]; exact h
    · rw [h3]; rcases List.mem_append.mp z with z | z <;> simp [z]
  have r4 := h4 fx off r2
  have sim2 : Sim P F (sl.set i (some d.frz)) σ H2 (pre ++ post) := ⟨by simpa using r4, m.1, tabs_of keep sim.tabs, sim.io, sim.bas.step st, sim.xsN (own' := own) (σ' := σ) fx fun c fs z => by
    cases d <;> cases z
    exact hr.noxc⟩
  exact h2.run pins s σ H2 En I2 ⟨_, _, sim2, ResS.after st h⟩
/-- a name is forgotten: no text -/
theorem s_delS {i : Nat} (h2 : PSs X sts (tSs P F W g b ss)) : PSs X sts (tSs P F W g b (.del i :: ss)) :=
  h2.weak fun D σ H ⟨sl, own, sim, h⟩ => by
    have h : ResS P F W H own D (exs g b ss (sl.set i none)) := h
    by_cases hi : i < sl.length
    · obtain ⟨old, pre, post, e1, k1, k2⟩ := sim.r.put hi
      have r := k2 (H2 := H) (x := (σ[i]?).bind id) FixIn.refl fun _ _ => rfl
      have hl := sim.r.length
      have e2 : σ.set i ((σ[i]?).bind id) = σ := by
        apply set_same
        rw [List.getElem?_eq_getElem (by omega)]
        rfl
      rw [e2] at r
      have nd := sim.nd
      rw [e1] at nd
      have nd2 : (pre ++ post).Nodup := nd.sublist (by
        rw [List.append_assoc]
        exact List.Sublist.append_left (List.sublist_append_right _ _) _)
      have st : Step own H H (pre ++ post) := ⟨fun _ _ h _ _ => h, fun _ ps h => ⟨ps, h⟩, fun x z => .inl (by rw [e1]; rcases List.mem_append.mp z with z | z <;> simp [z])⟩
      exact ⟨sl.set i none, pre ++ post, ⟨r, nd2, sim.tabs, sim.io, sim.bas.step st, sim.xsN (own' := own) (σ' := σ) FixIn.refl fun c fs z => by cases z⟩, ResS.after st h⟩
    · rw [List.set_eq_of_length_le (by omega)] at h
      exact ⟨sl, own, sim, h⟩
end
end Q

set_option Elab.async false
set_option linter.all false
set_option maxRecDepth 100000
set_option maxHeartbeats 2000000
/-! W15: enumerate over a tuple; a list or a tuple walked. -/
namespace Q
open Snd
open PySem PySem.Spec PyProof.Rows L2

section
variable {prog : Program} {w : World} {A : Around} {E : Value → Shared → Prop} {s : Shared}
theorem nextOf_tup {it t : Addr} {i : Nat} {items : Array Value} {x : Value} {Q : Value → Shared → Prop} (hit : s.heap.IsTupleIter it t i) (ht : s.heap.IsTuple t items) (hx : items[i]? = some x)
    (hQ : ∀ h', h'.IsTupleIter it t (i + 1) → Heap.SameBut it s.heap h' → Q x { s with heap := h' }) : wpAny (model prog w) A (Builtin.SmallTypes.nextOf (.ref it)) Q E s := by
  obtain ⟨oi, hoi, hci, hdi⟩ := id hit
  obtain ⟨ot, hot, _, nt, hdt⟩ := ht
  unfold Builtin.SmallTypes.nextOf
  refine wpAny_bind (wpAny_callSpecial?_slot (name := Str.ofString "__next__") hit.typeIs F.slot_tuple_iterator_next (wpAny_call_entry F.slot_tuple_iterator_next hit.typeIs F.entry_tuple_iterator_next ?_ (F.args_tuple_iterator_next_1 _)))
  show wpAny _ _ (field (.ref it) 0 >>= _) _ _ s
  refine wpAny_bind (wpAny_field hoi hdi (x := .ref t) rfl ?_)
  show wpAny _ _ (if (Value.ref t == Value.none) = true then _ else _) _ _ s
  rw [if_neg (show ¬ ((Value.ref t == Value.none) = true) from Bool.false_ne_true)]
  show wpAny _ _ (field (.ref it) 1 >>= _) _ _ s
  refine wpAny_bind (wpAny_field hoi hdi (x := .int i 0) rfl ?_)
  show wpAny _ _ (seqItems? (.ref t) >>= _) _ _ s
  refine wpAny_bind (wpAny_seqItems hot hdt ?_)
  simp only [Int.toNat_natCast, hx]
  refine wpAny_bind (wpAny_setField hoi hdi (by simp) (wpAny_pure ⟨x, rfl, wpAny_pure (hQ _ ?_ (Heap.SameBut.update ..))⟩))
  exact ⟨_, Heap.get?_update_self _ hoi (Obj.isFreed_of_fields (Obj.data_mapFields hdi _)), (Obj.cls_mapFields ..).trans hci, by rw [Obj.data_mapFields hdi]; simp [rawInt]⟩
theorem nextOf_tup_end {it t : Addr} {i : Nat} {items : Array Value} {Q : Value → Shared → Prop} (hh : A.handled = none) (hit : s.heap.IsTupleIter it t i) (ht : s.heap.IsTuple t items) (hx : items[i]? = none)
    (hE : ∀ h' e, Heap.ExtBut it s.heap h' → (∃ o, h'.get? e = some o ∧ o.cls = .type "StopIteration") → E (.ref e) { s with heap := h' }) : wpAny (model prog w) A (Builtin.SmallTypes.nextOf (.ref it)) Q E s := by
  obtain ⟨oi, hoi, hci, hdi⟩ := id hit
  obtain ⟨ot, hot, _, nt, hdt⟩ := ht
  unfold Builtin.SmallTypes.nextOf
  refine wpAny_bind (wpAny_callSpecial?_slot (name := Str.ofString "__next__") hit.typeIs F.slot_tuple_iterator_next (wpAny_call_entry F.slot_tuple_iterator_next hit.typeIs F.entry_tuple_iterator_next ?_ (F.args_tuple_iterator_next_1 _)))
  show wpAny _ _ (field (.ref it) 0 >>= _) _ _ s
  refine wpAny_bind (wpAny_field hoi hdi (x := .ref t) rfl ?_)
  show wpAny _ _ (if (Value.ref t == Value.none) = true then _ else _) _ _ s
  rw [if_neg (show ¬ ((Value.ref t == Value.none) = true) from Bool.false_ne_true)]
  show wpAny _ _ (field (.ref it) 1 >>= _) _ _ s
  refine wpAny_bind (wpAny_field hoi hdi (x := .int i 0) rfl ?_)
  show wpAny _ _ (seqItems? (.ref t) >>= _) _ _ s
  refine wpAny_bind (wpAny_seqItems hot hdt ?_)
  simp only [Int.toNat_natCast, hx]
  refine wpAny_bind (wpAny_rule (wpAny_bind (wpAny_setField hoi hdi (by simp) ?_)))
  show wpAny _ _ (newExc (.type "StopIteration") [] >>= _) _ _ _
  refine wpAny_bind ?_
  simp only [newExc, newTuple]
  refine wpAny_bind (wpAny_newObj_type ?_ (by size_fits))
  refine wpAny_bind (m := firstArgMember _ _) (wpAny_of_eq (a := Value.none) (by first | rfl | (simp only [firstArgMember]; rfl)) ?_)
  refine wpAny_newObj_type ?_ (by size_fits)
  simp only [raiseNew]
  refine wpAny_bind (wpAny_handled ?_)
  first | rw [show A.in1.handled = none from hh] | rw [hh]
  refine wpAny_bind (wpAny_pure (wpAny_throw ?_))
  exact hE _ _ (((Heap.SameBut.update ..).extBut.push _).push _) ⟨_, Heap.get?_push_size _ rfl, rfl⟩
theorem draws_tup (hh : A.handled = none) (it t : Addr) (hne : t ≠ it) (items : Array Value) : Draws prog w A it [it, t] items.size (fun i v => items[i]? = some v) (fun i h => h.IsTupleIter it t i ∧ h.IsTuple t items) where
  live := fun _ _ st => let ⟨o, ho, _⟩ := st.1; ⟨o, ho⟩
  frame := fun _ _ _ st hk => ⟨st.1.at fun o e => hk it (by simp) o e, let ⟨o, ho, r⟩ := st.2; ⟨o, hk t (by simp) o ho, r⟩⟩
  item := fun i s Q E hi st hQ => by
    refine nextOf_tup st.1 st.2 (x := items[i]) (by simp [hi]) fun h' hit' hs' => ?_
    exact hQ _ h' s.toks (by simp [hi]) ⟨hit', st.2.extBut hs'.extBut hne⟩ hs'
  done := fun s Q E st hE => nextOf_tup_end hh st.1 st.2 (by simp) hE
theorem enum_newT (l : Addr) (items : Array Value) (n : Nat) (dct : Option Addr) (sl : Array (Option Value)) :
    Meets (Builtin.«enumerate.__new__» ⟨[.type "enumerate", .ref l], []⟩) (fun _ R s => s.heap.get? l = some { cls := .type "tuple", dict := dct, data := .seq items n, slots := sl } ∧
      R (.ok (.ret (.ref (s.heap.push { cls := .type "tuple_iterator", data := .fields #[.ref l, .int 0 0] }).objs.size)))
        { s with heap := (s.heap.push { cls := .type "tuple_iterator", data := .fields #[.ref l, .int 0 0] }).push { cls := .type "enumerate", data := .fields #[.none, .bool false, .ref s.heap.objs.size, rawInt 0, .none, .none] } }) :=
  .of_wp fun prog w A R s h => by
    obtain ⟨hp, g, d, tk, os⟩ := s; obtain ⟨hl, h⟩ := h
    have hsub := sub_enumerate
    have hT : Heap.IsTuple (Shared.heap ⟨hp, g, d, tk, os⟩) l items := ⟨_, hl, rfl, n, rfl⟩
    wp_walk using wpAny_loadPart' hl
    refine wpAny_stack_any fun st => wpAny_pure ?_
    split
    · rename_i c _ _ _ _ _
      cases (c == Value.type "enumerate")
      · wp_walk using wpAny_loadPart' hl, wpAny_pyIter_tuple hT
        exact ⟨_, rfl, h⟩
      · wp_walk using wpAny_loadPart' hl, wpAny_pyIter_tuple hT
        exact ⟨_, rfl, h⟩
    · wp_walk using wpAny_loadPart' hl, wpAny_pyIter_tuple hT
      exact ⟨_, rfl, h⟩
theorem call_enumT {l : Addr} {items : Array Value} {Q : Value → Shared → Prop} (hL : s.heap.IsTuple l items)
    (h : ∀ h', IsEnum h' (s.heap.objs.size + 1) s.heap.objs.size 0 .none → h'.IsTupleIter s.heap.objs.size l 0 → h'.objs.size = s.heap.objs.size + 2 →
      (∀ b o, s.heap.get? b = some o → h'.get? b = some o) → Q (.ref (s.heap.objs.size + 1)) { s with heap := h' }) :
    wpAny (model prog w) A (call (.type "enumerate") [.ref l]) Q E s := by
  obtain ⟨⟨c, dct, dt, sl⟩, hl, hc, n, hd⟩ := hL
  replace hc : c = .type "tuple" := hc
  replace hd : dt = .seq items n := hd
  subst hc hd
  refine callType_new F.called_enumerate (by decide) (F.typeCall_enumerate_1 _) (F.newCall_enumerate_1 _) (fun obj => F.args_object_init_2 obj _) F.entry_enumerate_new (enum_newT l items n dct sl) ⟨hl, ?_⟩
  have hz : (s.heap.push { cls := .type "tuple_iterator", data := .fields #[.ref l, .int 0 0] }).objs.size = s.heap.objs.size + 1 := Heap.size_push ..
  show _ ∧ _
  rw [hz]
  have he : IsEnum ((s.heap.push { cls := .type "tuple_iterator", data := .fields #[.ref l, .int 0 0] }).push { cls := .type "enumerate", data := .fields #[.none, .bool false, .ref s.heap.objs.size, rawInt 0, .none, .none] }) (s.heap.objs.size + 1) s.heap.objs.size 0 .none := by
    have q := Heap.get?_push_size (s.heap.push { cls := .type "tuple_iterator", data := .fields #[.ref l, .int 0 0] }) (o := { cls := .type "enumerate", data := .fields #[.none, .bool false, .ref s.heap.objs.size, rawInt 0, .none, .none] }) rfl
    rw [hz] at q; exact q
  refine ⟨⟨_, he, rfl⟩, h _ he ⟨_, Heap.get?_push_of_some _ (Heap.get?_push_size _ rfl), rfl, rfl⟩ (by rw [Heap.size_push, hz]) fun b o x => Heap.get?_push_of_some _ (Heap.get?_push_of_some _ x)⟩
theorem enumT_end {e it l : Addr} {i : Nat} {items : Array Value} {old : Value} {Q : Option Value → Shared → Prop} (hh : A.handled = none) (he : IsEnum s.heap e it i old) (hit : s.heap.IsTupleIter it l i) (hl : s.heap.IsTuple l items) (hx : items[i]? = none)
    (hQ : ∀ h', Heap.ExtBut it s.heap h' → Q none { s with heap := h' }) : wpAny (model prog w) A (pyNext (.ref e)) Q E s := by
  have tyE : s.TypeIs (.ref e) "enumerate" := ⟨_, he, rfl⟩
  unfold pyNext
  refine wpAny_bind (wpAny_attempt (wpAny_callSpecial?_slot (name := Str.ofString "__next__") tyE F.slot_enumerate_next (wpAny_call_entry F.slot_enumerate_next tyE F.entry_enumerate_next ?_ (F.args_enumerate_next_1 _))))
  show wpAny _ _ (field (.ref e) 2 >>= _) _ _ _
  refine wpAny_bind (wpAny_field he rfl (x := .ref it) rfl ?_)
  refine wpAny_bind (nextOf_tup_end hh hit hl hx fun h' x he' ⟨o, ho, hc⟩ => ?_)
  exact wpAny_bind (wpAny_isInstance (T := "StopIteration") (b := true) ⟨o, ho, hc⟩ isSubtype_stop (wpAny_pure (hQ _ he')))
end
/-- the tuple at a, each item in a new pair -/
def Iet (K : PySem.W.Frag) (a : Addr) : It :=
  ⟨fun i H => ∃ (xs : List V) (x : V), SqT K H a xs ∧ xs[i]? = some x, fun i H v H' => ∃ T x, v = .ref T ∧ H T = none ∧ H' = upd H T (.tup [.int (i : Nat), x]) ∧ ∀ xs, SqT K H a xs → xs[i]? = some x, fun i H => ∃ xs : List V, SqT K H a xs ∧ xs.length ≤ i⟩
theorem turn_enumT {P : Program} {w : World} {K : PySem.W.Frag} {elts : List Expr} {kk : Nat} {tpos : Pos} (a e it : Addr) :
    Turn P w K (.Tuple elts kk tpos) (Iet K a) [e, it] e (fun i h => (∃ old, IsEnum h e it ((i : Nat) : Int) old) ∧ h.IsTupleIter it a i ∧ e ≠ it) where
  mem := by simp
  obj := fun i h st b hb => by
    obtain ⟨⟨old, he⟩, ⟨o, ho, hc, hd⟩, _⟩ := st
    have e' : b = e ∨ b = it := by simpa using hb
    rcases e' with z | z
    · rw [z]; exact ⟨_, he, fun v q => nomatch q⟩
    · rw [z]; exact ⟨o, ho, fun v q => by rw [hd] at q; cases q⟩
  keep := fun i h h' st k => let ⟨⟨old, he⟩, hi, hne⟩ := st; ⟨⟨old, k e (by simp) _ he⟩, hi.at fun o q => k it (by simp) o q, hne⟩
  item := by
    intro X hP hw hK hc i pins s σ H E I hf st hg
    subst hP hw hK
    obtain ⟨⟨old, he⟩, hit, hne⟩ := st
    obtain ⟨xs, x, hq, hx⟩ := hg
    obtain ⟨its, rv, p, hz⟩ := I.tuple hq
    obtain ⟨u, hu, ru⟩ := rv.get hx
    have hel : e < s.heap.objs.size := Heap.lt_size he
    have hil : it < s.heap.objs.size := by obtain ⟨_, q, _⟩ := hit; exact Heap.lt_size q
    have hle := rv.length
    have hax : a ≠ it := fun z => by
      subst z
      obtain ⟨o1, q1, q2, _⟩ := p
      obtain ⟨o2, q3, q4, _⟩ := hit
      rw [q1] at q3; cases q3; exact absurd (Value.type.inj (q2.symm.trans q4)) (by decide)
    have hae : e ≠ a := fun z => by
      subst z
      obtain ⟨o1, q1, q2, _⟩ := p
      rw [he] at q1; cases q1; exact absurd (Value.type.inj q2) (by decide)
    have hlt : i < its.toArray.size := by
      have := (List.getElem?_eq_some_iff.mp hu).1
      simpa using this
    refine wpAny_pyNext_enum_itemD (draws_tup (prog := X.prog) (w := X.w) (A := X.A.in1) (I.ok.hd hc) it a hax its.toArray) he ⟨hit, p⟩ hlt hne (by simp [hne, hae]) fun y h' tk hy ho hst' hT hsz hk => ?_
    have hyu : y = u := by
      have hy : its.toArray[i]? = some y := hy
      simp only [List.getElem?_toArray] at hy
      rw [hu] at hy
      exact (Option.some.inj hy).symm
    subst hyu
    refine ⟨_, rfl, wpAny_letOwnedTupleGo_enum (s := { s with heap := h', toks := tk + 1 }) ho fun h'' he' sb => ?_⟩
    have hT2 : h''.get? s.heap.objs.size = some { cls := .type "tuple", data := .seq #[.int i tk, y] } := (sb.2 _ (Nat.ne_of_gt hel)).trans hT
    have new : ObjOk X.prog X.w (upd H s.heap.objs.size (.tup [.int (i : Nat), x])) h'' s.heap.objs.size (.tup [.int (i : Nat), x]) :=
      ⟨by show 2 ≤ sizeLine; decide, [.int i tk, y], .cons ⟨_, rfl⟩ (.cons ru .nil), ⟨_, hT2, rfl, _, rfl⟩⟩
    have I1 : L2.Inv X pins σ (upd H s.heap.objs.size (.tup [.int (i : Nat), x])) { s with heap := h'', toks := tk + 1 } :=
      I.turnedNew (ch := [e, it]) (fun b ob hb q => (sb.2 b (fun z => hb (by simp [z]))).trans (hk b ob (fun z => hb (by simp [z])) (fun z => hb (by simp [z])) q)) hf (Nat.le_refl _) new
    refine ⟨.ref s.heap.objs.size, _, I1, rfl, ⟨_, x, rfl, I.hok.fresh (Nat.le_refl _), rfl, fun ys hy => by rw [I.tuple_inj hy hq]; exact hx⟩, ⟨⟨y, ?_⟩, hst'.1.at fun o q => (sb.2 it (Ne.symm hne)).trans q, hne⟩, fun b hb => ?_⟩
    · have e1 : ((i + 1 : Nat) : Int) = (i : Int) + 1 := by omega
      rw [e1]; exact he'
    · have hb' : b < s.heap.objs.size := by
        have e' : b = e ∨ b = it := by simpa using hb
        rcases e' with z | z
        · rw [z]; exact hel
        · rw [z]; exact hil
      rw [upd_ne (Nat.ne_of_lt hb')]
      exact (hf b hb).1
  done := by
    intro X hP hw hK hc i pins s σ H E I hf st hg
    subst hP hw hK
    obtain ⟨⟨old, he⟩, hit, hne⟩ := st
    obtain ⟨xs, hq, hx⟩ := hg
    obtain ⟨its, rv, p, hz⟩ := I.tuple hq
    obtain ⟨f0, f1, f2, f3, f4, f5⟩ := hf it (by simp)
    have hl := rv.length
    exact enumT_end (I.ok.hd hc) he hit p (by simp; omega) fun h' eb => ⟨rfl, I.turned (t' := s.toks) (fun b o hb q => eb b o hb q) f0 f1 f3 f4 f5⟩
  self := fun A i s Q E st h => let ⟨⟨_, he⟩, _⟩ := st; wpAny_pyIter_enum he h
theorem walk_enumT {K : PySem.W.Frag} {a : Addr} {xs : List V} : Walk (Iet K a) xs.length (fun H => SqT K H a xs) (YPair (fun i => some (.int (i : Nat))) (fun i => xs[i]?)) := by
  refine ⟨fun i _ hi q => ⟨xs, xs[i], q, by simp [hi]⟩, fun _ q => ⟨xs, q, Nat.le_refl _⟩, fun i H v H' _ q y => ?_⟩
  obtain ⟨T, x, h1, h2, h3, h4⟩ := y
  exact ⟨T, .int (i : Nat), x, h1, h2, h3, rfl, h4 xs q⟩
section
variable {X : Cx}
/-- over a list or a tuple -/
def iSeq (K : PySem.W.Frag) (tl : TE) : TI := fun σ H R => tl σ H fun x H1 => ∃ a, x = .ref a ∧ ((∃ xs, SqL K H1 a xs ∧ R (Itl K a) H1) ∨ ∃ xs, SqT K H1 a xs ∧ R (Itt K a) H1)
theorem pi_seq {tg l : Expr} {tl : TE} (hl : PE X l tl) : PI X tg l (iSeq X.K tl) := by
  refine ⟨fun pins s σ H R I h => ?_⟩
  refine thn (hl.run pins s σ H _ I h) fun v s1 ⟨x, H1, I1, r1, a, e, q1⟩ => ?_
  subst e
  cases r1
  have own : ∀ b ∈ [s1.heap.objs.size], FpOk X pins H1 b := fun b hb => by
    have e : b = s1.heap.objs.size := by simpa using hb
    rw [e]
    exact I1.fpOk (Nat.le_refl _) (I1.hok.fresh (Nat.le_refl _))
  rcases q1 with ⟨xs, hq, q⟩ | ⟨xs, hq, q⟩
  · obtain ⟨its, rv, p, hz⟩ := I1.list hq
    refine wpAny_pyIter_list p.isList ?_
    exact ⟨s1.heap.objs.size, [s1.heap.objs.size], _, _, H1, rfl, I1.kept (t' := s1.toks) fun b o e => Heap.get?_push_of_some _ e, turn_list a _, ⟨_, Heap.get?_push_size _ rfl, rfl, rfl⟩, own, q⟩
  · obtain ⟨its, rv, p, hz⟩ := I1.tuple hq
    refine wpAny_pyIter_tuple (show s1.heap.IsTuple a its.toArray from p) ?_
    exact ⟨s1.heap.objs.size, [s1.heap.objs.size], _, _, H1, rfl, I1.kept (t' := s1.toks) fun b o e => Heap.get?_push_of_some _ e, turn_tuple a _, ⟨_, Heap.get?_push_size _ rfl, rfl, rfl⟩, own, q⟩
def iEnumS (K : PySem.W.Frag) (ta : TA) : TI := fun σ H R => ta σ H fun vs H1 => ∃ a, vs = [.ref a] ∧ ((∃ xs, SqL K H1 a xs ∧ R (Ite K a) H1) ∨ ∃ xs, SqT K H1 a xs ∧ R (Iet K a) H1)
theorem pi_enumS {e : Expr} {ta : TA} {p pos tpos : Pos} {elts : List Expr} {kk : Nat} (hg : Gl X "enumerate") (hm : X.mg "enumerate" = none) (ha : PA X [e] ta) (hs : starEach [e] X.env = [(false, eval e X.env)]) :
    PI X (.Tuple elts kk tpos) (.Call (.Name "enumerate" p) [e] [] pos) (iEnumS X.K ta) := by
  refine ⟨fun pins s σ H R I h => ?_⟩
  refine Call_ (ld_blt I hg hm boot_enumerate (PyProof.Rows.callWith_type1 (thn (ha.run pos pins s σ H _ I h) fun us s1 ⟨vs, H1, I1, r1, a, ex, q1⟩ => ?_) hs rfl))
  subst ex
  obtain ⟨u, rfl, ru⟩ := vals1 r1
  cases (show u = Value.ref a from ru)
  have own : ∀ b ∈ [s1.heap.objs.size + 1, s1.heap.objs.size], FpOk X pins H1 b := fun b hb => by
    have e' : b = s1.heap.objs.size + 1 ∨ b = s1.heap.objs.size := by simpa using hb
    have hle : s1.heap.objs.size ≤ b := by rcases e' with z | z <;> omega
    exact I1.fpOk hle (I1.hok.fresh hle)
  rcases q1 with ⟨xs, hq, q⟩ | ⟨xs, hq, q⟩
  · obtain ⟨its, rv, p', hz⟩ := I1.list hq
    refine call_enumerate_list p'.isList ?_
    intro h' he hit hsz hk
    refine wpAny_pyIter_enum he ?_
    exact ⟨s1.heap.objs.size + 1, [s1.heap.objs.size + 1, s1.heap.objs.size], _, _, H1, rfl, I1.kept (t' := s1.toks) hk, turn_enum a (s1.heap.objs.size + 1) s1.heap.objs.size, ⟨⟨.none, he⟩, hit, Nat.succ_ne_self _⟩, own, q⟩
  · obtain ⟨its, rv, p', hz⟩ := I1.tuple hq
    refine call_enumT (show s1.heap.IsTuple a its.toArray from p') ?_
    intro h' he hit hsz hk
    refine wpAny_pyIter_enum he ?_
    exact ⟨s1.heap.objs.size + 1, [s1.heap.objs.size + 1, s1.heap.objs.size], _, _, H1, rfl, I1.kept (t' := s1.toks) hk, turn_enumT a (s1.heap.objs.size + 1) s1.heap.objs.size, ⟨⟨.none, he⟩, hit, Nat.succ_ne_self _⟩, own, q⟩
end
end Q

set_option Elab.async false
set_option linter.all false
set_option maxRecDepth 100000
/-! W16: what a loop walks; for; while. -/
namespace Q
open Snd
open PySem PySem.Spec PyProof.Rows L2

/-- an iterator that gives these data, one by one -/
structure ItQ (P : RP) (J : It) (H1 : Hp) (ds : List D) : Prop where
  goes : ∀ i H2, FixIn H1 H2 → i < ds.length → J.go i H2
  stops : ∀ H2, FixIn H1 H2 → J.stop ds.length H2
  yields : ∀ i H2 x H3, FixIn H1 H2 → i < ds.length → J.yld i H2 x H3 → Grow H2 H3 ∧ ∃ d, ds[i]? = some d ∧ Rep P H3 d x []
def tIt (P : RP) (F : FR) (W : WX) (g : G) (b : Below) (src : Src) : TI := fun σ H R => ∃ sl own, Sim P F sl σ H own ∧ Res P F W σ H own (evSrc g b src sl) fun p => ∀ J H1 own1, ItQ P J H1 p.1 → PostT P F false σ H own sl p.2 H1 own1 → R J H1
theorem _root_.L2.PI.weak {X : Cx} {tg e : Expr} {t t' : TI} (h : PI X tg e t) (k : ∀ σ H Q, t' σ H Q → t σ H Q) : PI X tg e t' := ⟨fun pins s σ H Q I q => h.run pins s σ H Q I (k σ H Q q)⟩
section
variable {P : RP} {F : FR} {W : WX} {g : G} {b : Below} {X : Cx} {a c e : E} {es : List E} {A1 A2 tg : Expr} {As : List Expr} {pos p : Pos} {σ σ' : L2.St} {H H1 H2 : Hp} {own own1 own2 : List Addr} {sl sl1 sl2 : Sl} {En : Ends} {s : S} {ss : List S} {st : Stmt} {sts : List Stmt}
/-- the items of a sequence -/
theorem Rep.itm {d : D} {v : V} {as : List Addr} {ds : List D} (h : Rep P H d v as) (e : items d = some ds) : ∃ ad vs, v = .ref ad ∧ Reps P H ds vs [] ∧ ((∀ H2, FixIn H H2 → SqL P.K H2 ad vs) ∨ (∀ H2, FixIn H H2 → SqT P.K H2 ad vs)) := by
  cases d with
  | tup xs =>
    obtain ⟨ad, vs, rfl, hT, r⟩ := h.sqT
    simp only [items] at e
    split at e
    · rename_i f
      cases e
      exact ⟨ad, vs, rfl, r.fz f, .inr fun H2 f => f.sqT hT⟩
    · cases e
  | lst m xs =>
    cases m with
    | true => cases e
    | false =>
      cases e
      cases h with
      | lstF h r => exact ⟨_, _, rfl, r, .inl fun H2 f => (f.sqF h).l⟩
  | _ => cases e
theorem itq_at {J : It} {n : Nat} {GG : Hp → Prop} {ds : List D} {vs : List V} (w : Walk J n GG (YAt vs)) (hn : n = ds.length) (hG : ∀ H2, FixIn H1 H2 → GG H2) (r : Reps P H1 ds vs []) : ItQ P J H1 ds := by
  subst hn
  refine ⟨fun i H2 f hi => w.goes i H2 hi (hG H2 f), fun H2 f => w.stops H2 (hG H2 f), fun i H2 x H3 f hi y => ?_⟩
  obtain ⟨rfl, y2⟩ := w.yields i H2 x H3 hi (hG H2 f) y
  obtain ⟨d, hd⟩ : ∃ d, ds[i]? = some d := ⟨ds[i], by simp [hi]⟩
  obtain ⟨v, bs, h1, h2, h3⟩ := r.get hd
  rw [y2] at h1
  cases h1
  have : bs = [] := List.eq_nil_iff_forall_not_mem.mpr fun a z => nomatch h3 a z
  subst this
  exact ⟨.refl, d, hd, h2.frameE f⟩
theorem itq_list {ad : Addr} {ds : List D} {vs : List V} (hq : ∀ H2, FixIn H1 H2 → SqL P.K H2 ad vs) (r : Reps P H1 ds vs []) : ItQ P (Itl P.K ad) H1 ds := itq_at walk_list r.length.symm hq r
theorem itq_tup {ad : Addr} {ds : List D} {vs : List V} (hq : ∀ H2, FixIn H1 H2 → SqT P.K H2 ad vs) (r : Reps P H1 ds vs []) : ItQ P (Itt P.K ad) H1 ds := itq_at walk_tup r.length.symm hq r
theorem itq_range {lo : Int} {n : Nat} : ItQ P (Itr lo n) H1 ((List.range n).map fun (i : Nat) => D.int (lo + (i : Int))) := by
  refine ⟨fun i H2 f hi => (show i < n by simpa using hi), fun H2 f => (show n ≤ _ by simp), fun i H2 x H3 f hi y => ?_⟩
  obtain ⟨rfl, rfl⟩ : H3 = H2 ∧ x = .int (lo + i) := y
  exact ⟨.refl, .int (lo + i), by have hi : i < n := by simpa using hi
                                  simp [hi], .int _⟩
/-- pairs, each a new tuple -/
theorem itq_pair {J : It} {n : Nat} {GG : Hp → Prop} {f1 f2 : Nat → Option V} {ds : List D} (w : Walk J n GG (YPair f1 f2)) (hn : n = ds.length) (hG : ∀ H2, FixIn H1 H2 → GG H2)
    (hd : ∀ i H2 x y, FixIn H1 H2 → f1 i = some x → f2 i = some y → i < n → ∃ d1 d2, ds[i]? = some (.tup [d1, d2]) ∧ Rep P H2 d1 x [] ∧ Rep P H2 d2 y []) : ItQ P J H1 ds := by
  subst hn
  refine ⟨fun i H2 f hi => w.goes i H2 hi (hG H2 f), fun H2 f => w.stops H2 (hG H2 f), fun i H2 x H3 f hi y => ?_⟩
  obtain ⟨T, x1, y1, rfl, hT, rfl, q1, q2⟩ := w.yields i H2 x H3 hi (hG H2 f) y
  obtain ⟨d1, d2, e, r1, r2⟩ := hd i H2 x1 y1 f q1 q2 hi
  exact ⟨.upd hT, _, e, .tup (.of upd_same) (.fcons (r1.frameG (.upd hT)) (.fcons (r2.frameG (.upd hT)) .nil))⟩
theorem enum_get {xs : List D} {i : Nat} {d : D} (h : xs[i]? = some d) : (enumD xs)[i]? = some (.tup [.int (i : Int), d]) := by
  unfold enumD
  have hi : i < xs.length := (List.getElem?_eq_some_iff.mp h).1
  rw [List.getElem?_zipWith, h]
  simp [hi]
theorem enum_len {xs : List D} : (enumD xs).length = xs.length := by simp [enumD]
theorem itq_enum {J : It} {GG : Hp → Prop} {ds : List D} {vs : List V} (w : Walk J vs.length GG (YPair (fun i => some (.int (i : Nat))) fun i => vs[i]?)) (hG : ∀ H2, FixIn H1 H2 → GG H2) (r : Reps P H1 ds vs []) : ItQ P J H1 (enumD ds) :=
  itq_pair w (by rw [enum_len, r.length]) hG fun i H2 x y f e1 e2 hi => by
    cases e1
    obtain ⟨d, hd⟩ : ∃ d, ds[i]? = some d := ⟨ds[i]'(by rw [r.length]; exact hi), by simp [r.length, hi]⟩
    obtain ⟨v, bs, h1, h2, h3⟩ := r.get hd
    rw [e2] at h1
    cases h1
    have : bs = [] := List.eq_nil_iff_forall_not_mem.mpr fun a z => nomatch h3 a z
    subst this
    exact ⟨_, d, enum_get hd, .int _, h2.frameE f⟩
/-! the sources -/
theorem i_e (hK : X.K = P.K) (h1 : PE X A1 (tE P F W g b a)) : PI X tg A1 (tIt P F W g b (.e a)) :=
  (pi_seq h1).weak fun σ H R ⟨sl, own, sim, h⟩ => ⟨sl, own, sim, (Res.bind h).mono fun p _ h v H1 own1 as1 p1 => by
    obtain ⟨ds, e, h⟩ := h.ofB
    obtain ⟨ad, vs, rfl, r, hq | hq⟩ := p1.rep.itm e
    · exact ⟨ad, rfl, .inl ⟨vs, by rw [hK]; exact hq H1 .refl, by rw [hK]; exact h _ H1 own1 (itq_list hq r) ⟨p1.sim, p1.step, fun z => (nomatch z)⟩⟩⟩
    · exact ⟨ad, rfl, .inr ⟨vs, by rw [hK]; exact hq H1 .refl, by rw [hK]; exact h _ H1 own1 (itq_tup hq r) ⟨p1.sim, p1.step, fun z => (nomatch z)⟩⟩⟩⟩
theorem i_enum {elts : List Expr} {kk : Nat} {tpos : Pos} (hK : X.K = P.K) (hg : Gl X "enumerate") (hm : X.mg "enumerate" = none) (hs : plainA A1 = true) (h1 : PE X A1 (tE P F W g b a)) : PI X (.Tuple elts kk tpos) (.Call (.Name "enumerate" p) [A1] [] pos) (tIt P F W g b (.enum a)) :=
  (pi_enumS hg hm (pa_cons h1 pa_nil (star_plain hs)) (star_plain hs)).weak fun σ H R ⟨sl, own, sim, h⟩ => ⟨sl, own, sim, (Res.bind h).mono fun p _ h v H1 own1 as1 p1 => by
    obtain ⟨ds, e, h⟩ := h.ofB
    obtain ⟨ad, vs, rfl, r, hq | hq⟩ := p1.rep.itm e
    · exact ⟨ad, rfl, .inl ⟨vs, by rw [hK]; exact hq H1 .refl, by rw [hK]; exact h _ H1 own1 (itq_enum walk_enum hq r) ⟨p1.sim, p1.step, fun z => (nomatch z)⟩⟩⟩
    · exact ⟨ad, rfl, .inr ⟨vs, by rw [hK]; exact hq H1 .refl, by rw [hK]; exact h _ H1 own1 (itq_enum walk_enumT hq r) ⟨p1.sim, p1.step, fun z => (nomatch z)⟩⟩⟩⟩
theorem small_of {j : Int} (h : small62 j = true) : -(2 ^ 62) ≤ j ∧ j < 2 ^ 62 := by simpa [small62] using h
theorem i_rng1 (hg : Gl X "range") (hm : X.mg "range" = none) (hs : plainA A1 = true) (h1 : PE X A1 (tE P F W g b a)) : PI X tg (.Call (.Name "range" p) [A1] [] pos) (tIt P F W g b (.rng1 a)) :=
  (pi_range1 hg hm (pa_cons h1 pa_nil (star_plain hs)) (star_plain hs)).weak fun σ H R ⟨sl, own, sim, h⟩ => ⟨sl, own, sim, (Res.bind h).mono fun p _ h v H1 own1 as1 p1 => by
    obtain ⟨d, slp⟩ := p
    cases d with
    | int j =>
      have r := p1.rep
      cases r
      simp only at h
      split at h
      · rename_i hj
        obtain ⟨j1, j2⟩ := small_of hj
        have q : ItQ P (Itr 0 j.toNat) H1 (rangeD 0 j) := by
          have := itq_range (P := P) (H1 := H1) (lo := 0) (n := j.toNat)
          simpa [rangeD] using this
        exact ⟨j, rfl, j1, j2, h _ H1 own1 q ⟨p1.sim, p1.step, fun z => (nomatch z)⟩⟩
      · exact h.elim
    | _ => exact h.elim⟩
theorem i_rng2 (hg : Gl X "range") (hm : X.mg "range" = none) (hs : plainA A1 = true) (hs2 : plainA A2 = true) (h1 : PE X A1 (tE P F W g b a)) (h2 : PE X A2 (tE P F W g b c)) : PI X tg (.Call (.Name "range" p) [A1, A2] [] pos) (tIt P F W g b (.rng2 a c)) :=
  (pi_range2 hg hm (pa_cons h1 (pa_cons h2 pa_nil (star_plain hs2)) (star_plain hs)) (by rw [star_plain hs, star_plain hs2]; rfl) (star_plain hs2)).weak fun σ H R ⟨sl, own, sim, h⟩ => ⟨sl, own, sim, (Res.bind h).mono fun p _ h v H1 own1 as1 p1 => ⟨p.2, own1, p1.sim, (h.bind.after p1.step).mono fun q _ h v2 H2 own2 as2 p2 => by
    obtain ⟨d, slp⟩ := p
    obtain ⟨d2, slq⟩ := q
    cases d with
    | int i =>
      cases d2 with
      | int j =>
        have r := p1.rep
        have r2 := p2.rep
        cases r
        cases r2
        simp only at h
        split at h
        · rename_i hj
          rw [Bool.and_eq_true] at hj
          obtain ⟨i1, i2⟩ := small_of hj.1
          obtain ⟨j1, j2⟩ := small_of hj.2
          exact ⟨i, j, rfl, ⟨i1, i2, j1, j2⟩, h _ H2 own2 itq_range ⟨p2.sim, p1.step.trans p2.step, fun z => (nomatch z)⟩⟩
        · exact h.elim
      | _ => exact h.elim
    | _ => exact h.elim⟩⟩
/-! loops -/
def contK (cont : Sl → R (Fl × Sl)) : Fl × Sl → R (Fl × Sl) := fun p => match p.1 with
  | .nx => cont p.2
  | .cont => cont p.2
  | .brk => .ok (.nx, p.2)
  | .ret v => .ok (.ret v, p.2)
theorem loop_body {m : R (Fl × Sl)} {cont : Sl → R (Fl × Sl)} {N : L2.St → Hp → Prop} (st : Step own H H1 own1) (h : ResS P F W H own En (m.bind (contK cont)))
    (hN : ∀ s σ' H' own', PostS P F H1 own1 s σ' H' own' → ResS P F W H own En (cont s) → N σ' H') : ResS P F W H1 own1 { En with nx := N, ct := N, bk := En.nx } m := by
  cases m with
  | ok p =>
    obtain ⟨fl, s⟩ := p
    cases fl with
    | nx => exact fun σ' H' own' x => hN s σ' H' own' x h
    | cont => exact fun σ' H' own' x => hN s σ' H' own' x h
    | brk =>
      have h : ResS P F W H own En (.ok (.nx, s)) := h
      exact ResS.after st h
    | ret d =>
      have h : ResS P F W H own En (.ok (.ret d, s)) := h
      exact ResS.after st h
  | exc cc fs s => exact ResS.after (En := En) (m := .exc cc fs s) st h
  | bad => exact h
theorem for_read {t : Tg} {src : Src} {body : List S} (h : tS P F W g b (.fors t src body) En σ H) : tFor (tIt P F W g b src) (gT P F t) (tSs P F W g b body) En σ H := by
  obtain ⟨sl, own, sim, h⟩ := h
  refine ⟨sl, own, sim, (ResS.expr h).mono fun p _ h J H1 own1 it p1 => ?_⟩
  obtain ⟨ds, sl0⟩ := p
  refine ⟨fun i m σ2 H2 => m = ds.length - i ∧ i ≤ ds.length ∧ ∃ sl2 own2, Sim P F sl2 σ2 H2 own2 ∧ Step own H H2 own2 ∧ FixIn H1 H2 ∧ ResS P F W H own En (exFor t (exs g b body) (ds.drop i) sl2), ⟨ds.length, by simp, Nat.zero_le _, sl0, own1, p1.sim, p1.step, .refl, by simpa using h⟩, ?_⟩
  rintro i m σ2 H2 ⟨rfl, hi, sl2, own2, sim2, st2, fx, h⟩
  by_cases hlt : i < ds.length
  · refine .inr ⟨it.goes i H2 fx hlt, fun σ' H' => ∃ sl2 own2, Sim P F sl2 σ' H' own2 ∧ Step own H H' own2 ∧ FixIn H1 H' ∧ ResS P F W H own En (exFor t (exs g b body) (ds.drop (i + 1)) sl2), fun σ' H' ⟨s', o', q1, q2, q3, q4⟩ => ⟨ds.length - (i + 1), by omega, rfl, hlt, s', o', q1, q2, q3, q4⟩, fun x H' y => ?_⟩
    obtain ⟨gr, d, hd, rd⟩ := it.yields i H2 x H' fx hlt y
    have hdrop : ds.drop i = d :: ds.drop (i + 1) := by
      rw [List.drop_eq_getElem_cons hlt]
      congr 1
      rw [List.getElem?_eq_getElem hlt] at hd
      exact Option.some.inj hd
    rw [hdrop] at h
    obtain ⟨s1, e1, h⟩ := ResS.ofB (show ResS P F W H own En ((R.of (asg t d sl2)).bind fun sl1 => (exs g b body sl1).bind fun p => match p.1 with | .nx => exFor t (exs g b body) (ds.drop (i + 1)) p.2 | .cont => exFor t (exs g b body) (ds.drop (i + 1)) p.2 | .brk => .ok (.nx, p.2) | .ret v => .ok (.ret v, p.2)) from h)
    refine ⟨sl2, own2, d, s1, sim2.grow gr, rd, e1, fun σ' own' sim' sub _ => ⟨s1, own', sim', ?_⟩⟩
    have st' : Step own H H' own' := ⟨(st2.trans gr.step).keep, (st2.trans gr.step).tbl, fun x z => st2.new x (sub x z)⟩
    exact loop_body (cont := fun s => exFor t (exs g b body) (ds.drop (i + 1)) s) st' h fun s σ3 H3 own3 x hc => ⟨s, own3, x.sim, st'.trans x.step, (fx.trans gr.fix).trans (x.step.fix sim'.r.own), hc⟩
  · have e : i = ds.length := by omega
    subst e
    rw [List.drop_length] at h
    exact .inl ⟨it.stops H2 fx, h σ2 H2 own2 ⟨sim2, st2⟩⟩
theorem s_fors {t : Tg} {src : Src} {body : List S} {Bs : List Stmt} (hp : PassesOwn (model X.prog X.w) X.A X.env X.xe) (hc : X.calm = true) (h1 : PI X tg A1 (tIt P F W g b src)) (h2 : PG X tg (gT P F t)) (h3 : PSs X Bs (tSs P F W g b body)) (hs : ∀ x, foldedSetIterable A1 X.env x = pure x) :
    PS X (.For tg A1 Bs [] pos) (tS P F W g b (.fors t src body)) := (ps_for hp hc h1 h2 h3 hs).weak fun D σ H h => for_read h
theorem while_read {t : E} {body : List S} (h : tS P F W g b (.while t body) En σ H) : tWhile (TQ P F W g b t) (tSs P F W g b body) En σ H := by
  obtain ⟨sl, own, sim, h⟩ := h
  have h : ResS P F W H own En (exWhile (tst g b t) (exs g b body) g.fuel sl) := h
  refine ⟨fun n σ2 H2 => ∃ sl2 own2, Sim P F sl2 σ2 H2 own2 ∧ Step own H H2 own2 ∧ ResS P F W H own En (exWhile (tst g b t) (exs g b body) n sl2), ⟨g.fuel, sl, own, sim, .refl, h⟩, ?_⟩
  rintro n σ2 H2 ⟨sl2, own2, sim2, st2, h⟩
  cases n with
  | zero => exact h.elim
  | succ n =>
    refine ⟨sl2, own2, sim2, Res.after st2 ((ResS.expr (σ := σ2) h).mono fun p _ h H3 own3 p3 => ?_)⟩
    obtain ⟨kb, sl3⟩ := p
    have st3 := st2.trans p3.step
    cases kb with
    | false => exact h σ2 H3 own3 ⟨p3.sim, st3⟩
    | true =>
      refine ⟨fun σ' H' => ∃ sl2 own2, Sim P F sl2 σ' H' own2 ∧ Step own H H' own2 ∧ ResS P F W H own En (exWhile (tst g b t) (exs g b body) n sl2), fun σ' H' q => ⟨n, by omega, q⟩, sl3, own3, p3.sim, ?_⟩
      exact loop_body (cont := fun s => exWhile (tst g b t) (exs g b body) n s) st3 h fun s σ4 H4 own4 x hc => ⟨s, own4, x.sim, st3.trans x.step, hc⟩
theorem s_while {t : E} {body : List S} {Bs : List Stmt} (hp : PassesOwn (model X.prog X.w) X.A X.env X.xe) (h1 : PT X A1 (TQ P F W g b t)) (h3 : PSs X Bs (tSs P F W g b body)) : PS X (.While A1 Bs [] pos) (tS P F W g b (.while t body)) :=
  (ps_while hp h1 h3).weak fun D σ H h => while_read h
end
end Q

set_option Elab.async false
set_option linter.all false
set_option maxRecDepth 100000
/-! W17: list comprehensions. -/
namespace Q
open Snd
open PySem PySem.Spec PyProof.Rows L2

section
variable {P : RP} {F : FR} {W : WX} {g : G} {b : Below} {X : Cx} {a c e : E} {es : List E} {A1 A2 tg : Expr} {As : List Expr} {pos p : Pos} {σ σ' : L2.St} {H H1 H2 : Hp} {own own1 own2 : List Addr} {sl sl1 sl2 : Sl}
theorem SlR.setσ (h : SlR P H sl σ own) : ∀ {v : Nat} {x : Option V}, getX v sl = none → SlR P H sl (σ.set v x) own := by
  induction h with
  | nil => intro v x _; exact .nil
  | @no y x0 sl σ own hy r ih =>
    intro v x e
    cases v with
    | zero => exact .no hy r
    | succ v => exact .no hy (ih (by simpa [getX] using e))
  | @yes d v0 as sl σ own h r ih =>
    intro v x e
    cases v with
    | zero => simp [getX] at e
    | succ v => exact .yes h (ih (by simpa [getX] using e))
theorem wipe_sub : ∀ {ws vs : List Nat}, (∀ w ∈ ws, w ∈ vs) → L2.wipe (L2.wipe σ ws) vs = L2.wipe σ vs
  | [], _, _ => rfl
  | w :: ws, vs, h => by
    show L2.wipe ((L2.wipe σ ws).set w none) vs = _
    rw [wipe_set (h w List.mem_cons_self)]
    exact wipe_sub fun x z => h x (List.mem_cons_of_mem _ z)
theorem wipe_wipe {vs : List Nat} : L2.wipe (L2.wipe σ vs) vs = L2.wipe σ vs := wipe_sub fun _ z => z
theorem SlR.wipe (h : SlR P H sl σ own) : ∀ {vs : List Nat}, clear sl vs = true → SlR P H sl (L2.wipe σ vs) own
  | [], _ => h
  | v :: vs, hc => by
    simp only [clear, List.all_cons, Bool.and_eq_true, Option.isNone_iff_eq_none] at hc
    exact (SlR.wipe h hc.2).setσ hc.1
theorem SlR.unwipe : ∀ {vs : List Nat}, clear sl vs = true → SlR P H sl (L2.wipe σ vs) own → SlR P H sl σ own
  | [], _, h => h
  | v :: vs, hc, h => by
    simp only [clear, List.all_cons, Bool.and_eq_true, Option.isNone_iff_eq_none] at hc
    have h2 := h.setσ (v := v) (x := ((L2.wipe σ vs)[v]?).bind id) hc.1
    have e : (L2.wipe σ (v :: vs)).set v (((L2.wipe σ vs)[v]?).bind id) = L2.wipe σ vs := by
      show ((L2.wipe σ vs).set v none).set v _ = L2.wipe σ vs
      rw [List.set_set]
      by_cases hv : v < (L2.wipe σ vs).length
      · apply set_same
        rw [List.getElem?_eq_getElem hv]
        rfl
      · exact List.set_eq_of_length_le (by omega)
    rw [e] at h2
    exact SlR.unwipe hc.2 h2
theorem wipeS_clear : ∀ {vs : List Nat}, clear sl vs = true → wipeS sl vs = sl
  | [], _ => rfl
  | v :: vs, hc => by
    simp only [clear, List.all_cons, Bool.and_eq_true, Option.isNone_iff_eq_none] at hc
    unfold wipeS
    rw [wipeS_clear hc.2]
    have hc1 := hc.1
    unfold getX at hc1
    by_cases hv : v < sl.length
    · rw [List.getElem?_eq_getElem hv] at hc1
      have : sl[v] = none := by simpa using hc1
      apply List.ext_getElem?
      intro i
      by_cases e : v = i
      · subst e
        rw [List.getElem?_set_self hv, List.getElem?_eq_getElem hv, this]
      · rw [List.getElem?_set_ne e]
    · exact List.set_eq_of_length_le (by omega)
theorem getX_wipe {v : Nat} {d : D} : ∀ {vs : List Nat}, getX v (wipeS sl vs) = some d → getX v sl = some d ∧ v ∉ vs
  | [], h => ⟨h, by simp⟩
  | w :: vs, h => by
    unfold wipeS at h
    unfold getX at h
    by_cases e : w = v
    · subst e
      by_cases hv : w < (wipeS sl vs).length
      · rw [List.getElem?_set_self hv] at h; cases h
      · rw [List.getElem?_eq_none (by simpa using hv)] at h; cases h
    · rw [List.getElem?_set_ne e] at h
      obtain ⟨h1, h2⟩ := getX_wipe (vs := vs) h
      exact ⟨h1, by simp [h2, Ne.symm e]⟩
theorem clear_wipe {vs : List Nat} : clear (wipeS sl vs) vs = true := by
  unfold clear
  rw [List.all_eq_true]
  intro v hv
  cases h : getX v (wipeS sl vs) with
  | none => rfl
  | some d => exact absurd hv (getX_wipe h).2
theorem SlR.wipeBoth (h : SlR P H sl σ own) (nd : own.Nodup) : ∀ (vs : List Nat), ∃ own', SlR P H (wipeS sl vs) (L2.wipe σ vs) own' ∧ own'.Nodup ∧ ∀ x ∈ own', x ∈ own
  | [] => ⟨own, h, nd, fun _ z => z⟩
  | v :: vs => by
    obtain ⟨own1, h1, n1, s1⟩ := SlR.wipeBoth h nd vs
    unfold wipeS L2.wipe
    by_cases hv : v < (wipeS sl vs).length
    · obtain ⟨old, pre, post, e1, k1, k2⟩ := h1.put hv
      refine ⟨pre ++ post, k2 FixIn.refl (fun _ _ => rfl), ?_, fun x z => s1 x ?_⟩
      · rw [e1] at n1
        exact n1.sublist (by rw [List.append_assoc]; exact List.Sublist.append_left (List.sublist_append_right _ _) _)
      · rw [e1]; rcases List.mem_append.mp z with z | z <;> simp [z]
    · have hl := h1.length
      rw [List.set_eq_of_length_le (by omega), List.set_eq_of_length_le (by omega)]
      exact ⟨own1, h1, n1, s1⟩
def offOwn (F : FR) (vs : List Nat) : Prop := ∀ p ∈ F.io, p.1 ∉ vs
theorem keepD {Dl : Addr} {o : HO} (st : Step own1 H1 H2 own2) (h : H1 Dl = some o) (t : isTbl o = false) (n : Dl ∉ own1) : H2 Dl = some o ∧ Dl ∉ own2 :=
  ⟨st.keep Dl o h n t, fun z => (st.new Dl z).elim n fun y => by rw [h] at y; cases y⟩
/-- the block at a turn -/
structure Blk (P : RP) (F : FR) (g : G) (b : Below) (σ : L2.St) (H H1 : Hp) (own : List Addr) (vs : List Nat) (t : Tg) (cond : Option E) (elt : E) (tot : List D) (slF : Sl) (Dl : Addr) (ds : List D) (H' : Hp) : Prop where
  ex : ∃ sl2 own2 accD accV rest, Sim P F (wipeS sl2 vs) (L2.wipe σ vs) H' own2 ∧ Dl ∉ own2 ∧ H' Dl = some (.lst accV) ∧ Reps P H' accD accV [] ∧ FixIn H1 H' ∧ Step own H H' own2 ∧ exComp vs t (evCond g b cond) (ev g b elt) ds sl2 = .ok (rest, slF) ∧ accD ++ rest = tot
theorem comp_read {vs : List Nat} {t : Tg} {src : Src} {cond : Option E} {elt : E} {tt : TT} (hio : offOwn F vs) (ht : ∀ i ∈ t.slots, i ∈ vs)
    (htt : ∀ (σ : L2.St) (H : Hp) (Q : Bool → Hp → Prop) (sl : Sl) (own : List Addr) (k : Bool) (s2 : Sl), Sim P F sl σ H own → evCond g b cond sl = .ok (k, s2) → (∀ H' own', Sim P F s2 σ H' own' → Step own H H' own' → Q k H') → tt σ H Q) (ke : elt.pk = false) {Q : VK}
    (h : tE P F W g b (.comp vs t src cond elt) σ H Q) : tLc (tIt P F W g b src) (gT P F t) tt (tE P F (fun _ _ _ _ => False) g b elt) vs σ H Q := by
  obtain ⟨sl, own, sim, h⟩ := h
  refine ⟨sl, own, sim, (Res.bind h).mono fun p _ h J H1 own1 it p1 => ?_⟩
  obtain ⟨ds, sl1⟩ := p
  simp only at h p1 it
  split at h
  case isFalse => exact h.elim
  rename_i hcl
  intro Dl hD
  cases m : exComp vs t (evCond g b cond) (ev g b elt) ds sl1 with
  | exc cc fs s => rw [m] at h; exact h.elim
  | bad => rw [m] at h; exact h.elim
  | ok q =>
  obtain ⟨tot, slF⟩ := q
  rw [m] at h
  simp only [noExc, R.bind] at h
  split at h
  case isFalse => exact h.elim
  rename_i hsz
  have gr : Grow H1 (upd H1 Dl (.lst [])) := .upd hD
  have nD1 : Dl ∉ own1 := fun z => by
    obtain ⟨o, ho, _⟩ := p1.sim.r.own Dl z
    rw [hD] at ho; cases ho
  refine ⟨fun i m H' => m = ds.length - i ∧ i ≤ ds.length ∧ Blk P F g b σ H H1 own vs t cond elt tot slF Dl (ds.drop i) H', ⟨ds.length, by simp, Nat.zero_le _, ⟨sl1, own1, [], [], tot, ?_, nD1, upd_same, .nil, gr.fix, p1.step.trans gr.step, by simpa using m, rfl⟩⟩, ?_⟩
  · have s0 := p1.sim.grow gr
    rw [wipeS_clear hcl]
    exact ⟨s0.r.wipe hcl, s0.nd, s0.tabs, fun q hq => by rw [wipe_out (hio q hq)]; exact s0.io q hq, s0.bas, s0.xs⟩
  rintro i mm H' ⟨rfl, hi, sl2, own2, accD, accV, rest, sim2, nD2, hDl, rAcc, fx, st2, hex, htot⟩
  by_cases hlt : i < ds.length
  · refine .inr ⟨it.goes i H' fx hlt, fun H'' => Blk P F g b σ H H1 own vs t cond elt tot slF Dl (ds.drop (i + 1)) H'', fun H'' q => ⟨ds.length - (i + 1), by omega, rfl, hlt, q⟩, fun x H2 y => ?_⟩
    obtain ⟨gr2, d, hd, rd⟩ := it.yields i H' x H2 fx hlt y
    have hdrop : ds.drop i = d :: ds.drop (i + 1) := by
      rw [List.drop_eq_getElem_cons hlt]
      congr 1
      rw [List.getElem?_eq_getElem hlt] at hd
      exact Option.some.inj hd
    rw [hdrop] at hex
    simp only [exComp] at hex
    cases e1 : asg t d (wipeS sl2 vs) with
    | none => rw [e1] at hex; cases hex
    | some s1 =>
    rw [e1] at hex
    simp only [R.of, R.bind] at hex
    cases e2 : evCond g b cond s1 with
    | exc cc fs s => rw [e2] at hex; cases hex
    | bad => rw [e2] at hex; cases hex
    | ok q2 =>
    obtain ⟨k, s2⟩ := q2
    rw [e2] at hex
    simp only at hex
    have next : ∀ (s3 : Sl) (σ3 : L2.St) (H3 : Hp) (own3 : List Addr) (accD' : List D) (accV' : List V) (rest' : List D), Sim P F s3 σ3 H3 own3 → L2.wipe σ3 vs = L2.wipe σ vs → Dl ∉ own3 → H3 Dl = some (.lst accV) → Reps P H3 accD' accV' [] → FixIn H1 H3 → Step own H H3 own3 →
        exComp vs t (evCond g b cond) (ev g b elt) (ds.drop (i + 1)) s3 = .ok (rest', slF) → accD' ++ rest' = tot → Blk P F g b σ H H1 own vs t cond elt tot slF Dl (ds.drop (i + 1)) (upd H3 Dl (.lst accV')) := by
      intro s3 σ3 H3 own3 accD' accV' rest' sim3 hw nD hH rA fx3 st3 hx htt
      obtain ⟨own4, r4, nd4, sub4⟩ := sim3.r.wipeBoth sim3.nd vs
      have f5 : FixIn H3 (upd H3 Dl (.lst accV')) := fix_upd hH rfl
      have nD4 : Dl ∉ own4 := fun z => nD (sub4 Dl z)
      have nDo : ∀ z o, H z = some o → z ∉ own → z ≠ Dl := fun z o hz hn e => by
        subst e
        cases t : isTbl o with
        | false => have := p1.step.keep z o hz hn t; rw [hD] at this; cases this
        | true =>
          cases o <;> simp [isTbl] at t
          obtain ⟨ps1, h1⟩ := p1.step.tbl z _ hz
          rw [hD] at h1; cases h1
      have st5 : Step own H (upd H3 Dl (.lst accV')) own4 := by
        refine ⟨fun z o hz hn t => ?_, fun z ps hz => ?_, fun z hz => st3.new z (sub4 z hz)⟩
        · rw [upd_ne (nDo z o hz hn)]; exact st3.keep z o hz hn t
        · obtain ⟨ps1, h1⟩ := st3.tbl z ps hz
          exact ⟨ps1, by rw [upd_ne fun e => by rw [e, hH] at h1; cases h1]; exact h1⟩
      have sim5 : Sim P F (wipeS s3 vs) (L2.wipe σ vs) (upd H3 Dl (.lst accV')) own4 := by
        rw [hw] at r4
        refine ⟨r4.frame f5 (upd_at nD4), nd4, tabs_of (fun z o hz f => ?_) sim3.tabs, fun q hq => ?_, sim.bas.step st5, fun j cc fs e => ?_⟩
        · rw [upd_ne fun e => by rw [e, hH] at hz; cases hz; cases f]; exact hz
        · rw [← hw, wipe_out (hio q hq)]; exact sim3.io q hq
        · obtain ⟨dd, h1, h2⟩ := sim3.xs j cc fs (getX_wipe e).1
          exact ⟨dd, h1, h2.fix f5⟩
      exact ⟨⟨s3, own4, accD', accV', rest', sim5, nD4, upd_same, rA.frame f5 (fun _ z => nomatch z), fx3.trans f5, st5, hx, htt⟩⟩
    refine ⟨wipeS sl2 vs, own2, d, s1, sim2.grow gr2, rd, e1, fun σ2 own3 sim3 sub sm => ⟨?_, ?_⟩⟩
    · rw [sm vs ht]
      exact wipe_wipe
    have hw : L2.wipe σ2 vs = L2.wipe σ vs := by rw [sm vs ht]; exact wipe_wipe
    have nD3 : Dl ∉ own3 := fun z => nD2 (sub Dl z)
    have hD2 : H2 Dl = some (.lst accV) := gr2 _ _ hDl
    have stA : Step own H H2 own3 := ⟨(st2.trans gr2.step).keep, (st2.trans gr2.step).tbl, fun z hz => st2.new z (sub z hz)⟩
    refine htt σ2 H2 _ s1 own3 k s2 sim3 e2 fun H3 own4 sim4 st4 => ?_
    obtain ⟨hD3, nD4⟩ := keepD st4 hD2 rfl nD3
    have fx3 : FixIn H1 H3 := (fx.trans gr2.fix).trans (st4.fix sim3.r.own)
    have rA3 : Reps P H3 accD accV [] := rAcc.frame (gr2.fix.trans (st4.fix sim3.r.own)) fun _ z => nomatch z
    cases k with
    | false =>
      have same : upd H3 Dl (.lst accV) = H3 := by
        funext z
        by_cases e : z = Dl
        · subst e; rw [upd_same, hD3]
        · rw [upd_ne e]
      have := next s2 σ2 H3 own4 accD accV rest sim4 hw nD4 hD3 rA3 fx3 (stA.trans st4) hex htot
      rw [same] at this
      exact this
    | true =>
      simp only at hex
      cases e3 : ev g b elt s2 with
      | exc cc fs s => rw [e3] at hex; cases hex
      | bad => rw [e3] at hex; cases hex
      | ok q3 =>
      rw [e3] at hex
      simp only at hex
      split at hex
      case isFalse => cases hex
      rename_i hf
      cases e4 : exComp vs t (evCond g b cond) (ev g b elt) (ds.drop (i + 1)) q3.2 with
      | exc cc fs s => rw [e4] at hex; cases hex
      | bad => rw [e4] at hex; cases hex
      | ok q4 =>
      rw [e4] at hex
      simp only at hex
      cases hex
      refine ⟨s2, own4, sim4, ?_⟩
      rw [e3]
      show ∀ v H' own' as, PostE P F g b elt σ2 H3 own4 s2 q3.1 v q3.2 H' own' as → _
      intro v H4 own5 as5 p5
      obtain ⟨hD4, nD5⟩ := keepD p5.step hD3 rfl nD4
      have rv := p5.rep.fz hf
      have f4 := p5.step.fix sim4.r.own
      refine ⟨accV, hD4, ?_, ?_⟩
      · have l1 := rAcc.length
        have : tot.length = accD.length + (q4.1.length + 1) := by rw [← htot]; simp
        omega
      · exact next q3.2 σ2 H4 own5 (accD ++ [q3.1]) (accV ++ [v]) q4.1 p5.sim hw nD5 hD4 ((show Reps P H4 accD accV [] from rA3.frame f4 fun _ z => nomatch z).fapp (.fcons rv .nil)) (fx3.trans f4) ((stA.trans st4).trans p5.step) e4 (by rw [← htot]; simp)
  · have e : i = ds.length := by omega
    subst e
    rw [List.drop_length] at hex
    simp only [exComp] at hex
    cases hex
    refine .inl ⟨it.stops H' fx, ?_⟩
    have ht2 : accD = tot := by simpa using htot
    subst ht2
    have cl2 : clear (wipeS slF vs) vs = true := clear_wipe
    exact h (.ref Dl) H' own2 [Dl] ⟨⟨SlR.unwipe cl2 sim2.r, sim2.nd, sim2.tabs, fun q hq => by have := sim2.io q hq; rw [wipe_out (hio q hq)] at this; exact this, sim2.bas, sim2.xs⟩, .lstO hDl rAcc, st2, fun _ => ⟨by simpa using ⟨nD2, sim2.nd⟩, fun a z => by rw [List.mem_singleton.mp z]; exact p1.step.back hD⟩, fun z => (nomatch z), fun j z => (nomatch z), fun z => (nomatch z)⟩
end
end Q

set_option Elab.async false
set_option linter.all false
set_option maxRecDepth 100000
set_option maxHeartbeats 4000000
/-! W23: any, all of a generator expression: the core. -/
namespace Q
open Snd
open PySem PySem.Spec PyProof.Rows L2 GenW

theorem over_gx {A : Around} {elt : Expr} {gs : List Comprehension} {scope : Scope} {pos : Pos} {it acc : Value} {cenv : Env} : A.over (.compLoop (.GeneratorExp elt gs scope pos) 0 it acc cenv) [] = A.deeper cenv := by
  first
    | rfl
    | (obtain ⟨hd, d, fr, gs, u⟩ := A; simp [Around.over, Around.deeper, marksOver, frameCount, unitsOf, envsOf, guardsOf, pushEnvs, pushGuards, Code.envs, Code.env?, Code.isFrame, Code.guards, Code.isGuard, Code.weight, Code.frames, Code.isCreation, Code.isCaller, Code.cUnits])
theorem over_gx0 {A : Around} {elt : Expr} {gs : List Comprehension} {scope : Scope} {pos : Pos} {it acc : Value} {cenv : Env} : A.over (.compStart (.GeneratorExp elt gs scope pos) 0 it acc cenv) [] = A.deeper cenv := by
  first
    | rfl
    | (obtain ⟨hd, d, fr, gs, u⟩ := A; simp [Around.over, Around.deeper, marksOver, frameCount, unitsOf, envsOf, guardsOf, pushEnvs, pushGuards, Code.envs, Code.env?, Code.isFrame, Code.guards, Code.isGuard, Code.weight, Code.frames, Code.isCreation, Code.isCaller, Code.cUnits])
abbrev gxEnv (X : Cx) (scope : Scope) (C : Addr) (code : Value) : Env := genEnv scope (cloFrom X.env.cells scope.names []) C code builtinsNs X.env
/-- the context of a generator expression's turns -/
def gxCx (X : Cx) (s : Shared) (H : Hp) (scope : Scope) (code : Value) (fp : List Addr) (pn : List (Addr × Obj)) : Cx where
  prog := X.prog
  w := X.w
  K := X.K
  mg := X.mg
  base := X.base
  A := X.A.in1.in1.deeper (gxEnv X scope s.heap.objs.size code)
  N := X.N
  s_0 := s
  H_0 := H
  env := gxEnv X scope s.heap.objs.size code
  outer := X.stack
  stack := gxEnv X scope s.heap.objs.size code :: X.stack
  ex := fp
  fn := fun x => scope.names.lookup x == some .cell
  calm := true
  pn := pn
  xe := fun _ _ => False
/-- a generator expression's names -/
structure GxS (N : List Str) (sc scope : Scope) (own : List Nat) : Prop where
  kind : scope.kind = .function
  co : scope.isCoroutine = false
  cell : ∀ y ∈ scope.names, y.2 ≠ .cell
  dot : scope.names.lookup (".0" : Str) = some NameKind.local
  own : ∀ (i : Nat) (y : Str), N[i]? = some y → scope.names.lookup y = some .local → i ∈ own
  free : ∀ y ∈ scope.names, y.2 = .free → sc.names.lookup y.1 = some .cell ∨ sc.names.lookup y.1 = some .free
section
variable {X : Cx} {pins : List (Addr × Obj)} {σ : L2.St} {H : Hp} {s : Shared} {scope : Scope} {own : List Nat} {code : Value} {fp : List Addr}
theorem GxS.has (L : GxS X.N X.env.scope scope own) (ok : X.Ok) : ∀ y ∈ scope.names, y.2 = .free → ∃ c, X.env.cells.lookup y.1 = some c := fun y hy e => by
  rcases L.free y hy e with k | k
  · exact ok.has _ (.inl k)
  · exact ok.has _ (.inr k)
/-- the generator's frame stands; its object lies at a -/
theorem gx_start (I : Inv X pins σ H s) (L : GxS X.N X.env.scope scope own) (hd : X.A.handled = none) (hfp : ∀ b ∈ fp, FpOk X pins H b ∧ b < s.heap.objs.size) {s1 : Shared} {m : Str → Option Value} (ho : s1.os = s.os) (hb : AllBare s1.gens)
    (hns : s1.heap.Ns s.heap.objs.size m) (kp : ∀ b o, s.heap.get? b = some o → s1.heap.get? b = some o) {a : Addr} {go : Obj} (ha : s1.heap.get? a = some go) (hla : s.heap.objs.size < a) (hgo : ∀ v, go.data ≠ .cell v) :
    Inv (gxCx X s H scope code fp [(a, go)]) [] (L2.wipe σ own) H s1 := by
  have hfree := L.has I.ok
  have cm : ∀ {y c}, (cloFrom X.env.cells scope.names []).lookup y = some c → X.env.cells.lookup y = some c := fun {y c} e => by
    rcases cloFrom_mem (PySem.mem_of_lookup e) with hm | ⟨h1, h2⟩
    · cases hm
    · obtain ⟨c1, hc⟩ := hfree _ h1 rfl
      have hc : X.env.cells.lookup y = some c1 := hc
      have e2 : c = c1 := by
        rw [h2, hc] <;> rfl
      rw [e2]
      exact hc
  have look : ∀ {y}, scope.names.lookup y = some .free → ∃ c, (cloFrom X.env.cells scope.names []).lookup y = some c := fun {y} hl => by
    have hy : (y, NameKind.free) ∈ scope.names := PySem.mem_of_lookup hl
    exact mem_lookup (cloFrom_has (cells := X.env.cells) (acc := []) hy)
  have cellK : ∀ {c : Addr} {v : Option Value}, s.heap.IsCell c v → s1.heap.IsCell c v := fun {c v} ⟨o, ho, hd⟩ => ⟨_, kp _ _ ho, hd⟩
  have lt : ∀ {c : Addr} {v : Option Value}, s.heap.IsCell c v → c < s.heap.objs.size := fun ⟨o, ho, _⟩ => Heap.lt_size ho
  refine ⟨⟨I.ok.mod, L.kind, I.ok.glob, rfl, Nat.le_refl _, fun y z c e1 e2 => I.ok.inj y z c (cm e1) (cm e2), fun y hy => ?_, fun y c z _ => ?_, fun _ => hd, Around.frames_deeper I.ok.frames, .inr ⟨rfl, rfl⟩, fun b hb => ⟨?_, fun y c e z => ?_⟩, I.bs, Nat.le_trans I.ok.bsz I.sz, fun b o e hb => ?_, fun b hb z => ?_, I.stack, I.stkFree⟩,
    ho, hb, Un.kept kp, ⟨_, hns, fun i y v e1 e2 e3 => ?_⟩, fun y c e => ?_, I.hok.fresh (Nat.le_refl _), fun y c e => I.freeC y c (cm e), fun q hq => ?_, I.hok.kept kp, ?_⟩
  · have hy : scope.names.lookup y = some .cell ∨ scope.names.lookup y = some .free := hy
    rcases hy with hy | hy
    · exact absurd rfl (L.cell _ (PySem.mem_of_lookup hy))
    · exact look hy
  · have z : (scope.names.lookup y == some .cell) = true := z
    have z2 : scope.names.lookup y = some .cell := by simpa using z
    exact absurd rfl (L.cell _ (PySem.mem_of_lookup z2))
  · exact Nat.ne_of_lt (hfp b hb).2
  · exact (hfp b hb).1.2.2.2.2.1 y c (cm e) z
  · have := (hfp b hb).1.1
    have h2 := (hfp b hb).1.2.2.2.1
    rcases h2 with h2 | h2
    · exact I.ok.noex b o e h2
    · have := Heap.lt_size (I.ok.bs b o e).1
      exact absurd (Nat.lt_of_lt_of_le this h2) (Nat.lt_irrefl _)
  · have f := (hfp b hb).1
    rcases List.mem_cons.mp (I.stkSub b z) with y | y
    · exact f.2.1 y
    · exact f.2.2.1 y
  · obtain ⟨e2, hi⟩ := wipe_some e2
    have e3 : Vis scope y := e3
    rcases e3 with k | k | k
    · exact absurd (L.own i y e1 k) hi
    · exact absurd rfl (L.cell _ (PySem.mem_of_lookup k))
    · obtain ⟨m, hn, hl⟩ := I.loc
      have hvis : Vis X.env.scope y := (L.free _ (PySem.mem_of_lookup k) rfl).elim (fun k => .inr (.inl k)) (fun k => .inr (.inr k))
      obtain ⟨w', r, q⟩ := hl i y v e1 e2 hvis
      obtain ⟨c2, h2⟩ := look k
      refine ⟨w', r, .inr ⟨.inr k, c2, h2, ?_⟩⟩
      have c1 := cm h2
      rcases q with ⟨k', _⟩ | ⟨_, c3, e', z⟩
      · have k' : X.env.scope.names.lookup y = some .local := k'
        rcases L.free _ (PySem.mem_of_lookup k) rfl with k2 | k2 <;> rw [show X.env.scope.names.lookup y = _ from k2] at k' <;> cases k'
      · rw [c1] at e'
        cases e'
        exact cellK z
  · obtain ⟨w', z⟩ := I.cell y c (cm e)
    exact ⟨w', cellK z⟩
  · have hq : q ∈ [(a, go)] ++ [] := hq
    have e : q = (a, go) := by simpa using hq
    subst e
    exact ⟨ha, I.hok.fresh (Nat.le_of_lt hla), Nat.ne_of_gt hla, fun z => by
      have := I.stkSub a z
      rcases List.mem_cons.mp this with y | y
      · have := I.lt
        rw [← y] at this
        exact absurd (Nat.lt_trans this hla) (Nat.lt_irrefl _)
      · exact I.nofs (Nat.le_of_lt hla) y, hgo⟩
  · show (L2.wipe σ own).length = X.N.length
    rw [wipe_length]; exact I.len

theorem Inv.regen {Z : Cx} {pins : List (Addr × Obj)} {σ : L2.St} {H : Hp} {s s' : Shared} (I : Inv Z pins σ H s) (h1 : s'.heap = s.heap) (h2 : s'.os = s.os) (h3 : AllBare s'.gens) : Inv Z pins σ H s' :=
  ⟨I.ok, h2.trans I.os, h3, by rw [h1]; exact I.base, by rw [h1]; exact I.loc, by rw [h1]; exact I.cell, I.free, I.freeC, by rw [h1]; exact I.pin, by rw [h1]; exact I.hok, I.len⟩
/-- what a turn says: the end, or one turn more, or out -/
def GxTurn (J : It) (u : Bool) (g : TG) (te : TE) (vs : List Nat) (σ : L2.St) (Qv : Bool → Hp → Prop) (Wt : Nat → Nat → Hp → Prop) : Prop := ∀ i m H, Wt i m H →
  (J.stop i H ∧ Qv u H) ∨ (J.go i H ∧ ∃ Nx : Hp → Prop, (∀ H', Nx H' → ∃ m', m' < m ∧ Wt (i + 1) m' H') ∧ ∀ x H', J.yld i H x H' → g x (L2.wipe σ vs) H' fun σ2 H2 => L2.wipe σ2 vs = L2.wipe σ vs ∧ te σ2 H2 fun v H3 => ∃ k, v = .bl k ∧ if k = u then Nx H3 else Qv k H3)
def GxY (Z : Cx) (σw : L2.St) (gn : Nat) (u : Bool) (Qv : Bool → Hp → Prop) : Protocol := fun n s₀ v s kap =>
  ∃ k H', v = .bool k ∧ Inv Z [] σw H' s ∧ gn < s.gens.size ∧ (k ≠ u → Qv k H') ∧ (k = u → ∀ s'' : Shared, s''.heap = s.heap → s''.os = s.os → AllBare s''.gens → gn < s''.gens.size → kap (.send .none) s'')
def GxR (Z : Cx) (σw : L2.St) (gn : Nat) (u : Bool) (Qv : Bool → Hp → Prop) : Nat → Shared → Shared → Prop := fun n s₀ s => ∃ H', Inv Z [] σw H' s ∧ gn < s.gens.size ∧ Qv u H'
theorem seg_gx {Z : Cx} {A : Around} {tg elt iter : Expr} {scope : Scope} {pos : Pos} {J : It} {fp : List Addr} {it : Addr} {tn : Nat → Heap → Prop} {u : Bool} {g : TG} {te : TE} {vs : List Nat} {σ : L2.St} {Qv : Bool → Hp → Prop} {Wt : Nat → Nat → Hp → Prop} {gn : Nat}
    (T : Turn Z.prog Z.w Z.K tg J fp it tn) (pg : PG Z tg g) (pe : PE Z elt te) (turn : GxTurn J u g te vs σ Qv Wt) (hco : Z.env.scope.isCoroutine = false) (calm : Z.calm = true) (hex : Z.ex = fp) (hxe : Z.xe = fun _ _ => False) (hA : A.deeper Z.env = Z.A)
    (hpn : ∀ p ∈ Z.pn, ∀ b ∈ fp, p.1 ≠ b) :
    ∀ (n m i : Nat) (s₀ s : Shared) (H' : Hp), m < n → Wt i m H' → Inv Z [] (L2.wipe σ vs) H' s → tn i s.heap → (∀ b ∈ fp, H' b = none) → gn < s.gens.size →
      Seg (model Z.prog Z.w) A (fun n s₀ r s₁ => r = .ok .next ∧ GxR Z (L2.wipe σ vs) gn u Qv n s₀ s₁) (GxY Z (L2.wipe σ vs) gn u Qv) n s₀ (.compLoop (.GeneratorExp elt [⟨tg, iter, [], 0⟩] scope pos) 0 (.ref it) .none Z.env)
        ((model Z.prog Z.w).den (.compLoop (.GeneratorExp elt [⟨tg, iter, [], 0⟩] scope pos) 0 (.ref it) .none Z.env)) [] s := by
  have stat : ∀ {σ' : L2.St} {H' : Hp} {s' : Shared}, Inv Z [] σ' H' s' → (∀ b ∈ fp, H' b = none) → ∀ b ∈ fp, FpOk Z [] H' b := fun {σ' H' s'} I' hn b hb => by
    have hbx : b ∈ Z.ex := by rw [hex]; exact hb
    exact ⟨hn b hb, (I'.ok.exf b hbx).1, I'.ok.exfs b hbx, .inl hbx, fun x c e => (I'.ok.exf b hbx).2 x c e, fun p hp => hpn p (by simpa using hp) b hb⟩
  have ov : A.over (.compLoop (.GeneratorExp elt [⟨tg, iter, [], 0⟩] scope pos) 0 (.ref it) .none Z.env) [] = Z.A := over_gx.trans hA
  intro n
  induction n with
  | zero => intro m i s₀ s H' h; omega
  | succ n ih =>
    intro m i s₀ s H' hm w I st hn hgs
    show Seg _ A _ _ _ s₀ _ ((compTurn (.GeneratorExp elt [⟨tg, iter, [], 0⟩] scope pos) 0 (.ref it) .none Z.env).onRaise (leaving Z.env)) [] s
    rw [compTurn_gen, Sem.onRaise_eq_wrap]
    refine seg_bind_wrap (wpAny_standAt ?_)
    rcases turn i m H' w with ⟨stop, qq⟩ | ⟨go, Nx, hNx, step⟩
    · have td := T.done Z rfl rfl rfl calm i [] s _ H' (fun _ _ => False) I (stat I hn) st stop
      refine seg_bind_wrap ?_
      rw [ov]
      refine wpAny_gsz (n := gn + 1) hgs (wpAny_mono td (fun r s6 ⟨hr, I6⟩ hz => ?_) fun _ _ z => z.elim)
      subst hr
      exact seg_end (.ok .next) ⟨rfl, H', I6, hz, qq⟩
    · have ti := T.item Z rfl rfl rfl calm i [] s _ H' (fun _ _ => False) I (stat I hn) st go
      refine seg_bind_wrap ?_
      rw [ov]
      refine wpAny_gsz (n := gn + 1) hgs (wpAny_mono ti (fun r s6 ⟨u', hr, h6⟩ hz6 => ?_) fun _ _ z => z.elim)
      subst hr
      refine seg_bind_wrap ?_
      rw [ov]
      refine wpAny_gsz (n := gn + 1) hz6 (wpAny_mono h6 (fun _ s7 ⟨x, H7, I7, r7, y7, st7, n7⟩ hz7 => ?_) fun _ _ z => z.elim)
      have I7' := I7.pinned (stat I7 n7) (T.obj _ _ st7)
      refine seg_bind_wrap ?_
      rw [ov]
      refine wpAny_gsz (n := gn + 1) hz7 (wpAny_mono (pg.run _ s7 _ H7 x u' _ I7' r7 (step x H7 y7)) (fun _ s8 ⟨σ8, H8, I8, hw8, q8⟩ hz8 => ?_) fun e s' z => by rw [hxe] at z; exact z.elim)
      refine seg_bind_wrap ?_
      simp only [List.forIn_nil]
      refine wpAny_pure ?_
      simp only [if_true]
      have hy : ∀ v, yieldOut Z.env v = yieldValue v := fun v => by simp only [yieldOut, hco, Bool.false_eq_true, if_false]
      simp only [hy]
      rw [Sem.bind_eq_wrap', Sem.bind_eq_wrap', Sem.wrap_wrap, Sem.wrap_wrap]
      refine seg_wrap ?_
      rw [ov]
      refine wpAny_gsz (n := gn + 1) hz8 (wpAny_mono (pe.run _ s8 σ8 H8 _ I8 q8) (fun y s9 ⟨v, H9, I9, rv, k, ek, q9⟩ hz9 => ?_) fun e s' z => by rw [hxe] at z; exact z.elim)
      subst ek
      have ey : y = .bool k := rv
      have pin' : ∀ b ∈ fp, ∀ o, s7.heap.get? b = some o → s9.heap.get? b = some o ∧ H9 b = none := fun b hb o e =>
        let z := I9.pin (b, o) (List.mem_append_right _ (List.mem_append_right _ (mem_pinsAt hb e)))
        ⟨z.1, z.2.1⟩
      have hl : (L2.wipe σ vs).length = σ8.length := by rw [← hw8, wipe_length]
      have I9w : Inv Z [] (L2.wipe σ vs) H9 s9 := (I9.unpinned (pins := [])).weak hl (fun j v e => by
        rw [← hw8] at e
        exact (wipe_some e).1)
      refine seg_at (seg_yield rfl rfl rfl ⟨k, H9, ey, I9w, hz9, fun ne => ?_, fun eq s'' e1 e2 e3 e4 => ?_⟩)
      · rw [if_neg ne] at q9
        exact q9
      · rw [if_pos eq] at q9
        obtain ⟨m', hm', w'⟩ := hNx H9 q9
        refine seg_again rfl (ih m' (i + 1) s'' s'' H9 (by omega) w' (Inv.regen I9w e1 e2 e3) ?_ (fun b hb => ?_) e4)
        · rw [e1]
          exact T.keep _ _ _ st7 fun b hb o e => (pin' b hb o e).1
        · obtain ⟨o, e, _⟩ := T.obj _ _ st7 b hb
          exact (pin' b hb o e).2

theorem bare_set {s : Shared} {gn : Nat} {x : GenState} (h : AllBare s.gens) (hx : x.bare = true) : AllBare (s.setGen gn x).gens := fun y hy => by
  have hy : y ∈ s.gens.setIfInBounds gn x := hy
  rcases Array.mem_or_eq_of_mem_setIfInBounds hy with z | z
  · exact h y z
  · rw [z]; exact hx
theorem size_set {s : Shared} {gn : Nat} {x : GenState} (h : gn < s.gens.size) : gn < (s.setGen gn x).gens.size := by
  rw [setGen_size]; exact h
theorem get_set {s : Shared} {gn : Nat} {x : GenState} (h : gn < s.gens.size) : (s.setGen gn x).gens[gn]? = some x := by
  simp [Shared.setGen, h]
/-- the consumer's turns: all -/
theorem all_loop {Z : Cx} {A : Around} {σw : L2.St} {gn : Nat} {a : Addr} {Qv : Bool → Hp → Prop} {R : Result → Shared → Prop} (hh : A.in1.handled = none) (hroom : A.in1.depth < recursionLimit) (hgen : ∀ (σ : L2.St) H s, Inv Z [] σ H s → s.heap.IsGen a gn)
    (hR : ∀ k H' s', Inv Z [] σw H' s' → Qv k H' → R (.ok (.ret (.bool k))) s') :
    ∀ (n : Nat) (s : Shared) (H : Hp) (gs : GenState), s.gens[gn]? = some gs → Inv Z [] σw H s → gn < s.gens.size →
      (∀ s'' : Shared, s''.heap = s.heap → s''.os = s.os → AllBare s''.gens → gn < s''.gens.size → gs.Goes (model Z.prog Z.w) A.in1.in1 (fun n s₀ r s₁ => r = .ok .next ∧ GxR Z σw gn true Qv n s₀ s₁) (GxY Z σw gn true Qv) n (.send .none) s'') →
      codeAny (model Z.prog Z.w) A (.builtin "all.loop" ⟨[.ref a], []⟩) R s := by
  intro n
  induction n with
  | zero =>
    intro s H gs hg I hz hgo
    refine codeAny_builtin F.entry_all_loop ?_
    rw [Around.under_plainId F.plain_all_loop _]
    show wpAny _ A.in1 (pyNext (.ref a) >>= _) _ _ s
    refine wpAny_bind (wpAny_pyNext_genexpQ (P := GxR Z σw gn true Qv) hh I.nolimit hroom (hgen _ _ _ I) hg (hgo (s.setGen gn .running) rfl rfl (bare_set I.bare rfl) (size_set hz)) (fun v s1 gs' hb hv => ?_) (fun s1 hp h' hk => ?_))
    · obtain ⟨k, H1, rfl, I1, hz1, hne, hk⟩ := hv
      refine wpAny_bind (wpAny_holding (wpAny_truthy_bool ?_))
      refine wpAny_bind (wpAny_letGo ?_)
      cases k with
      | true => exact (hk rfl s1 rfl rfl I1.bare hz1).elim
      | false =>
        simp only [Bool.false_eq_true, if_false]
        refine wpAny_bind (wpAny_rule (wpAny_pure ?_))
        exact hR false H1 _ (Inv.regen I1 rfl rfl (bare_set I1.bare hb)) (hne (by decide))
    · obtain ⟨H1, I1, hz1, q⟩ := hp
      refine wpAny_bind (wpAny_rule (wpAny_pure ?_))
      exact hR true H1 _ ((Inv.regen I1 (s' := s1.setGen gn .finished) rfl rfl (bare_set I1.bare rfl)).kept hk) q
  | succ n ih =>
    intro s H gs hg I hz hgo
    refine codeAny_builtin F.entry_all_loop ?_
    rw [Around.under_plainId F.plain_all_loop _]
    show wpAny _ A.in1 (pyNext (.ref a) >>= _) _ _ s
    refine wpAny_bind (wpAny_pyNext_genexpQ (P := GxR Z σw gn true Qv) hh I.nolimit hroom (hgen _ _ _ I) hg (hgo (s.setGen gn .running) rfl rfl (bare_set I.bare rfl) (size_set hz)) (fun v s1 gs' hb hv => ?_) (fun s1 hp h' hk => ?_))
    · obtain ⟨k, H1, rfl, I1, hz1, hne, hk⟩ := hv
      refine wpAny_bind (wpAny_holding (wpAny_truthy_bool ?_))
      refine wpAny_bind (wpAny_letGo ?_)
      cases k with
      | true =>
        simp only [if_true]
        exact wpAny_pure ⟨plainId_quiet F.plain_all_loop _, ih (s1.setGen gn gs') H1 gs' (get_set hz1) (Inv.regen I1 rfl rfl (bare_set I1.bare hb)) (size_set hz1) fun s'' e1 e2 e3 e4 => hk rfl s'' e1 e2 e3 e4⟩
      | false =>
        simp only [Bool.false_eq_true, if_false]
        refine wpAny_bind (wpAny_rule (wpAny_pure ?_))
        exact hR false H1 _ (Inv.regen I1 rfl rfl (bare_set I1.bare hb)) (hne (by decide))
    · obtain ⟨H1, I1, hz1, q⟩ := hp
      refine wpAny_bind (wpAny_rule (wpAny_pure ?_))
      exact hR true H1 _ ((Inv.regen I1 (s' := s1.setGen gn .finished) rfl rfl (bare_set I1.bare rfl)).kept hk) q
/-- any -/
theorem any_loop {Z : Cx} {A : Around} {σw : L2.St} {gn : Nat} {a : Addr} {Qv : Bool → Hp → Prop} {R : Result → Shared → Prop} (hh : A.in1.handled = none) (hroom : A.in1.depth < recursionLimit) (hgen : ∀ (σ : L2.St) H s, Inv Z [] σ H s → s.heap.IsGen a gn)
    (hR : ∀ k H' s', Inv Z [] σw H' s' → Qv k H' → R (.ok (.ret (.bool k))) s') :
    ∀ (n : Nat) (s : Shared) (H : Hp) (gs : GenState), s.gens[gn]? = some gs → Inv Z [] σw H s → gn < s.gens.size →
      (∀ s'' : Shared, s''.heap = s.heap → s''.os = s.os → AllBare s''.gens → gn < s''.gens.size → gs.Goes (model Z.prog Z.w) A.in1.in1 (fun n s₀ r s₁ => r = .ok .next ∧ GxR Z σw gn false Qv n s₀ s₁) (GxY Z σw gn false Qv) n (.send .none) s'') →
      codeAny (model Z.prog Z.w) A (.builtin "any.loop" ⟨[.ref a], []⟩) R s := by
  intro n
  induction n with
  | zero =>
    intro s H gs hg I hz hgo
    refine codeAny_builtin F.entry_any_loop ?_
    rw [Around.under_plainId F.plain_any_loop _]
    show wpAny _ A.in1 (pyNext (.ref a) >>= _) _ _ s
    refine wpAny_bind (wpAny_pyNext_genexpQ (P := GxR Z σw gn false Qv) hh I.nolimit hroom (hgen _ _ _ I) hg (hgo (s.setGen gn .running) rfl rfl (bare_set I.bare rfl) (size_set hz)) (fun v s1 gs' hb hv => ?_) (fun s1 hp h' hk => ?_))
    · obtain ⟨k, H1, rfl, I1, hz1, hne, hk⟩ := hv
      refine wpAny_bind (wpAny_holding (wpAny_truthy_bool ?_))
      refine wpAny_bind (wpAny_letGo ?_)
      cases k with
      | false => exact (hk rfl s1 rfl rfl I1.bare hz1).elim
      | true =>
        simp only [if_true]
        refine wpAny_bind (wpAny_rule (wpAny_pure ?_))
        exact hR true H1 _ (Inv.regen I1 rfl rfl (bare_set I1.bare hb)) (hne (by decide))
    · obtain ⟨H1, I1, hz1, q⟩ := hp
      refine wpAny_bind (wpAny_rule (wpAny_pure ?_))
      exact hR false H1 _ ((Inv.regen I1 (s' := s1.setGen gn .finished) rfl rfl (bare_set I1.bare rfl)).kept hk) q
  | succ n ih =>
    intro s H gs hg I hz hgo
    refine codeAny_builtin F.entry_any_loop ?_
    rw [Around.under_plainId F.plain_any_loop _]
    show wpAny _ A.in1 (pyNext (.ref a) >>= _) _ _ s
    refine wpAny_bind (wpAny_pyNext_genexpQ (P := GxR Z σw gn false Qv) hh I.nolimit hroom (hgen _ _ _ I) hg (hgo (s.setGen gn .running) rfl rfl (bare_set I.bare rfl) (size_set hz)) (fun v s1 gs' hb hv => ?_) (fun s1 hp h' hk => ?_))
    · obtain ⟨k, H1, rfl, I1, hz1, hne, hk⟩ := hv
      refine wpAny_bind (wpAny_holding (wpAny_truthy_bool ?_))
      refine wpAny_bind (wpAny_letGo ?_)
      cases k with
      | false =>
        simp only [Bool.false_eq_true, if_false]
        exact wpAny_pure ⟨plainId_quiet F.plain_any_loop _, ih (s1.setGen gn gs') H1 gs' (get_set hz1) (Inv.regen I1 rfl rfl (bare_set I1.bare hb)) (size_set hz1) fun s'' e1 e2 e3 e4 => hk rfl s'' e1 e2 e3 e4⟩
      | true =>
        simp only [if_true]
        refine wpAny_bind (wpAny_rule (wpAny_pure ?_))
        exact hR true H1 _ (Inv.regen I1 rfl rfl (bare_set I1.bare hb)) (hne (by decide))
    · obtain ⟨H1, I1, hz1, q⟩ := hp
      refine wpAny_bind (wpAny_rule (wpAny_pure ?_))
      exact hR false H1 _ ((Inv.regen I1 (s' := s1.setGen gn .finished) rfl rfl (bare_set I1.bare rfl)).kept hk) q
end
end Q

set_option Elab.async false
set_option linter.all false
set_option maxRecDepth 100000
set_option maxHeartbeats 4000000
/-! W24: any, all of a generator expression: the rule. -/
namespace Q
open Snd
open PySem PySem.Spec PyProof.Rows L2 GenW

theorem boot_allQ : bootBuiltins "all" = some (.builtin "all") := by kernel_rfl
section
variable {X : Cx} {pins : List (Addr × Obj)} {σ : L2.St} {H : Hp} {s : Shared} {scope : Scope} {own : List Nat} {code : Value} {fp : List Addr}
/-- all but tables stay, tables stay tables -/
structure TabStep (H H' : Hp) : Prop where
  ext : Ext H H'
  tbl : ∀ b ps, H b = some (.tbl ps) → ∃ ps', H' b = some (.tbl ps')
theorem gx_code {T : List (Addr × Str)} {c P : Addr} {pos : Pos} {Q : Value → Shared → Prop} {E : Value → Shared → Prop} (I : Inv X pins σ H s) (TB : LamX.TabB X.base X.mg c P) (hcode : X.env.code = .ref c) (hm : (P, X.env.qual ++ "<genexpr>") ∈ T)
    (hu : ∀ p ∈ T, p.1 = P → p.2 = X.env.qual ++ "<genexpr>") (hT : LamX.Tabs T H)
    (h : ∀ (code : Value) (H1 : Hp) (h' : Heap) (tk : Nat), Inv X pins σ H1 { s with heap := h', toks := tk } → TabStep H H1 → LamX.Tabs T H1 → (∀ b o, b ≠ P → s.heap.get? b = some o → h'.get? b = some o) → (∀ b, H b = none → b < s.heap.objs.size → H1 b = none ∧ b ≠ P) → Q code { s with heap := h', toks := tk }) :
    wpAny (model X.prog X.w) X.A (genexprCode X.env pos (X.env.qual ++ "<genexpr>") scope) Q E s := by
  obtain ⟨ps, hP, ht, ha⟩ := hT _ hm
  have hPs : s.heap.get? P = some { cls := .none, data := .fields ps } := I.hok P _ hP
  have cd : PySem.W.CodeHd s.heap c P := TB.code.keeps fun b u e => I.bk b u e
  cases hc : codeAmong pos ps.toList with
  | none =>
    refine wpAny_genexprCodeX hcode (cd.code hPs ht) (cd.tab hPs) hc fun c' h' tk hx hge hlt hco' hrec htab' _ => ?_
    obtain ⟨c2, oc, vs, t, e2, hoc, hd, hv⟩ := hrec
    cases e2
    have nC : H c' = none := I.hok.fresh hge
    have I1 := LamX.inv_table (t' := tk) (more := #[rawInt pos.line, rawInt pos.col, .ref c']) (h' := h') I hP (fun b o hb e => hx b o hb e) htab'.2 hge ⟨oc, vs, t, hoc, hd, hv⟩
    have hE : LamX.ExtN H (upd (upd H P (.tbl (ps ++ #[rawInt pos.line, rawInt pos.col, .ref c']))) c' (LamX.CodeO c' (X.env.qual ++ "<genexpr>"))) := fun b o e n => by
      rw [upd_ne (ne_of_none e nC), upd_ne (fun z => n ps (Option.some.inj (e.symm.trans (by rw [z]; exact hP))))]
      exact e
    have eL : (ps ++ #[rawInt pos.line, rawInt pos.col, .ref c']).toList = ps.toList ++ [rawInt pos.line, rawInt pos.col, .ref c'] := by simp
    refine h (.ref c') _ h' tk I1 ⟨fun b o e t => hE b o e fun ps' z => (by rw [z] at t; cases t), fun b qs e => ?_⟩ (fun p hp => ?_) (fun b o hb e => hx b o hb e) fun b e hl => ⟨?_, fun z => by rw [z, hP] at e; cases e⟩
    · by_cases hb : b = P
      · rw [hb]
        exact ⟨_, by rw [upd_ne (ne_of_none hP nC), upd_same]⟩
      · exact ⟨qs, by rw [upd_ne (ne_of_none e nC), upd_ne hb]; exact e⟩
    · by_cases hb : p.1 = P
      · rw [hu p hp hb, hb]
        refine ⟨_, by rw [upd_ne (ne_of_none hP nC), upd_same], by rw [eL]; exact PySem.TriplesOk_snoc _ _ _ _ ht, fun p' cv hcv => ?_⟩
        rw [eL] at hcv
        rcases LamX.among_app _ ht hcv with z | z
        · obtain ⟨c0, e1, e2⟩ := ha p' cv z
          exact ⟨c0, e1, hE _ _ e2 LamX.codeO_ne⟩
        · exact ⟨c', z, upd_same⟩
      · obtain ⟨ps', a1, a2, a3⟩ := hT p hp
        refine ⟨ps', by rw [upd_ne (ne_of_none a1 nC), upd_ne hb]; exact a1, a2, fun p' cv hcv => ?_⟩
        obtain ⟨c0, e1, e2⟩ := a3 p' cv hcv
        exact ⟨c0, e1, hE _ _ e2 LamX.codeO_ne⟩
    · rw [upd_ne (Nat.ne_of_lt (Nat.lt_of_lt_of_le hl hge)), upd_ne (fun z => by rw [z, hP] at e; cases e)]
      exact e
  | some cv =>
    refine wpAny_genexprCode_hit hcode (cd.code hPs ht) hc ?_
    exact h cv H s.heap s.toks (I.kept fun _ _ e => e) ⟨Ext.refl, fun b ps e => ⟨ps, e⟩⟩ hT (fun b o _ e => e) fun b e _ => ⟨e, fun z => by rw [z, hP] at e; cases e⟩
/-- any(e for ..), all(e for ..) -/
def tAg (T : List (Addr × Str)) (u : Bool) (wi : TI) (g : TG) (te : TE) (vs : List Nat) : TE := fun σ H Q => wi σ H fun J H1 => LamX.Tabs T H1 ∧ ∀ H2, TabStep H1 H2 → LamX.Tabs T H2 → ∃ Wt : Nat → Nat → Hp → Prop, (∃ m, Wt 0 m H2) ∧ GxTurn J u g te vs σ (fun k H' => Q (.bl k) H') Wt
def agName : Bool → Str
  | true => "all"
  | false => "any"
theorem pe_ag {T : List (Addr × Str)} {u : Bool} {c P : Addr} {elt iter tg : Expr} {p pos gpos : Pos} {vs : List Nat} {wi : TI} {g : TG} {te : TE} {k : Nat}
    (hr : Room k X.A) (hg : Gl X (agName u)) (hmg : X.mg (agName u) = none) (TB : LamX.TabB X.base X.mg c P) (hcode : X.env.code = .ref c) (hm : (P, X.env.qual ++ "<genexpr>") ∈ T) (hu : ∀ p ∈ T, p.1 = P → p.2 = X.env.qual ++ "<genexpr>") (L : GxS X.N X.env.scope scope vs) (hi : PI X tg iter wi)
    (pg : ∀ (s : Shared) (H : Hp) (code : Value) (fp : List Addr) (pn : List (Addr × Obj)), PG (gxCx X s H scope code fp pn) tg g) (pe : ∀ (s : Shared) (H : Hp) (code : Value) (fp : List Addr) (pn : List (Addr × Obj)), PE (gxCx X s H scope code fp pn) elt te)
    (hs : ∀ v, genFold iter X.env v = pure v) : PE X (.Call (.Name (agName u) p) [.GeneratorExp elt [⟨tg, iter, [], 0⟩] scope gpos] [] pos) (tAg T u wi g te vs) := by
  refine ⟨fun pins s σ H Q I h => ?_⟩
  have go : ∀ (Bv : Value), (∀ (a : Addr) (s5 : Shared), (∀ gn, s5.heap.IsGen a gn → codeAny (model X.prog X.w) X.A (.builtin (if u then "all.loop" else "any.loop") ⟨[.ref a], []⟩) (fun r s' => match r with | .ok (.ret v) => EP X pins σ Q v s' | .ok _ => False | .error e => X.xe e s') s5 → wpAny (model X.prog X.w) X.A (call Bv [.ref a]) (EP X pins σ Q) X.xe s5)) →
      wpAny (model X.prog X.w) X.A (spliced ((false, eval (.GeneratorExp elt [⟨tg, iter, [], 0⟩] scope gpos) X.env) :: backTo pos (starEach [] X.env))) (fun us s5 => wpAny (model X.prog X.w) X.A (call Bv us) (EP X pins σ Q) X.xe s5) X.xe s := by
    intro Bv hB
    refine Calls.spliced_cons ?_
    refine wpAny_GeneratorExp_make L.co (closure_ok (L.has I.ok)) L.cell L.dot L.kind (by have := hr.dp; omega) ?_ hs
    refine thn (hi.run pins s σ H _ I h) fun xv s1 hx => thn hx fun itv s2 h2 => ?_
    obtain ⟨it, fp, tn, J, H2, e, I2, Tn, st2, f2, hT, q⟩ := h2
    subst e
    refine ⟨I2.nolimit, gx_code I2 TB hcode hm hu hT fun code H3 h3 tk I3 tS T3 kp3 nn => ?_⟩
    obtain ⟨Wt, ⟨m0, w0⟩, turn⟩ := q H3 tS T3
    obtain ⟨bm, ob, e1, e2, e3, e4, e5, e6, e7, e8⟩ := TB.bm
    refine wpAny_builtinsFor (m := X.mg) (by rw [I3.ok.glob]; exact I3.mod.glob.keeps I3.bk) e1 e2 (I3.bk _ _ e5) e6 e7 e8 ?_
    intro h' hn' hs'
    refine Calls.spliced_nil ?_
    generalize hs3 : ({ s2 with heap := h3, toks := tk } : Shared) = s3 at I3 hn' hs' ⊢
    have sz2 : ∀ b ∈ fp, b < s2.heap.objs.size := fun b hb => by
      obtain ⟨o, e, _⟩ := Tn.obj _ _ st2 b hb
      exact Heap.lt_size e
    have hsz : h'.objs.size = s3.heap.objs.size + 1 := by rw [hs'.1, Heap.size_push]
    have keep' : ∀ b o, s3.heap.get? b = some o → h'.get? b = some o := fun b o e => hs'.extBut b o (Nat.ne_of_lt (Heap.lt_size e)) (Heap.get?_push_of_some _ e)
    have st3 : tn 0 s3.heap := Tn.keep _ _ _ st2 fun b hb o e => by
      rw [← hs3]
      exact kp3 b o (nn b (f2 b hb).1 (sz2 b hb)).2 e
    have sz3 : ∀ b ∈ fp, b < s3.heap.objs.size := fun b hb => by
      obtain ⟨o, e, _⟩ := Tn.obj _ _ st3 b hb
      exact Heap.lt_size e
    have f3 : ∀ b ∈ fp, FpOk X pins H3 b ∧ b < s3.heap.objs.size := fun b hb => ⟨⟨(nn b (f2 b hb).1 (sz2 b hb)).1, (f2 b hb).2⟩, sz3 b hb⟩
    have key : ∀ (go : Obj) (nm qn : Value) (tk5 : Nat), go.cls = .type "generator" → go.data = .fields #[.int s3.gens.size 0, nm, qn] → go.slots = #[] → (∀ h : Heap, (h.push go).get? h.objs.size = some go) →
        wpAny (model X.prog X.w) X.A (call Bv [.ref h'.objs.size]) (EP X pins σ Q) X.xe { s3 with gens := s3.gens.push (.fresh (.compStart (.GeneratorExp elt [⟨tg, iter, [], 0⟩] scope gpos) 0 (.ref it) .none (gxEnv X scope s3.heap.objs.size code))), toks := tk5, heap := h'.push go } := by
      intro go nm qn tk5 hgc hgd hgs hgp
      generalize hs5 : ({ s3 with gens := s3.gens.push (.fresh (.compStart (.GeneratorExp elt [⟨tg, iter, [], 0⟩] scope gpos) 0 (.ref it) .none (gxEnv X scope s3.heap.objs.size code))), toks := tk5, heap := h'.push go } : Shared) = s5
      have h5 : s5.heap = h'.push go := by rw [← hs5]
      have hag : s5.heap.get? h'.objs.size = some go := by rw [h5]; exact hgp h'
      have bare5 : AllBare s5.gens := by rw [← hs5]; exact I3.bare.push rfl
      have I5 : Inv (gxCx X s3 H3 scope code fp [(h'.objs.size, go)]) [] (L2.wipe σ vs) H3 s5 := gx_start I3 L hr.hd f3 (by rw [← hs5]) bare5 (m := fun y => if y = ".0" then some (.ref it) else none)
        (by rw [h5]; exact hn'.push _) (fun b o e => by rw [h5]; exact Heap.get?_push_of_some _ (keep' b o e)) hag (by rw [hsz]; exact Nat.lt_succ_self _) (fun v q => by rw [hgd] at q; cases q)
      have isg : ∀ (h : Heap), h.get? h'.objs.size = some go → h.IsGen h'.objs.size s3.gens.size := fun h e => ⟨go, nm, qn, e, hgc, hgd, hgs⟩
      have g5 : s5.gens[s3.gens.size]? = some (.fresh (.compStart (.GeneratorExp elt [⟨tg, iter, [], 0⟩] scope gpos) 0 (.ref it) .none (gxEnv X scope s3.heap.objs.size code))) := by rw [← hs5]; exact Array.getElem?_push_size ..
      have z5 : s3.gens.size < s5.gens.size := by rw [← hs5]; simp
      have st5 : tn 0 s5.heap := Tn.keep _ _ _ st3 fun b hb o e => by rw [h5]; exact Heap.get?_push_of_some _ (keep' b o e)
      have nfp : ∀ b ∈ fp, H3 b = none := fun b hb => (f3 b hb).1.1
      have hpn : ∀ q ∈ [(h'.objs.size, go)], ∀ b ∈ fp, q.1 ≠ b := fun q hq b hb e => by
        rw [List.mem_singleton.mp hq] at e
        have := sz3 b hb
        have e : h'.objs.size = b := e
        rw [← e, hsz] at this
        exact absurd this (Nat.not_lt.mpr (Nat.le_succ _))
      have loop : ∀ (s₀ s'' : Shared), s''.heap = s5.heap → s''.os = s5.os → AllBare s''.gens → s3.gens.size < s''.gens.size →
          Seg (model X.prog X.w) X.A.in1.in1 (fun n s₀ r s₁ => r = .ok .next ∧ GxR (gxCx X s3 H3 scope code fp [(h'.objs.size, go)]) (L2.wipe σ vs) s3.gens.size u (fun k H' => Q (.bl k) H') n s₀ s₁) (GxY (gxCx X s3 H3 scope code fp [(h'.objs.size, go)]) (L2.wipe σ vs) s3.gens.size u (fun k H' => Q (.bl k) H')) (m0 + 1) s₀
            (.compStart (.GeneratorExp elt [⟨tg, iter, [], 0⟩] scope gpos) 0 (.ref it) .none (gxEnv X scope s3.heap.objs.size code)) ((model X.prog X.w).den (.compStart (.GeneratorExp elt [⟨tg, iter, [], 0⟩] scope gpos) 0 (.ref it) .none (gxEnv X scope s3.heap.objs.size code))) [] s'' := by
        intro s₀ s'' e1 e2 e3 e4
        have lp := seg_gx (Z := gxCx X s3 H3 scope code fp [(h'.objs.size, go)]) (A := X.A.in1.in1) (elt := elt) (iter := iter) (scope := scope) (pos := gpos) Tn (pg s3 H3 code fp _) (pe s3 H3 code fp _) turn L.co rfl rfl rfl rfl hpn (m0 + 1) m0 0 s₀ s'' H3 (Nat.lt_succ_self _) w0 (Inv.regen I5 e1 e2 e3) (by rw [e1]; exact st5) nfp e4
        show Seg _ X.A.in1.in1 _ _ _ s₀ _ ((compStart (.GeneratorExp elt [⟨tg, iter, [], 0⟩] scope gpos) 0 (.ref it) .none (gxEnv X scope s3.heap.objs.size code)).onRaise (leaving (gxEnv X scope s3.heap.objs.size code))) [] s''
        unfold compStart
        rw [Sem.onRaise_eq_wrap]
        show Seg _ X.A.in1.in1 _ _ _ s₀ _ ((ask >>= _).wrap _ _ _ _) [] s''
        refine seg_bind_wrap (wpAny_askSetting ?_)
        split
        · exact seg_again rfl lp
        · first
            | exact seg_bind_wrap (wpAny_rule (seg_bind_wrap (wpAny_standAt (seg_bind_wrap (Tn.self _ 0 s'' _ _ (by rw [e1]; exact st5) (seg_again rfl lp))))))
            | (refine seg_bind_wrap (wpAny_rule ?_); show Seg _ X.A.in1.in1 _ _ _ s₀ _ ((standAt iter.pos >>= _).wrap _ _ _ _) [] s''; exact seg_bind_wrap (wpAny_standAt (seg_bind_wrap (Tn.self _ 0 s'' _ _ (by rw [e1]; exact st5) (seg_again rfl lp)))))
      have fin : ∀ k H' s', Inv (gxCx X s3 H3 scope code fp [(h'.objs.size, go)]) [] (L2.wipe σ vs) H' s' → Q (.bl k) H' → EP X pins σ Q (.bool k) s' := fun k H' s' I' hq =>
        ⟨.bl k, H', I3.call' (ch := fp) I'.os I'.base I'.hok I'.bare fun b hb => ⟨(f3 b hb).1.2.2.2.1, (f3 b hb).1.2.1, (f3 b hb).1.2.2.2.2.1, (f3 b hb).1.2.2.2.2.2⟩, rfl, hq⟩
      have hgen : ∀ (σ : L2.St) H s, Inv (gxCx X s3 H3 scope code fp [(h'.objs.size, go)]) [] σ H s → s.heap.IsGen h'.objs.size s3.gens.size := fun σ H s J => isg _ (J.pin (h'.objs.size, go) (List.mem_append_left _ (List.mem_singleton.mpr rfl))).1
      refine hB h'.objs.size s5 s3.gens.size (isg _ hag) ?_
      cases u with
      | true => exact all_loop (Z := gxCx X s3 H3 scope code fp [(h'.objs.size, go)]) (Qv := fun k H' => Q (.bl k) H') hr.hd (by have := hr.dp; show X.A.depth < _; omega) hgen (fun k H' s' I' hq => fin k H' s' I' hq) (m0 + 1) s5 H3 _ g5 I5 z5 fun s'' e1 e2 e3 e4 => ⟨rfl, loop s'' s'' e1 e2 e3 e4⟩
      | false => exact any_loop (Z := gxCx X s3 H3 scope code fp [(h'.objs.size, go)]) (Qv := fun k H' => Q (.bl k) H') hr.hd (by have := hr.dp; show X.A.depth < _; omega) hgen (fun k H' s' I' hq => fin k H' s' I' hq) (m0 + 1) s5 H3 _ g5 I5 z5 fun s'' e1 e2 e3 e4 => ⟨rfl, loop s'' s'' e1 e2 e3 e4⟩
    exact key _ _ _ _ rfl rfl rfl fun h => Heap.get?_push_size _ rfl
  have he : starEach [.GeneratorExp elt [⟨tg, iter, [], 0⟩] scope gpos] X.env = (false, eval (.GeneratorExp elt [⟨tg, iter, [], 0⟩] scope gpos) X.env) :: starEach [] X.env := rfl
  cases u with
  | true =>
    refine wpAny_Call_Name_kw (ld_blt I hg hmg boot_allQ ?_)
    refine PyProof.Rows.callWith_builtin1 ?_ he (by rfl)
    rw [he]
    refine go (.builtin "all") fun a s5 gn hgn hc => ?_
    refine call_function_tree F.kind_all F.plain_all F.entry_all (F.args_all1 _) ?_
    unfold Builtin.«all»
    refine wpAny_bind (m := oneArg "all" _) (wpAny_pure ?_)
    exact wpAny_bind (wpAny_pyIter_gen hgn (wpAny_pure ⟨plainId_quiet F.plain_all_loop _, hc⟩))
  | false =>
    refine wpAny_Call_Name_kw (ld_blt I hg hmg boot_any ?_)
    refine PyProof.Rows.callWith_builtin1 ?_ he (by rfl)
    rw [he]
    refine go (.builtin "any") fun a s5 gn hgn hc => ?_
    refine call_function_tree F.kind_any F.plain_any F.entry_any (F.args_any1 _) ?_
    unfold Builtin.«any»
    refine wpAny_bind (m := oneArg "any" _) (wpAny_pure ?_)
    exact wpAny_bind (wpAny_pyIter_gen hgn (wpAny_pure ⟨plainId_quiet F.plain_any_loop _, hc⟩))
end
end Q

set_option Elab.async false
set_option linter.all false
set_option maxRecDepth 100000
set_option maxHeartbeats 4000000
/-! V3: any, all of a generator expression, told by Q. -/
namespace Q
open Snd
open PySem PySem.Spec PyProof.Rows L2

section
variable {P : RP} {F : FR} {W : WX} {g : G} {b : Below} {σ : L2.St} {H H1 H2 : Hp} {own own1 own2 : List Addr} {sl sl1 sl2 : Sl}
theorem TabStep.step (t : TabStep H H1) : Step own H H1 own := ⟨fun z o h _ k => t.ext z o h k, t.tbl, fun _ z => .inl z⟩
theorem Sim.tab (s : Sim P F sl σ H own) (t : TabStep H H1) (hT : LamX.Tabs P.T H1) : Sim P F sl σ H1 own :=
  ⟨s.r.frame t.ext.fix (t.ext.at s.r.own), s.nd, hT, s.io, s.bas.step t.step, fix_xs s t.ext.fix⟩
structure AgB (P : RP) (F : FR) (g : G) (b : Below) (σ : L2.St) (H H1 : Hp) (own : List Addr) (u : Bool) (vs : List Nat) (t : Tg) (elt : E) (r : Bool) (slF : Sl) (ds : List D) (H' : Hp) : Prop where
  ex : ∃ sl2 own2, Sim P F (wipeS sl2 vs) (L2.wipe σ vs) H' own2 ∧ FixIn H1 H' ∧ Step own H H' own2 ∧ exAll u vs t (ev g b elt) ds sl2 = .ok (r, slF)
theorem ag_read {u : Bool} {vs : List Nat} {t : Tg} {src : Src} {elt : E} (hio : offOwn F vs) (ht : ∀ i ∈ t.slots, i ∈ vs) {Q : VK}
    (h : tE P F W g b (.allg u vs t src elt) σ H Q) : tAg P.T u (tIt P F W g b src) (gT P F t) (tE P F (fun _ _ _ _ => False) g b elt) vs σ H Q := by
  obtain ⟨sl, own, sim, h⟩ := h
  refine ⟨sl, own, sim, (Res.bind h).mono fun p _ h J H1 own1 it p1 => ⟨p1.sim.tabs, fun H2 tS T2 => ?_⟩⟩
  obtain ⟨ds, sl1⟩ := p
  simp only at h p1 it
  split at h
  case isFalse => exact h.elim
  rename_i hcl
  cases m : exAll u vs t (ev g b elt) ds sl1 with
  | exc cc fs s => rw [m] at h; exact h.elim
  | bad => rw [m] at h; exact h.elim
  | ok q =>
  obtain ⟨r, slF⟩ := q
  rw [m] at h
  simp only [noExc, R.bind] at h
  have back : ∀ (s3 : Sl) (σ3 : L2.St) (H3 : Hp) (own3 : List Addr), Sim P F s3 σ3 H3 own3 → L2.wipe σ3 vs = L2.wipe σ vs → Step own H H3 own3 → s3 = slF → Q (.bl r) H3 := by
    intro s3 σ3 H3 own3 sim3 hw st3 e
    subst e
    obtain ⟨own4, r4, nd4, sub4⟩ := sim3.r.wipeBoth sim3.nd vs
    rw [hw] at r4
    have st4 : Step own H H3 own4 := ⟨st3.keep, st3.tbl, fun z hz => st3.new z (sub4 z hz)⟩
    have sim4 : Sim P F (wipeS s3 vs) σ H3 own4 := ⟨SlR.unwipe clear_wipe r4, nd4, sim3.tabs, sim.io, sim.bas.step st4, fun j cc fs e => sim3.xs j cc fs (getX_wipe e).1⟩
    exact h (.bl r) H3 own4 [] ⟨sim4, .bl r, st4, fun _ => ⟨by simpa using nd4, fun a z => (nomatch z)⟩, fun z => (nomatch z), fun j z => (nomatch z), fun z => (nomatch z)⟩
  have st12 : Step own H H2 own1 := p1.step.trans tS.step
  have sim12 := p1.sim.tab tS T2
  have f12 : FixIn H1 H2 := tS.ext.fix
  refine ⟨fun i m H' => m = ds.length - i ∧ i ≤ ds.length ∧ AgB P F g b σ H H1 own u vs t elt r slF (ds.drop i) H', ⟨ds.length, by simp, Nat.zero_le _, ⟨sl1, own1, ?_, f12, st12, by simpa using m⟩⟩, ?_⟩
  · rw [wipeS_clear hcl]
    exact ⟨sim12.r.wipe hcl, sim12.nd, sim12.tabs, fun q hq => by rw [wipe_out (hio q hq)]; exact sim12.io q hq, sim12.bas, sim12.xs⟩
  rintro i mm H' ⟨rfl, hi, sl2, own2, sim2, fx, st2, hex⟩
  by_cases hlt : i < ds.length
  · refine .inr ⟨it.goes i H' fx hlt, fun H'' => AgB P F g b σ H H1 own u vs t elt r slF (ds.drop (i + 1)) H'', fun H'' q => ⟨ds.length - (i + 1), by omega, rfl, hlt, q⟩, fun x H2 y => ?_⟩
    obtain ⟨gr2, d, hd, rd⟩ := it.yields i H' x H2 fx hlt y
    have hdrop : ds.drop i = d :: ds.drop (i + 1) := by
      rw [List.drop_eq_getElem_cons hlt]
      congr 1
      rw [List.getElem?_eq_getElem hlt] at hd
      exact Option.some.inj hd
    rw [hdrop] at hex
    simp only [exAll] at hex
    cases e1 : asg t d (wipeS sl2 vs) with
    | none => rw [e1] at hex; cases hex
    | some s1 =>
    rw [e1] at hex
    simp only [R.of, R.bind] at hex
    cases e3 : ev g b elt s1 with
    | exc cc fs s => rw [e3] at hex; cases hex
    | bad => rw [e3] at hex; cases hex
    | ok q3 =>
    rw [e3] at hex
    simp only at hex
    refine ⟨wipeS sl2 vs, own2, d, s1, sim2.grow gr2, rd, e1, fun σ2 own3 sim3 sub sm => ⟨?_, ?_⟩⟩
    · rw [sm vs ht]
      exact wipe_wipe
    have hw : L2.wipe σ2 vs = L2.wipe σ vs := by rw [sm vs ht]; exact wipe_wipe
    have stA : Step own H H2 own3 := ⟨(st2.trans gr2.step).keep, (st2.trans gr2.step).tbl, fun z hz => st2.new z (sub z hz)⟩
    refine ⟨s1, own3, sim3, ?_⟩
    rw [e3]
    show ∀ v H' own' as, PostE P F g b elt σ2 H2 own3 s1 q3.1 v q3.2 H' own' as → _
    intro v H4 own5 as5 p5
    obtain ⟨d3, s3⟩ := q3
    cases d3 with
    | bl k =>
      have rv := p5.rep
      cases rv
      refine ⟨k, rfl, ?_⟩
      have f4 := p5.step.fix sim3.r.own
      have stB := stA.trans p5.step
      by_cases hk : k = u
      · rw [if_pos hk]
        simp only [if_pos hk] at hex
        obtain ⟨own4, r4, nd4, sub4⟩ := p5.sim.r.wipeBoth p5.sim.nd vs
        rw [hw] at r4
        have st5 : Step own H H4 own4 := ⟨stB.keep, stB.tbl, fun z hz => stB.new z (sub4 z hz)⟩
        exact ⟨⟨s3, own4, ⟨r4, nd4, p5.sim.tabs, fun q hq => by rw [wipe_out (hio q hq)]; exact sim.io q hq, sim.bas.step st5, fun j cc fs e => p5.sim.xs j cc fs (getX_wipe e).1⟩, (fx.trans gr2.fix).trans f4, st5, hex⟩⟩
      · rw [if_neg hk]
        simp only [if_neg hk] at hex
        cases hex
        exact back _ σ2 H4 own5 p5.sim hw stB rfl
    | _ => cases hex
  · have e : i = ds.length := by omega
    subst e
    rw [List.drop_length] at hex
    simp only [exAll] at hex
    cases hex
    refine .inl ⟨it.stops H' fx, ?_⟩
    have cl2 : clear (wipeS slF vs) vs = true := clear_wipe
    have sim3 : Sim P F (wipeS slF vs) σ H' own2 := ⟨SlR.unwipe cl2 sim2.r, sim2.nd, sim2.tabs, sim.io, sim2.bas, sim2.xs⟩
    exact h (.bl _) H' own2 [] ⟨sim3, .bl _, st2, fun _ => ⟨by simpa using sim2.nd, fun a z => (nomatch z)⟩, fun z => (nomatch z), fun j z => (nomatch z), fun z => (nomatch z)⟩
end
end Q

set_option Elab.async false
set_option linter.all false
set_option maxRecDepth 100000
set_option maxHeartbeats 4000000
/-! X1: an own exception is made: its __init__ says super().__init__(text), then keeps its parameter. -/
namespace Q
open Snd
open PySem PySem.Spec PySem.W PyProof.Rows L2

/-- def __init__(self, v): super().__init__(text); self.f = v -/
def initBody (v msg f : Str) (j : Nat) (p0 p1 p2 p3 p4 p5 p6 p7 p8 p9 : Pos) : List Stmt :=
  [.Expr (.Call (.Attribute (.Call (.Name "super" p0) [] [] p1) "__init__" p2) [.Constant (.str msg) j p3] [] p4) p5, .Assign [.Attribute (.Name "self" p6) f p7] (.Name v p8) p9]
structure InitOk (prog : Program) (K : Frag) (C fI : Addr) (f : Str) : Prop where
  it : ∃ (oc : Value) (od : Option Addr) (osl : Array (Option Value)) (fd : FuncData) (cl cc : Addr) (ocl occ : Obj) (vs : Array Value) (file : Str) (tf : Tok) (v msg : Str) (j : Nat) (p0 p1 p2 p3 p4 p5 p6 p7 p8 p9 : Pos) (ar : Arg), (p2.endLine == p4.line) = true ∧
    K.lookup fI = some ⟨oc, od, .func fd, osl⟩ ∧ fd.body = .stmts (initBody v msg f j p0 p1 p2 p3 p4 p5 p6 p7 p8 p9) ∧ fd.scope.kind = .function ∧ fd.scope.isCoroutine = false ∧ fd.scope.isGenerator = false ∧ (∀ x ∈ fd.scope.names, x.2 ≠ .cell) ∧
    fd.scope.names.lookup ("self" : Str) = some .local ∧ fd.scope.names.lookup v = some .local ∧ fd.scope.names.lookup ("super" : Str) = some .globalImplicit ∧ fd.scope.names.lookup ("__class__" : Str) = some .free ∧ v ≠ ("self" : Str) ∧ (v == ("__debug__" : Str)) = false ∧
    fd.globals = mainGlobals ∧ fd.builtins = builtinsNs ∧ fd.closure = [(("__class__" : Str), cl)] ∧ K.lookup cl = some ocl ∧ ocl.data = .cell (some (.ref C)) ∧ fd.code = .ref cc ∧ K.lookup cc = some occ ∧ occ.data = .fields vs ∧ vs[2]? = some (.str file tf) ∧ ((prog.main.file : Str) == file) = true ∧
    codeIn K fd.code fd.qualname = true ∧ (fd.params.posonlyargs ++ fd.params.args).head? = some ar ∧ ar.arg = ("self" : Str) ∧ (∀ a b, bindArgs fd ⟨[a, b], []⟩ = pure [(("self" : Str), a), (v, b)])
/-- an own exception class of one field -/
structure ExcOk (prog : Program) (K : Frag) (mg : Str → Option Value) (C : Addr) (f : Str) : Prop where
  cls : OexC K C
  fI : ∃ fI, findIn K (.ref C) "__init__" = some (some (.ref fI)) ∧ typeIn K (.ref fI) = some (.type "function") ∧ InitOk prog K C fI f
  along : ∀ cd, clsIn K C = some cd → alongIn K "__init__" (cd.mro.drop 1) = some (some (.builtin "ValueError.__init__"))
  opq : nsIn K cStatics "thirdparty.any" = some none
  sub : subIn K (.ref C) (.type "ValueError") = some true
  self : subIn K (.ref C) (.ref C) = some true
  fld : findIn K (.ref C) f = some none
  top : (prog.main.scope.names.lookup ("super" : Str)).isSome = false
  sup : mg "super" = none
theorem boot_superQ : bootBuiltins "super" = some (.type "super") := by decide +kernel
section
variable {prog : Program} {w : World} {K : Frag} {A : Around} {E : Value → Shared → Prop} {h : Heap} {g : Array GenState} {d : Drawn} {t : Nat} {os : OsState}
/-- the bound __init__ of ValueError is called -/
theorem call_mw {nm q : Str} {C N : Addr} {bs bm : List Value} {hdct : Bool} {sn : List Str} {sub : List Value} {ab : Bool} {col : Option Bool} {dd : Option Addr} {k0 k1 k2 k3 k5 : Option Value} {u e t0 : Addr} {rest : List Value} {Q : Value → Shared → Prop}
    (hC : h.get? C = some (excClassObj nm q C N bs bm hdct sn sub ab col dd k0 k1 k2 k3 k5 "ValueError.__new__")) (he : h.get? e = some (HandSPX.excO C t0)) (hu : h.get? u = some (kxs_mw "ValueError.__init__" e)) (hrest : rest.length ≤ sizeLine)
    (hq : ∀ h' t1, (∀ b o, b ≠ e → h.get? b = some o → h'.get? b = some o) → h'.get? e = some (HandSPX.excO C t1) → Q .none ⟨h', g, d, t, os⟩) :
    wpAny (model prog w) A (call (.ref u) rest) Q E ⟨h, g, d, t, os⟩ := by
  refine wpAny_call (codeAny_of_tree ?_)
  show wpAny _ A.in1 (callAny (.ref u) ⟨rest, []⟩) _ _ _
  simp only [callAny]
  refine wpAny_bind (wpAny_load hu ?_)
  simp only [kxs_mw, show (Value.type "method-wrapper" == Value.type "method" || Value.type "method-wrapper" == Value.type "builtin_function_or_method" || Value.type "method-wrapper" == Value.type "method-wrapper") = true by decide, if_true]
  refine W.KFB.if_so (by decide) ?_
  refine wpAny_bind (ESX.check_bound F.excBase_ValueError hC he rfl ?_)
  refine wpAny_bind (wpAny_pure (wpAny_pure ?_))
  refine ⟨Code.quiet_builtin _ (by decide +kernel), codeAny_builtin F.excBase_ValueError.initEntry ?_⟩
  rw [Around.under_plainId F.excBase_ValueError.init.plain _]
  wp_walk
  refine hq _ h.objs.size (fun b o hb ho => ?_) ?_
  · rw [Heap.get?_update_other _ _ (Ne.symm hb)]
    exact Heap.get?_push_of_some _ ho
  · rw [Heap.get?_update_self _ (Heap.get?_push_of_some _ he) rfl]
    rfl

theorem super_eval {o e1 : Expr} {name : Str} {apos pos : Pos} {env : Env} (hs : plainA e1 = true) (hl : (apos.endLine == pos.line) = true) : eval (.Call (.Attribute o name apos) [e1] [] pos) env = (do
      let ov ← attributeBase o name env (eval o env)
      standAt apos.atName
      let (f, first) ← holding [ov] (getMethod ov name (do return (← importBound o env).getD true))
      callWith pos f first (backTo pos (starEach [e1] env)) []) := by
  have hform : methodCallForm 1 (backTo pos (starEach [e1] env)) (backToKw pos (keywordEach [] env)) = true := by rw [star_plain hs]; rfl
  have hpos : methodCallPos true o env apos pos = pure pos := by unfold methodCallPos; simp [hl]
  rw [arm_eval_Call]
  unfold methodCall
  show (do
    let ov ← attributeBase o name env (eval o env)
    standAt apos.atName
    let fx ← holding [ov] (calleeOf (methodCallForm 1 (backTo pos (starEach [e1] env)) (backToKw pos (keywordEach [] env))) o env ov name)
    let p ← methodCallPos (methodCallForm 1 (backTo pos (starEach [e1] env)) (backToKw pos (keywordEach [] env))) o env apos pos
    callWith p fx.1 fx.2 (backTo pos (starEach [e1] env)) (backToKw pos (keywordEach [] env))) = _
  rw [hform, hpos]
  rfl
theorem init_run {mg : Str → Option Value} {C fI e t0 : Addr} {f : Str} {u : Value} {R : Result → Shared → Prop} {mb : Str → Option Value} (T : ExcOk prog K mg C f) (iC : findIn K (.ref C) "__init__" = some (some (.ref fI))) (I : InitOk prog K C fI f) (X : K.In h) (lim : h.NoLimit) (glob : h.Ns mainGlobals mg)
    (blt : h.Ns builtinsNs mb) (hmb : ∀ x : Str, x ≠ "__name__" → mb x = bootBuiltins x) (he : h.get? e = some (HandSPX.excO C t0)) (hroom : A.depth < recursionLimit) (hKe : ∀ a o, K.lookup a = some o → a ≠ e)
    (hq : ∀ h' tk t1 dx, (∀ b o, b ≠ e → h.get? b = some o → h'.get? b = some o) → h.objs.size ≤ dx → dx ≠ e → h'.get? e = some ({ cls := .ref C, dict := some dx, data := .fields #[.ref t1, .none, .none, .none, .bool false, .none] } : Obj) → h'.Ns1 dx (fun y => if y = f then some u else none) → R (.ok (.ret .none)) ⟨h', g, d, tk, os⟩) :
    codeAny (model prog w) A (.call (.ref fI) ⟨[.ref e, u], []⟩) R ⟨h, g, d, t, os⟩ := by
  obtain ⟨oc, od, osl, fd, cl, cc, ocl, occ, vs, file, tf, v, msg, j, p0, p1, p2, p3, p4, p5, p6, p7, p8, p9, ar, hline, lk, hbody, hk, hco, hgen, hcell, hs1, hs2, hs3, hs4, hv1, hv2, hgl, hbl, hclo, hcl, hcld, hcode, hcc, hocc, hvs, hfile, hcd, hp, har, hbind⟩ := I.it
  obtain ⟨nm, q, N, bs, bm, sn, sub, ab, col, dd, k0, k1, k2, k3, k5, hC, hbm⟩ := T.cls.cls
  have hcls : clsIn K C = some { name := nm, bases := bs, mro := .ref C :: bm, ns := N, qualname := q, hasDict := true, slotNames := sn, subclasses := sub, abstract := ab, collection := col, hasDel := false } := by unfold PySem.W.clsIn; rw [hC] <;> rfl
  have hal : alongIn K "__init__" bm = some (some (.builtin "ValueError.__init__")) := T.along _ hcls
  refine ks_codeAny_call_defAt (fd := fd) hroom (X _ _ lk) rfl lim (codeRec_of X hcd) hbody (.of_eq (hbind _ _)) hcell (fun x hx => ?_) (fun h0 hns k0 => ?_) hco hgen hk
  · rcases List.mem_cons.mp hx with rfl | hx
    · exact hs1
    · rw [List.mem_singleton.mp hx]; exact hs2
  generalize henv : callEnv fd h.objs.size fI = env at *
  have e1 : env.scope = fd.scope := by rw [← henv]; rfl
  have e2 : env.locals = h.objs.size := by rw [← henv]; rfl
  have e3 : env.globals = mainGlobals := by rw [← henv]; exact hgl
  have e4 : env.builtins = builtinsNs := by rw [← henv]; exact hbl
  have e5 : env.cells = [(("__class__" : Str), cl)] := by rw [← henv]; exact hclo
  have e6 : env.func = some fI := by rw [← henv]; rfl
  have e7 : env.code = .ref cc := by rw [← henv]; exact hcode
  have kd : env.scope.kind = .function := by rw [e1]; exact hk
  have kS : env.kindOf "super" = some .globalImplicit := by unfold Env.kindOf; rw [e1]; exact hs3
  have kC : env.kindOf "__class__" = some .free := by unfold Env.kindOf; rw [e1]; exact hs4
  have kF : env.kindOf "self" = some .local := by unfold Env.kindOf; rw [e1]; exact hs1
  have kV : env.kindOf v = some .local := by unfold Env.kindOf; rw [e1]; exact hs2
  have hint : interactive env = false := by unfold interactive; rw [kd]; rfl
  have szE : e ≠ h.objs.size := Nat.ne_of_lt (Heap.lt_size he)
  have ns0 : h0.Ns env.locals (fun x => [(("self" : Str), .ref e), (v, u)].reverse.lookup x) := by rw [e2]; exact hns
  have vSelf : (fun x : Str => [(("self" : Str), Value.ref e), (v, u)].reverse.lookup x) "self" = some (.ref e) := by
    have : (("self" : Str) == v) = false := by simpa using Ne.symm hv1
    simp [List.lookup, this]
  have vV : (fun x : Str => [(("self" : Str), Value.ref e), (v, u)].reverse.lookup x) v = some u := by simp [List.lookup]
  have X0 : K.In h0 := X.keeps k0
  have he0 := k0 _ _ he
  have hC0 := X0 _ _ hC
  refine ks_wpAt_execs_cons (ks_wpAt_Expr_any (ks_wpAt_MethodCall (ks_wpAt_super_base kS kC rfl e6 (X0 _ _ lk) rfl hp e7 (X0 _ _ hcc) hocc hvs hfile T.top ?_) (super_eval rfl hline)) hint rfl)
  · rw [loadName_read kd kS]
    refine Calls.loadGlobal_builtin (by rw [e3]; exact glob.keeps k0) T.sup (by rw [e4]; exact blt.keeps k0) ((hmb _ (by decide)).trans boot_superQ) ⟨rfl, ?_⟩
    refine wpAny_loadName_free kd kC (by rw [e5]; rfl) ⟨_, X0 _ _ hcl, hcld⟩ ?_
    rw [har]
    refine wpAny_loadName_local kd kF ns0 vSelf ?_
    refine ks_wpAny_isType_cls hC0 rfl ⟨rfl, ?_⟩
    refine ks_wpAny_call_super hC0 rfl he0 rfl (fun c z => by cases z) (looks_subIn X0 T.self) fun h1 hso k1 => ?_
    have X1 : K.In h1 := X0.keeps k1
    have he1 := k1 _ _ he0
    have I1 : InstAt h1 e (HandSPX.excO C t0) C none := ⟨he1, rfl, rfl, trivial⟩
    refine kxs_getMethod kxs_ValueError hso (looks_opaque X1 T.opq) (l₀ := .ref C :: bm) (l := bm) (fun A Q E s k q => wpAny_bind ((looks_clsIn X1 hcls) A _ E s k (wpAny_pure q))) (ESX.drop_own C bm) X1 hal (I1.type.andThen (looks_subIn X1 T.sub)) (ks_ne X1 I1 hcls) (by decide) ?_
    have hmw : (h1.push (kxs_mw "ValueError.__init__" e)).get? h1.objs.size = some (kxs_mw "ValueError.__init__" e) := Heap.get?_push_at rfl rfl
    refine kxs_callWith (i := "ValueError.__init__") (x := e) rfl (Calls.evalArgs_plain (Calls.spliced_cons (Calls.Constant_str (k := j) (pos := p3) (Calls.spliced_nil ⟨hmw, ?_⟩))))
    refine call_mw (Heap.get?_push_of_some _ (X1 _ _ hC)) (Heap.get?_push_of_some _ he1) hmw (by show 1 ≤ sizeLine; decide) fun h2 t1 k2 he2 => ?_
    have k02 : ∀ b o, b ≠ e → h0.get? b = some o → h2.get? b = some o := fun b o hb ho => k2 b o hb (Heap.get?_push_of_some _ (k1 b o ho))
    have X2 : K.In h2 := fun a o ho => k02 a o (hKe a o ho) (X0 a o ho)
    have ns2 : h2.Ns env.locals (fun x => [(("self" : Str), .ref e), (v, u)].reverse.lookup x) := ns0.at' fun o ho => k02 _ o (by rw [e2]; exact Ne.symm szE) ho
    refine ks_wpAt_execs_cons (wpAt_of_wpAny (plainObj_wpAny_Assign_Attribute (wpAny_Name (wpAny_loadName_local kd kV ns2 vV (wpAny_Name (wpAny_loadName_local kd kF ns2 vSelf ?_) rfl)) hv2) rfl))
    refine PySem.W.set_plain X2 (ox := HandSPX.excO C t1) (od := none) ⟨he2, rfl, rfl, trivial⟩ T.cls.sa ?_
    refine HandSPX.exc_osa X2 he2 hcls (show HandSPX.refsVE (.ref C :: bm) = true from hbm) rfl T.fld (fun h3 tk3 dx k3 dn dne hx hn => ?_)
    show PySem.wpAt _ _ _ (execs [] env) _ _ _
    refine wpAt_of_wpAny (wpAny_execs_nil ?_)
    have sz02 : h.objs.size ≤ h2.objs.size := by
      have l0 := hns.lt
      have : h.objs.size < h2.objs.size := by
        obtain ⟨o, es, ep, ho, _⟩ := hns
        exact Heap.lt_size (k02 _ o (Ne.symm szE) ho)
      exact Nat.le_of_lt this
    exact hq h3 tk3 t1 dx (fun b o hb ho => k3 b o hb (k02 b o hb (k0 b o ho))) (Nat.le_trans sz02 dn) dne hx hn
end

section
variable {X : Cx} {e1 : Expr}
/-- C(e1), an own exception -/
theorem pmk_own {x : Str} {C : Addr} {f : Str} {ta : TA} {p pos : Pos} {k : Nat} (T : ExcOk X.prog X.K X.mg C f) (hr : Room k X.A) (hg : Gl X x) (hm : X.mg x = some (.ref C)) (ha : PA X [e1] ta) (hdb : (x == ("__debug__" : Str)) = false) (hs : plainA e1 = true) :
    PMk X (.Call (.Name x p) [e1] [] pos) (fun σ H Q => ta σ H fun vs H1 => ∃ v, vs = [v] ∧ ∀ d, H1 d = none → Q (.ref C) (some d) (upd H1 d (.xd [(f, v)]))) := by
  intro pins s σ H Q I h
  obtain ⟨nm, q, N, bs, bm, sn, sub, ab, col, dd, k0, k1, k2, k3, k5, hC, hbm⟩ := T.cls.cls
  obtain ⟨fI, iC, tI, init⟩ := T.fI
  refine wpAny_Call_Name_kw (ld_glob I hg hm ?_ hdb)
  refine PySem.W.callWith_K (h₀ := X.base) I.ok.mod.kin T.cls.kC (thn (ha.run pos pins s σ H _ I h) fun us s1 ⟨vs, H1, I1, r1, v, ev, q1⟩ => ⟨I1.kIn, ?_⟩) (star_plain hs) rfl
  subst ev
  show wpAny _ _ (call (.ref C) us) _ _ _
  cases r1 with
  | @cons _ u0 _ ur ra rw' =>
  cases rw'
  obtain ⟨hp, g, dr, tk, os⟩ := s1
  have kk : ∀ b o, hp.get? b = some o → ((hp.push (PySem.W.kdv_tup [u0])).push (PySem.HandSPX.excO C hp.objs.size)).get? b = some o := fun b o e => Heap.get?_push_of_some _ (Heap.get?_push_of_some _ e)
  have hget : ((hp.push (PySem.W.kdv_tup [u0])).push (PySem.HandSPX.excO C hp.objs.size)).get? (hp.objs.size + 1) = some (PySem.HandSPX.excO C hp.objs.size) := by heap_get
  have hsz : hp.objs.size ≤ ((hp.push (PySem.W.kdv_tup [u0])).push (PySem.HandSPX.excO C hp.objs.size)).objs.size := by rw [Heap.size_push, Heap.size_push]; omega
  have nha : ∀ {b : Addr} {o : Obj}, hp.get? b = some o → b ≠ hp.objs.size + 1 := fun {b o} z => Nat.ne_of_lt (Nat.lt_of_lt_of_le (Heap.lt_size z) (Nat.le_succ _))
  obtain ⟨mb, hb1, hb2⟩ := I1.mod.blt
  have KX := I1.kIn
  have IB := I1
  refine wpAny_call (PySem.HandSPX.call_own F.excBase_ValueError (fun Y => PySem.HandSPX.refsVE_contains Y bm hbm) (I1.kIn _ _ hC) (PySem.W.looks_findIn I1.kIn iC) (fun self => PySem.W.bind_fn I1.kIn self tI) (by show 1 ≤ sizeLine; decide) ?_)
  refine init_run (mg := X.mg) (mb := mb) T iC init (KX.keeps kk) (I1.nolimit.keeps kk) ((I1.mod.glob.keeps I1.bk).keeps kk) ((hb1.keeps I1.bk).keeps kk) hb2 hget ?_ (fun a o hk => nha (KX a o hk)) fun h' tk' t1 dx kp dn dne hx hn => ?_
  · rw [make_depth]
    have := hr.dp
    omega
  · obtain ⟨G, g1', g2'⟩ := restrict h' fun b => decide (b ≠ hp.objs.size + 1)
    have gk : ∀ b, b ≠ hp.objs.size + 1 → G.get? b = h'.get? b := fun b hb => g1' b (decide_eq_true hb)
    have ge : G.get? (hp.objs.size + 1) = none := g2' _ (by simp)
    have hd1 : H1 dx = none := I1.hok.fresh (Nat.le_trans hsz dn)
    have J : Inv X pins σ (upd H1 dx (.xd [(f, v)])) ⟨G, g, dr, tk', os⟩ := I1.laid (t' := tk') (a := dx) (o := .xd [(f, v)]) (h' := G) (fun b o z => by
        rw [gk b (nha z)]
        exact kp b o (nha z) (kk b o z)) (Nat.le_trans hsz dn) ⟨_, hn.at fun o y => (gk dx dne).trans y, relO_put (fs := []) ra fun _ => True.intro⟩
    refine ⟨rfl, hp.objs.size + 1, _, _, ⟨G, g, dr, tk', os⟩, _, .ref C, some dx, rfl, J, fun b o z => ?_, ge, hx, ⟨rfl, rfl⟩, rfl, rfl, ?_, rfl, I1.bare, raises_own T.cls.exC T.cls.tyC, q1 dx hd1⟩
    · by_cases hba : b = hp.objs.size + 1
      · rw [hba, ge] at z
        cases z
      · exact (gk b hba).symm.trans z
    · rw [upd_ne (Ne.symm dne)]
      exact I1.hok.fresh (Nat.le_succ _)
end
end Q

set_option Elab.async false
set_option linter.all false
set_option maxRecDepth 100000
set_option maxHeartbeats 4000000
/-! X2: try with several clauses, each with a name. -/
namespace Q
open Snd
open PySem PySem.Spec PyProof.Rows L2

def asEnds (i : Nat) (D : Ends) : Ends := { nx := fun σ' H' => D.nx (σ'.set i none) H', rt := D.rt, bk := fun σ' H' => D.bk (σ'.set i none) H', ct := fun σ' H' => D.ct (σ'.set i none) H' }
abbrev Cls := Value × Nat × (Addr → Value → Option Addr → TS)
def wAsM (K : PySem.W.Frag) (Wout : WX) (D : Ends) : List Cls → WX
  | [] => Wout
  | (c, i, ts) :: r => fun cls d σ H => ∃ b, PySem.W.exmOne K cls c = some b ∧ (b = true → ∀ a, H a = none → ts a cls d (asEnds i D) (σ.set i (some (.ref a))) H) ∧ (b = false → wAsM K Wout D r cls d σ H)
inductive HdsAs (X : Cx) : List ExceptHandler → List Cls → Prop
  | nil : HdsAs X [] []
  | cons {x n : Str} {i : Nat} {c : Value} {ts : Addr → Value → Option Addr → TS} {b₀ : Stmt} {suite : List Stmt} {np pos' : Pos} {hds : List ExceptHandler} {l : List Cls} (hc : Names X x c) (hi : X.N[i]? = some n) (hln : X.env.kindOf n = some .local)
      (hsu : ∀ (a : Addr) (oe : Obj) (cls : Value) (d : Option Addr) (pn : List (Addr × Obj)), Zc cls d oe → (∃ vs, oe.data = .fields vs) → PSs (X.suite a ((a, oe) :: pn)) (b₀ :: suite) (ts a cls d)) (r : HdsAs X hds l) :
      HdsAs X (.ExceptHandler (some (.Name x np)) (some n) (b₀ :: suite) pos' :: hds) ((c, i, ts) :: l)
section
variable {X : Cx} {body : List Stmt} {h₀ : ExceptHandler} {hds : List ExceptHandler} {l : List Cls} {pos : Pos} {tb : WX → TS} {Wout : WX}
theorem ps_try_asM (hs : X.stack = X.env :: X.outer) (hf : X.env.frame = some X.env.locals) (hN : X.N.Nodup) (tk : Takes X Wout)
    (hb : ∀ (W : WX) (pn : List (Addr × Obj)) (xe : Value → Shared → Prop), Takes (X.tr pn xe) W → PassesOwn (model X.prog X.w) X.A X.env xe → PSs (X.tr pn xe) body (tb W))
    (hh : HdsAs X (h₀ :: hds) l) : PS X (.Try body (h₀ :: hds) [] [] pos) (fun D σ H => tb (wAsM X.K Wout D l) D σ H) := by
  refine ⟨fun pins s σ H D I h => ?_⟩
  have ok := I.ok
  have hfr : X.A.frames = some (X.env :: X.outer) := by rw [ok.frames, hs]
  refine wpAny_Try_except ?_
  refine wpAny_mono ((hb (wAsM X.K Wout D l) (X.pn ++ pins) (fun e s₁ => wpAny (model X.prog X.w) X.A (noteFrame e X.env) (fun _ s₂ => wpAny (model X.prog X.w) X.A (setFlight e none) (fun _ s₃ =>
    wpAny (model X.prog X.w) X.A (handleBy e X.env (h₀ :: hds)) (SP X pins D) X.xe s₃) X.xe s₂) X.xe s₁) (fun u s' xx => ?_) PassesOwn.looking).run [] s σ H D (I.toTry _) h) (fun f s1 hsp => ?_) (fun e s1 he => he)
  · -- the catch
    obtain ⟨a, B, sI, pins', σ', H', cls, d, rfl, J', nb, up, sky, na, os, ag, w⟩ := xx
    have J : L2.Inv X pins σ' H' sI := J'.ofTry ok
    have sky' : Sky B (X.env :: X.outer) a (Zc cls d) X.env.locals s'.heap := by rw [← hs]; exact sky
    show wpAny (model X.prog X.w) X.A (noteFrame (.ref a) X.env) _ _ _
    refine Sky.land Zc.steady hfr hf sky' fun h3 fl3 up3 => ?_
    have J3 : L2.Inv X pins σ' H' { s' with heap := h3 } := J.landed nb fl3.1 (up.trans up3) os ag
    obtain ⟨oe3, vs3, he3, hz3, hd3⟩ := fl3.there
    have notFr : ∀ {h : Heap} {o : Obj} {vs : Array Value}, h.FunFrames B (X.env :: X.outer) → h.get? a = some o → o.data = .fields vs → a ∉ frs (X.env :: X.outer) := fun {h o vs} ff e dd hm => by
      obtain ⟨_, o', e', hnf⟩ := ff.mem hm
      rw [e] at e'; cases e'
      exact hnf _ dd
    have nfr := notFr fl3.2.2.1 he3 hd3
    have nL : a ≠ X.env.locals := fun z => nfr (List.mem_filterMap.mpr ⟨X.env, List.mem_cons_self, by rw [hf, z]⟩)
    have nF : a ∉ X.fs := fun hm => by
      obtain ⟨e, he, q⟩ := List.mem_filterMap.mp hm
      exact nfr (List.mem_filterMap.mpr ⟨e, List.mem_cons_of_mem _ he, q⟩)
    have S3 := J3.suite he3 hd3 na nL nF
    have go : ∀ {hds' : List ExceptHandler} {l' : List Cls}, HdsAs X hds' l' → wAsM X.K Wout D l' cls d σ' H' →
        wpAny (model X.prog X.w) X.A (handleBy (.ref a) X.env hds') (SP X pins D) X.xe { s' with heap := h3 } := by
      intro hds' l' hk
      induction hk with
      | nil =>
        intro w
        refine wpAny_handleBy_nil ?_
        obtain ⟨k1, k2, k3, oe, vs, T, oT, ts', he, hz, hd, h1, hr⟩ := id fl3
        unfold PySem.passOn
        refine wpAny_bind (wpAny_field he hd h1 ?_)
        rw [if_neg (show ¬ ((Value.ref T == Value.none) = true) from by simp)]
        have fin : wpAny (model X.prog X.w) X.A (setFlight (.ref a) X.env.frame) (fun _ s4 => wpAny (model X.prog X.w) X.A (throw (.ref a) : Sem Flow) (SP X pins D) X.xe s4) X.xe { s' with heap := h3 } := by
          rw [hf]
          refine HandSPX.setFlight_upZ fl3 fun h4 hh4 up4 => wpAny_throw (tk _ _ ?_)
          exact ⟨a, B, sI, pins, σ', H', cls, d, rfl, J, nb, (up.trans up3).trans up4, .inr (.inr (by rw [hs]; exact hh4)), na, os, ag, w⟩
        first
          | exact wpAny_bind (wpAny_pure (wpAny_bind fin))
          | exact wpAny_bind fin
      | @cons x n i c ts b₀ suite np pos' hds2 l2 hc hi hln hsu r ih =>
        intro w
        obtain ⟨b, hb1, hyes, hno⟩ := w
        have hloc : L2.Loc X.env.scope n := .inl hln
        refine wpAny_handleBy_cons (codeAny_handlers_test ?_) (by intro q; cases q)
        have LT : PySem.W.Looks (model X.prog X.w) h3 (typeOf (.ref a)) cls := fun A Q E s k q => wpAny_typeOf_ref (k _ _ he3) (by rw [hz3.1]; exact q)
        have LM := PySem.W.exm_one (M := model X.prog X.w) (J3.kIn) LT hb1
        have test : ∀ {Q : Value → Shared → Prop} {E : Value → Shared → Prop}, Q c { s' with heap := h3 } → wpAny (model X.prog X.w) (X.A.mark (some (.ref a))) (eval (.Name x np) X.env) Q E { s' with heap := h3 } := fun {Q E} q => by
          obtain ⟨hg, hdbg, hm | ⟨hm, hv, hnn⟩⟩ := hc
          · exact ld_glob (X := X.suite a ((a, oe3) :: (X.pn ++ pins))) S3 hg hm q hdbg
          · exact ld_blt (X := X.suite a ((a, oe3) :: (X.pn ++ pins))) S3 hg hm hv q hnn hdbg
        refine test (LM.here ?_)
        cases b with
        | true =>
          refine codeAny_handlers_suite_as ?_
          refine HandSPX.lands_againZ fl3 fun h4 fl4 up4 => ?_
          have J4 : L2.Inv X pins σ' H' { s' with heap := h4 } := J.landed nb fl4.1 ((up.trans up3).trans up4) os ag
          obtain ⟨oe4, vs4, he4, hz4, hd4⟩ := fl4.there
          have S4 := J4.suite he4 hd4 na nL nF
          refine store_ok (X := X.suite a ((a, oe4) :: (X.pn ++ pins))) (v := .ref a) S4 hN hi hloc rfl (fun s5 S5 => ?_) (.inr hln)
          refine wpAny_mono ((hsu a oe4 cls d (X.pn ++ pins) hz4 ⟨_, hd4⟩).run [] s5 _ H' _ S5 (hyes rfl a na)) (fun f s6 hsp => ?_) (fun _ _ z => False.elim z)
          have end_ : ∀ {σ6 : L2.St} {H6 : Hp} {Q : Shared → Prop}, L2.Inv (X.suite a ((a, oe4) :: (X.pn ++ pins))) [] σ6 H6 s6 → (∀ s7, L2.Inv X pins (σ6.set i none) H6 s7 → Q s7) →
              wpAny (model X.prog X.w) X.A (do bindName X.env n .none; unbindBehindTheSuite X.env n pos') (fun _ s7 => Q s7) X.xe s6 := fun {σ6 H6 Q} S6 hq => gone_ok (S6.unsuite ok) hN hi hln hq
          cases f with
          | next =>
            obtain ⟨σ6, H6, S6, q6⟩ := hsp
            exact end_ S6 fun s7 J7 => ⟨_, _, J7, q6⟩
          | brk =>
            obtain ⟨σ6, H6, S6, q6⟩ := hsp
            exact end_ S6 fun s7 J7 => ⟨_, _, J7, q6⟩
          | cont =>
            obtain ⟨σ6, H6, S6, q6⟩ := hsp
            exact end_ S6 fun s7 J7 => ⟨_, _, J7, q6⟩
          | ret u =>
            obtain ⟨v6, σ6, H6, S6, r6, q6⟩ := hsp
            exact end_ S6 fun s7 J7 => ⟨_, _, _, J7, r6, q6⟩
        | false =>
          show wpAny _ X.A (handleBy (.ref a) X.env hds2) _ _ _
          exact ih (hno rfl)
    exact go hh w
  · cases f with
    | next =>
      obtain ⟨σ', H', J', q⟩ := hsp
      exact wpAny_execs_nil ⟨σ', H', J'.ofTry ok, q⟩
    | brk =>
      obtain ⟨σ', H', J', q⟩ := hsp
      exact ⟨σ', H', J'.ofTry ok, q⟩
    | cont =>
      obtain ⟨σ', H', J', q⟩ := hsp
      exact ⟨σ', H', J'.ofTry ok, q⟩
    | ret u =>
      obtain ⟨v, σ', H', J', r, q⟩ := hsp
      exact ⟨v, σ', H', J'.ofTry ok, r, q⟩
end
end Q

set_option Elab.async false
set_option linter.all false
set_option maxRecDepth 100000
set_option maxHeartbeats 4000000
/-! X3: raise, try, an exception's field, told by Q. -/
namespace Q
open Snd
open PySem PySem.Spec PyProof.Rows L2

section
variable {P : RP} {F : FR} {W : WX} {g : G} {b : Below} {X : Cx} {e : E} {A1 : Expr} {pos p pos' : Pos} {σ σ' : L2.St} {H H1 H2 : Hp} {own own1 own2 : List Addr} {sl sl1 sl2 : Sl} {En : Ends}
/-- raise C(e) -/
theorem s_raise {x : Str} {c k : Nat} {f : Str} (hc : X.calm = true) (tk : Takes X W) (T : ExcOk X.prog X.K X.mg (P.cad c) f) (hf : P.cfs c = [f]) (hr : Room k X.A) (hg : Gl X x) (hm : X.mg x = some (.ref (P.cad c))) (h1 : PE X A1 (tE P F W g b e)) (ke : e.pk = false) (hdb : (x == ("__debug__" : Str)) = false) (hs : plainA A1 = true) :
    PS X (.Raise (some (.Call (.Name x p) [A1] [] pos)) none pos') (tS P F W g b (.raise c [e])) :=
  (ps_raise hc tk (pmk_own T hr hg hm (pa_cons h1 pa_nil (star_plain hs)) hdb hs)).weak fun En σ H ⟨sl, own, sim, h⟩ => ⟨sl, own, sim, by
    have h : ResS P F W H own En ((evs g b [e] sl).bind fun p => if D.frozens p.1 then .exc c p.1 p.2 else .bad) := h
    have h2 : ResS P F W H own En ((ev g b e sl).bind fun p => if p.1.frozen then .exc c [p.1] p.2 else .bad) := by
      cases m : ev g b e sl with
      | ok q =>
        simp only [evs, m, R.bind, D.frozens, Bool.and_true] at h ⊢
        exact h
      | exc a b c => simp only [evs, m, R.bind] at h ⊢; exact h
      | bad => simp only [evs, m, R.bind] at h ⊢; exact h
    refine (ResS.expr h2).mono fun p _ h v H1 own1 as1 p1 => ⟨v, rfl, fun d hd => ?_⟩
    split at h
    case isFalse => exact h.elim
    rename_i fz
    have gr : Grow H1 (upd H1 d (.xd [(f, v)])) := .upd hd
    have rv := p1.rep.fz fz
    refine h σ _ own1 d ⟨p1.sim.grow gr, p1.step.trans gr.step⟩ ⟨[(f, v)], [v], upd_same, ?_, .fcons (rv.frameG gr) .nil⟩
    rw [hf]
    exact .cons (by simp [List.lookup]) .nil⟩

theorem fld_at {f : Str} {fl : List (Str × V)} : ∀ {ns : List Str} {fs : List D} {ws : List V} {d : D}, fldD f ns fs = some d → XdHas fl ns ws → Reps P H fs ws [] → ∃ w, fl.lookup f = some w ∧ Rep P H d w []
  | [], fs, ws, d, e, _, _ => nomatch e
  | a :: ns, [], ws, d, e, _, _ => nomatch e
  | a :: ns, x :: fs, ws, d, e, h, r => by
    obtain ⟨w, ws', rfl, r1, r2⟩ := r.uncons
    cases h with
    | cons h1 h2 =>
      by_cases q : f = a
      · subst q
        have e : (if f = f then some x else fldD f ns fs) = some d := e
        rw [if_pos rfl] at e
        cases e
        exact ⟨w, h1, r1⟩
      · have e : (if f = a then some x else fldD f ns fs) = some d := e
        rw [if_neg q] at e
        exact fld_at e h2 r2
/-- error.f in the suite -/
theorem e_fld {a C dd : Addr} {oe : Obj} {cls : Value} {d : Option Addr} {pn : List (Addr × Obj)} {x f : Str} {i : Nat} (T : XfC X.K C) (hno : PySem.W.findIn X.K (.ref C) f = some none) (hz : Zc cls d oe) (hf : ∃ vs, oe.data = .fields vs) (hcls : cls = .ref C) (hd : d = some dd)
    (hio : (i, V.ref a) ∈ F.io) (hxs : ∀ dd', (i, dd') ∈ F.xs → dd' = dd) (hcfs : P.cfs = g.cfs) (hN : X.N[i]? = some x) (hv : Vis X.env.scope x) (hdb : (x == ("__debug__" : Str)) = false) (hcd : (x == ("__classdict__" : Str)) = false) :
    PE (X.suite a ((a, oe) :: pn)) (.Attribute (.Name x p) f pos) (tE P F W g b (.fld i f)) :=
  (pe_xf T hno hz hf (pe_var (X := X.suite a ((a, oe) :: pn)) (i := i) hN hv hdb hcd)).weak fun σ H Q ⟨sl, own, sim, h⟩ => by
    obtain ⟨dx, ex, h⟩ := Res.ofB (show Res P F W σ H own ((R.of (getX i sl)).bind _) _ from h)
    cases dx with
    | xc c fs =>
      obtain ⟨v', ev, h⟩ := h.ofB
      obtain ⟨dd', hm, fl, ws, q1, q2, q3⟩ := sim.xs i c fs ex
      have := hxs dd' hm
      subst this
      rw [hcfs] at q2
      obtain ⟨w, l1, r1⟩ := fld_at ev q2 q3
      exact ⟨.ref a, sim.io _ hio, rfl, hcls, dd', fl, w, hd, q1, l1, h w H own [] (.same rfl sim r1)⟩
    | _ => exact h.elim
/-- a slot that names an exception -/
theorem slR_xc {sl : Sl} {σ : L2.St} {own : List Addr} {i c : Nat} {fs : List D} (h : SlR P H (sl.set i none) σ own) : SlR P H (sl.set i (some (.xc c fs))) σ own := by
  induction i generalizing sl σ own with
  | zero =>
    cases sl with
    | nil => exact h
    | cons y sl =>
      have h : SlR P H (none :: sl) σ own := h
      cases h with
      | no hy r => exact .no rfl r
  | succ i ih =>
    cases sl with
    | nil => exact h
    | cons y sl =>
      have h : SlR P H (y :: sl.set i none) σ own := h
      cases h with
      | no hy r => exact .no hy (ih r)
      | yes hq r => exact .yes hq (ih r)
/-- the frame where a suite runs -/
def FR.sui (F : FR) (i : Nat) (a dd : Addr) : FR := ⟨(i, .ref a) :: F.io, F.H0, (i, dd) :: F.xs.filter fun p => decide (p.1 ≠ i)⟩
/-- what a clause's suite wishes -/
def tSui (P : RP) (F : FR) (g : G) (b : Below) (k i : Nat) (suite : List S) (a : Addr) (cls : Value) (d : Option Addr) : TS := fun En σ H => ∃ c dd, cls = .ref (P.cad c) ∧ d = some dd ∧ g.sub c k = some true ∧ tSs P (F.sui i a dd) (fun _ _ _ _ => False) g b suite En σ H
def clsOf (P : RP) (F : FR) (g : G) (b : Below) : List (Nat × Option Nat) → List (List S) → List Cls
  | (k, some i) :: cs, suite :: suites => (.ref (P.cad k), i, tSui P F g b k i suite) :: clsOf P F g b cs suites
  | _, _ => []
def allNamed : List (Nat × Option Nat) → List (List S) → Bool
  | (_, some _) :: cs, _ :: suites => allNamed cs suites
  | [], [] => true
  | _, _ => false
theorem try_catch {K : PySem.W.Frag} (hsub : ∀ c k r, g.sub c k = some r → PySem.W.exmOne K (.ref (P.cad c)) (.ref (P.cad k)) = some r) {c : Nat} {fs : List D} {sl1 : Sl} : ∀ {cs : List (Nat × Option Nat)} {suites : List (List S)}, allNamed cs suites = true → (∀ q ∈ cs, ∀ i, q.2 = some i → offIo F i) →
    ResS P F W H own En (exH g b c fs sl1 cs suites) → ∀ σ' H' own' dd, PostS P F H own sl1 σ' H' own' → XRep P H' c fs dd → wAsM K W En (clsOf P F g b cs suites) (.ref (P.cad c)) (some dd) σ' H'
  | [], [], _, _, h, σ', H', own', dd, x, xr => h σ' H' own' dd x xr
  | [], _ :: _, z, _, _, _, _, _, _, _, _ => nomatch z
  | (_, none) :: _, _, z, _, _, _, _, _, _, _, _ => by cases z
  | (_, some _) :: _, [], z, _, _, _, _, _, _, _, _ => nomatch z
  | (k, some i) :: cs, suite :: suites, z, hoff, h, σ', H', own', dd, x, xr => by
    have h : ResS P F W H own En (match g.sub c k with
      | some true => if inR (some i) sl1 then (noExc (exs g b suite (setX (some i) (.xc c fs) sl1))).bind fun p => .ok (p.1, unset (some i) p.2) else .bad
      | some false => exH g b c fs sl1 cs suites
      | none => .bad) := h
    cases m : g.sub c k with
    | none => rw [m] at h; exact h.elim
    | some r =>
      rw [m] at h
      refine ⟨r, hsub c k r m, fun e a na => ?_, fun e => ?_⟩
      · subst e
        have ho := hoff _ List.mem_cons_self i rfl
        by_cases hi : i < sl1.length
        case neg =>
          have hn : inR (some i) sl1 = false := decide_eq_false hi
          simp only [hn, Bool.false_eq_true, if_false] at h
          exact h.elim
        have hn : inR (some i) sl1 = true := decide_eq_true hi
        simp only [hn, if_true] at h
        obtain ⟨old, pre, post, e1, k1, k2⟩ := x.sim.r.put hi
        have r2 := k2 (H2 := H') (x := some (V.ref a)) FixIn.refl fun _ _ => rfl
        have nd := x.sim.nd
        rw [e1] at nd
        have nd2 : (pre ++ post).Nodup := nd.sublist (by
          rw [List.append_assoc]
          exact List.Sublist.append_left (List.sublist_append_right _ _) _)
        have sub : ∀ z ∈ pre ++ post, z ∈ own' := fun z hz => by rw [e1]; rcases List.mem_append.mp hz with y | y <;> simp [y]
        have st2 : Step own H H' (pre ++ post) := x.step.less sub
        have r3 : SlR P H' (sl1.set i (some (.xc c fs))) (σ'.set i (some (V.ref a))) (pre ++ post) := slR_xc r2
        have lσ := x.sim.r.length
        have sim3 : Sim P (F.sui i a dd) (sl1.set i (some (.xc c fs))) (σ'.set i (some (V.ref a))) H' (pre ++ post) := by
          refine ⟨r3, nd2, x.sim.tabs, fun p hp => ?_, (x.sim.bas.step ⟨fun _ _ h _ _ => h, fun _ ps h => ⟨ps, h⟩, fun z hz => .inl (sub z hz)⟩), fun j c2 fs2 e => ?_⟩
          · rcases List.mem_cons.mp hp with rfl | hp
            · show (σ'.set i (some (V.ref a)))[i]? = _
              rw [List.getElem?_set_self (by omega)]
            · rw [List.getElem?_set_ne (fun e => ho p hp e.symm)]
              exact x.sim.io p hp
          · by_cases hj : i = j
            · subst hj
              unfold getX at e
              rw [List.getElem?_set_self hi] at e
              cases e
              exact ⟨dd, List.mem_cons_self, xr⟩
            · have e2 : getX j sl1 = some (.xc c2 fs2) := by
                unfold getX at e ⊢
                rwa [List.getElem?_set_ne hj] at e
              obtain ⟨dd2, m2, x2⟩ := x.sim.xs j c2 fs2 e2
              exact ⟨dd2, List.mem_cons_of_mem _ (List.mem_filter.mpr ⟨m2, by simpa using Ne.symm hj⟩), x2⟩
        refine ⟨c, dd, rfl, rfl, m, _, _, sim3, ?_⟩
        have back : ∀ {s2 : Sl} {σ2 : L2.St} {H2 : Hp} {own2 : List Addr}, PostS P (F.sui i a dd) H' (pre ++ post) s2 σ2 H2 own2 → ∃ own3, PostS P F H own (s2.set i none) (σ2.set i none) H2 own3 ∧ ∀ z ∈ own3, z ∈ own2 := by
          intro s2 σ2 H2 own2 y
          have io2 : ∀ p ∈ F.io, (σ2.set i none)[p.1]? = some (some p.2) := fun p hp => by
            rw [List.getElem?_set_ne (fun e => ho p hp e.symm)]
            exact y.sim.io p (List.mem_cons_of_mem _ hp)
          have xs2 : ∀ j c2 fs2, getX j (s2.set i none) = some (.xc c2 fs2) → ∃ dd, (j, dd) ∈ F.xs ∧ XRep P H2 c2 fs2 dd := fun j c2 fs2 e => by
            rcases getX_set e with ⟨_, q⟩ | q
            · cases q
            · obtain ⟨dd2, m2, x2⟩ := y.sim.xs j c2 fs2 q
              rcases List.mem_cons.mp m2 with q2 | q2
              · cases q2
                exfalso
                unfold getX at e
                by_cases hl : i < s2.length
                · rw [List.getElem?_set_self hl] at e; cases e
                · rw [List.getElem?_eq_none (by simpa using hl)] at e; cases e
              · exact ⟨dd2, (List.mem_filter.mp q2).1, x2⟩
          by_cases hl : i < s2.length
          · obtain ⟨old2, pre2, post2, e2, q1, q2⟩ := y.sim.r.put hl
            have rr := q2 (H2 := H2) (x := none) FixIn.refl fun _ _ => rfl
            have nd5 := y.sim.nd
            rw [e2] at nd5
            have sub5 : ∀ z ∈ pre2 ++ post2, z ∈ own2 := fun z hz => by rw [e2]; rcases List.mem_append.mp hz with y | y <;> simp [y]
            have st5 := (st2.trans y.step).less sub5
            exact ⟨pre2 ++ post2, ⟨⟨rr, nd5.sublist (by rw [List.append_assoc]; exact List.Sublist.append_left (List.sublist_append_right _ _) _), y.sim.tabs, io2, y.sim.bas.step ⟨fun _ _ h _ _ => h, fun _ ps h => ⟨ps, h⟩, fun z hz => .inl (sub5 z hz)⟩, xs2⟩, st5⟩, sub5⟩
          · have lσ2 := y.sim.r.length
            have e3 : s2.set i none = s2 := List.set_eq_of_length_le (by omega)
            have e4 : σ2.set i none = σ2 := List.set_eq_of_length_le (by omega)
            exact ⟨own2, ⟨⟨by rw [e3, e4]; exact y.sim.r, y.sim.nd, y.sim.tabs, io2, y.sim.bas, xs2⟩, st2.trans y.step⟩, fun _ z => z⟩
        show ResS P (F.sui i a dd) _ H' (pre ++ post) (asEnds i En) (exs g b suite (sl1.set i (some (.xc c fs))))
        have h : ResS P F W H own En ((noExc (exs g b suite (sl1.set i (some (.xc c fs))))).bind fun p => .ok (p.1, p.2.set i none)) := h
        cases m2 : exs g b suite (sl1.set i (some (.xc c fs))) with
        | exc _ _ _ => rw [m2] at h; exact h.elim
        | bad => rw [m2] at h; exact h.elim
        | ok p =>
          obtain ⟨fl, s2⟩ := p
          rw [m2] at h
          cases fl with
          | nx => exact fun σ2 H2 own2 y => by obtain ⟨own3, y3, _⟩ := back y; exact h _ H2 own3 y3
          | brk => exact fun σ2 H2 own2 y => by obtain ⟨own3, y3, _⟩ := back y; exact h _ H2 own3 y3
          | cont => exact fun σ2 H2 own2 y => by obtain ⟨own3, y3, _⟩ := back y; exact h _ H2 own3 y3
          | ret d =>
            exact fun σ2 H2 own2 v as y rv n kk => by
              obtain ⟨own3, y3, sub3⟩ := back y
              have n3 := List.nodup_append.mp n
              refine h _ H2 own3 v as y3 rv (List.nodup_append.mpr ⟨n3.1, y3.sim.nd, fun u hu w hw e => n3.2.2 u hu w (sub3 w hw) e⟩) fun z hz => ?_
              rcases kk z hz with q | q
              · exact x.step.new z (sub z q)
              · exact x.step.back q
      · subst e
        exact try_catch hsub (show allNamed cs suites = true from z) (fun q hq => hoff q (List.mem_cons_of_mem _ hq)) h σ' H' own' dd x xr
end
end Q

set_option Elab.async false
set_option linter.all false
set_option maxRecDepth 100000
set_option maxHeartbeats 4000000
/-! X4: lambdas without a parameter, or with one that has a number for its default. -/
namespace Q
open Snd
open PySem PySem.Spec PySem.Calls PyProof.Rows L2

abbrev lamFd (qual : Str) (params : Arguments) (body : Expr) (scope : Scope) (cl : List (Str × Addr)) (pm cdv ct dV : Value) : FuncData :=
  { PySem.W.kla_fn "<lambda>" qual params body scope cl pm cdv ct with defaults := dV }
abbrev lamOb (qual : Str) (params : Arguments) (body : Expr) (scope : Scope) (cl : List (Str × Addr)) (pm cdv ct dV : Value) : Obj := { cls := .type "function", data := .func (lamFd qual params body scope cl pm cdv ct dV) }
abbrev dfTup (v : Value) : Obj := { cls := .type "tuple", data := .seq #[v] }
/-- the parameters: none, or one with a number -/
structure LamPar where
  y : Str
  j : Int
  pa : Pos
  k : Nat
  pd : Pos
def lamArgs : Option LamPar → Arguments
  | none => { posonlyargs := [], args := [], vararg := none, kwonlyargs := [], kw_defaults := [], kwarg := none, defaults := [] }
  | some p => { posonlyargs := [], args := [{ arg := p.y, annotation := none, pos := p.pa }], vararg := none, kwonlyargs := [], kw_defaults := [], kwarg := none, defaults := [.Constant (.int p.j) p.k p.pd] }
/-- the defaults' tuple stands in h -/
def DfAt (o : Option LamPar) (dV : Value) (bs : List (Str × Value)) (h : Heap) : Prop := match o with
  | none => dV = .none ∧ bs = []
  | some p => ∃ t tk, dV = .ref t ∧ h.get? t = some (dfTup (.int p.j tk)) ∧ bs = [(p.y, .int p.j tk)]
theorem lam_binds {o : Option LamPar} {qual : Str} {body : Expr} {scope : Scope} {cl : List (Str × Addr)} {pm cdv ct dV : Value} {bs : List (Str × Value)} {s : Shared} (h : DfAt o dV bs s.heap) : BindsTo s (lamFd qual (lamArgs o) body scope cl pm cdv ct dV) ⟨[], []⟩ bs := by
  cases o with
  | none =>
    obtain ⟨rfl, rfl⟩ := h
    exact .of_eq rfl
  | some p =>
    obtain ⟨t, tk, rfl, ht, rfl⟩ := h
    obtain ⟨y, j, pa, k, pd⟩ := p
    intro M A E Q q
    show wpAny M A (seqItems? (.ref t) >>= _) Q E s
    refine wpAny_bind (wpAny_seqItems ht rfl ?_)
    refine wpAny_of_eq (a := [(y, .int j tk)]) ?_ q
    simp [lamArgs, List.lookup]
section
variable {M : Model} {A : Around} {E : Value → Shared → Prop} {s : Shared} {name qual : Str} {params : Arguments} {body : Expr} {scope : Scope} {env : Env} {c P : Addr} {ps : Array Value} {pos : Pos} {firstLine : Nat} {mg : Str → Option Value}
  {clos : List (Str × Addr)} {Q : Value → Shared → Prop} {dV : Value}
open PySem.W
theorem tailM (hcl : closureFor scope env = pure clos) (hge0 : env.globals = mainGlobals) (hg : s.heap.Ns mainGlobals mg) (hcode : env.code = .ref c) (C : CodeHd s.heap c P) (hP : s.heap.get? P = some (tabObj ps)) (ht : TriplesOk ps.toList)
    (hnf : codeAmong pos ps.toList = none) (hgP : mainGlobals ≠ P) (hb : s.heap.BuiltinsAt mg P)
    (h : ∀ c' ctv h' tk, Heap.ExtBut P s.heap h' → s.heap.objs.size ≤ c' → c' < h'.objs.size → h'.CodeRec (.ref c') qual → h'.get? P = some (tabObj (ps ++ #[rawInt pos.line, rawInt pos.col, .ref c'])) →
      Q (.ref h'.objs.size) { s with heap := h'.push (lamOb qual params body scope clos ((mg "__name__").getD .none) (.ref c') ctv dV), toks := tk }) :
    wpAny M A (makeTail "<lambda>" qual params (.expr body) scope env dV .none none pos firstLine) Q E s := by
  obtain ⟨bm, ob, hbm, hne0, _, hneP, hbo, hcls, hdict, hdata⟩ := hb
  unfold makeTail
  rw [hcl, hge0]
  refine wpAny_bind (wpAny_pure ?_)
  cases clos with
  | nil =>
    simp only [List.isEmpty_nil, if_true]
    refine wpAny_bind (wpAny_pure ?_)
    refine wpAny_bind (wpAny_functionCodeX hcode (C.code hP ht) (C.tab hP) hnf fun c' h' tk hx hge hlt _ hrec htb _ => ?_)
    have hg' := hg.extBut hx hgP
    refine wpAny_bind (wpAny_builtinsFor hg' hbm hne0 (hx _ _ hneP hbo) hcls hdict hdata ?_)
    refine wpAny_bind (wpAny_nsGet hg' ?_)
    exact wpAny_bind (wpAny_pure (wpAny_newObj_type (h c' .none h' tk hx hge hlt hrec htb.2) (by size_fits)))
  | cons q r =>
    simp only [List.isEmpty_cons, Bool.false_eq_true, if_false]
    refine wpAny_bind (wpAny_newTextTuple ?_)
    refine wpAny_bind (wpAny_functionCodeX hcode ((C.keeps fun b o e => Heap.get?_push_of_some _ e).code (Heap.get?_push_of_some _ hP) ht) ((C.keeps fun b o e => Heap.get?_push_of_some _ e).tab (Heap.get?_push_of_some _ hP)) hnf fun c' h' tk hx hge hlt _ hrec htb _ => ?_)
    have hg' := (hg.push _).extBut hx hgP
    have hx' : Heap.ExtBut P s.heap h' := fun b o hb' e => hx b o hb' (Heap.get?_push_of_some _ e)
    have hge' : s.heap.objs.size ≤ c' := Nat.le_trans (by rw [Heap.size_push]; omega) hge
    refine wpAny_bind (wpAny_builtinsFor hg' hbm hne0 (hx' _ _ hneP hbo) hcls hdict hdata ?_)
    refine wpAny_bind (wpAny_nsGet hg' ?_)
    exact wpAny_bind (wpAny_pure (wpAny_newObj_type (h c' _ h' tk hx' hge' hlt hrec htb.2) (by size_fits)))
theorem tailH {cv : Value} (hcl : closureFor scope env = pure clos) (hge0 : env.globals = mainGlobals) (hg : s.heap.Ns mainGlobals mg) (hcode : env.code = .ref c) (C : CodeHd s.heap c P) (hP : s.heap.get? P = some (tabObj ps)) (ht : TriplesOk ps.toList)
    (hf : codeAmong pos ps.toList = some cv) (hb : s.heap.BuiltinsAt mg P)
    (h : ∀ (ctv : Value) (h' : Heap) (tk : Tok), (∀ b o, s.heap.get? b = some o → h'.get? b = some o) → s.heap.objs.size ≤ h'.objs.size →
      Q (.ref h'.objs.size) { s with heap := h'.push (lamOb qual params body scope clos ((mg "__name__").getD .none) cv ctv dV), toks := tk }) :
    wpAny M A (makeTail "<lambda>" qual params (.expr body) scope env dV .none none pos firstLine) Q E s := by
  obtain ⟨bm, ob, hbm, hne0, _, hneP, hbo, hcls, hdict, hdata⟩ := hb
  unfold makeTail
  rw [hcl, hge0]
  refine wpAny_bind (wpAny_pure ?_)
  cases clos with
  | nil =>
    simp only [List.isEmpty_nil, if_true]
    refine wpAny_bind (wpAny_pure ?_)
    refine wpAny_bind (wpAny_functionCode_hit hcode (C.code hP ht) hf ?_)
    refine wpAny_bind (wpAny_builtinsFor hg hbm hne0 hbo hcls hdict hdata ?_)
    refine wpAny_bind (wpAny_nsGet hg ?_)
    exact wpAny_bind (wpAny_pure (wpAny_newObj_type (h .none s.heap s.toks (fun _ _ e => e) (Nat.le_refl _)) (by size_fits)))
  | cons q r =>
    simp only [List.isEmpty_cons, Bool.false_eq_true, if_false]
    refine wpAny_bind (wpAny_newTextTuple ?_)
    refine wpAny_bind (wpAny_functionCode_hit hcode ((C.keeps fun b o e => Heap.get?_push_of_some _ e).code (Heap.get?_push_of_some _ hP) ht) hf ?_)
    refine wpAny_bind (wpAny_builtinsFor (hg.push _) hbm hne0 (Heap.get?_push_of_some _ hbo) hcls hdict hdata ?_)
    refine wpAny_bind (wpAny_nsGet (hg.push _) ?_)
    have hsz : ∀ oT : Obj, s.heap.objs.size ≤ (s.heap.push oT).objs.size := fun oT => by rw [Heap.size_push]; omega
    exact wpAny_bind (wpAny_pure (wpAny_newObj_type (h _ _ s.toks (fun b o e => Heap.get?_push_of_some _ e) (hsz _)) (by size_fits)))
end

/-- the lambda's names -/
structure LamQ (N : List Str) (sc scope : Scope) (o : Option LamPar) : Prop where
  kind : scope.kind = .function
  co : scope.isCoroutine = false
  gen : scope.isGenerator = false
  cell : ∀ y ∈ scope.names, y.2 ≠ .cell
  loc : ∀ (i : Nat) (y : Str), N[i]? = some y → scope.names.lookup y ≠ some .local
  par : ∀ p, o = some p → scope.names.lookup p.y = some .local
  free : ∀ y ∈ scope.names, y.2 = .free → sc.names.lookup y.1 = some .cell ∨ sc.names.lookup y.1 = some .free
section
variable {X : Cx} {pins : List (Addr × Obj)} {σ : L2.St} {H HZ : Hp} {s s1 : Shared} {scope : Scope} {o : Option LamPar}
theorem LamQ.has (L : LamQ X.N X.env.scope scope o) (ok : X.Ok) : ∀ y ∈ scope.names, y.2 = .free → ∃ c, X.env.cells.lookup y.1 = some c := fun y hy e => by
  rcases L.free y hy e with k | k
  · exact ok.has _ (.inl k)
  · exact ok.has _ (.inr k)
/-- a lambda as an object -/
structure LamAt (X : Cx) (q : Str) (o : Option LamPar) (body : Expr) (scope : Scope) (f c' : Addr) (H : Hp) (h : Heap) : Prop where
  ex : ∃ pm ctv dV bs, h.get? f = some (lamOb q (lamArgs o) body scope (cloFrom X.env.cells scope.names []) pm (.ref c') ctv dV) ∧ DfAt o dV bs h ∧ (∀ t, dV = .ref t → H t = none ∧ t ∉ frs X.stack)
  fn : H f = none
  fr : f ∉ frs X.stack
  code : H c' = some (LamX.CodeO c' q)
theorem lam_mk {T : List (Addr × Str)} {c P : Addr} {body : Expr} {pos : Pos} {Q : Value → Shared → Prop} (I : L2.Inv X pins σ H s) (TB : LamX.TabB X.base X.mg c P) (hcode : X.env.code = .ref c)
    (hm : (P, X.env.qual ++ "<lambda>") ∈ T) (hu : ∀ p ∈ T, p.1 = P → p.2 = X.env.qual ++ "<lambda>") (hT : LamX.Tabs T H) (L : LamQ X.N X.env.scope scope o)
    (h : ∀ (f c' : Addr) (H1 : Hp) (s' : Shared), L2.Inv X pins σ H1 s' → TabStep H H1 → LamX.Tabs T H1 → LamAt X (X.env.qual ++ "<lambda>") o body scope f c' H1 s'.heap → Q (.ref f) s') :
    wpAny (model X.prog X.w) X.A (eval (.Lambda (lamArgs o) body scope pos) X.env) Q X.xe s := by
  have hfree := L.has I.ok
  have step : ∀ (s0 : Shared) (dV : Value) (bs : List (Str × Value)), L2.Inv X pins σ H s0 → DfAt o dV bs s0.heap → (∀ t, dV = .ref t → H t = none ∧ t ∉ frs X.stack) → wpAny (model X.prog X.w) X.A (makeTail "<lambda>" (X.env.qual ++ "<lambda>") (lamArgs o) (.expr body) scope X.env dV .none none pos pos.line) Q X.xe s0 := by
    intro s0 dV bs I0 hdf hdt
    obtain ⟨ps, hP, ht, ha⟩ := hT _ hm
    have bP : s0.heap.BuiltinsAt X.mg P := TB.bm.keeps I0.bk
    have hP' : s0.heap.get? P = some { cls := .none, data := .fields ps } := I0.hok P _ hP
    have nofr : ∀ f, s0.heap.objs.size ≤ f → f ∉ frs X.stack := fun f hf z => by
      rcases List.mem_cons.mp (I0.stkSub _ z) with e | e
      · have h1 := I0.lt
        rw [← e] at h1
        exact Nat.lt_irrefl _ (Nat.lt_of_lt_of_le h1 hf)
      · exact I0.nofs hf e
    have dfk : ∀ {h2 : Heap}, (∀ b ob, b ≠ P → s0.heap.get? b = some ob → h2.get? b = some ob) → DfAt o dV bs h2 := fun {h2} k => by
      cases o with
      | none => exact hdf
      | some p =>
        obtain ⟨t, tk, e1, e2, e3⟩ := hdf
        exact ⟨t, tk, e1, k t _ (fun z => by rw [z, hP'] at e2; cases e2) e2, e3⟩
    cases hc : codeAmong pos ps.toList with
    | none =>
      refine tailM (mg := X.mg) (c := c) (P := P) (ps := ps) (closure_ok hfree) I0.ok.glob (I0.mod.glob.keeps I0.bk) hcode (TB.code.keeps I0.bk) hP' ht hc TB.gP bP fun c' ctv h' tk hx hge hlt hrec htb => ?_
      obtain ⟨c2, oc, vs, t, e2, hoc, hd, hv⟩ := hrec
      cases e2
      have hsz : s0.heap.objs.size ≤ h'.objs.size := Nat.le_trans hge (Nat.le_of_lt hlt)
      have nC : H c' = none := I0.hok.fresh hge
      have I1 := LamX.inv_table (t' := tk) (more := #[rawInt pos.line, rawInt pos.col, .ref c']) (h' := h'.push (lamOb (X.env.qual ++ "<lambda>") (lamArgs o) body scope (cloFrom X.env.cells scope.names []) ((X.mg "__name__").getD .none) (.ref c') ctv dV)) I0 hP
        (fun b o hb e => Heap.get?_push_of_some _ (hx b o hb e)) (Heap.get?_push_of_some _ htb) hge ⟨oc, vs, t, Heap.get?_push_of_some _ hoc, hd, hv⟩
      have hE : LamX.ExtN H (upd (upd H P (.tbl (ps ++ #[rawInt pos.line, rawInt pos.col, .ref c']))) c' (LamX.CodeO c' (X.env.qual ++ "<lambda>"))) := fun b o e n => by
        rw [upd_ne (ne_of_none e nC), upd_ne (fun z => n ps (Option.some.inj (e.symm.trans (by rw [z]; exact hP))))]
        exact e
      have eL : (ps ++ #[rawInt pos.line, rawInt pos.col, .ref c']).toList = ps.toList ++ [rawInt pos.line, rawInt pos.col, .ref c'] := by simp
      refine h h'.objs.size c' _ _ I1 ⟨fun b o e t => hE b o e fun ps' z => (by rw [z] at t; cases t), fun b qs e => ?_⟩ (fun p hp => ?_) ⟨⟨_, ctv, dV, bs, Heap.get?_push_size _ rfl, dfk fun b ob hb e => Heap.get?_push_of_some _ (hx b ob hb e), fun t ht2 => ⟨?_, (hdt t ht2).2⟩⟩, ?_, nofr _ hsz, upd_same⟩
      · by_cases hb : b = P
        · rw [hb]
          exact ⟨_, by rw [upd_ne (ne_of_none hP nC), upd_same]⟩
        · exact ⟨qs, by rw [upd_ne (ne_of_none e nC), upd_ne hb]; exact e⟩
      · by_cases hb : p.1 = P
        · rw [hu p hp hb, hb]
          refine ⟨_, by rw [upd_ne (ne_of_none hP nC), upd_same], by rw [eL]; exact PySem.TriplesOk_snoc _ _ _ _ ht, fun p' cv hcv => ?_⟩
          rw [eL] at hcv
          rcases LamX.among_app _ ht hcv with z | z
          · obtain ⟨c0, e1, e2⟩ := ha p' cv z
            exact ⟨c0, e1, hE _ _ e2 LamX.codeO_ne⟩
          · exact ⟨c', z, upd_same⟩
        · obtain ⟨ps', a1, a2, a3⟩ := hT p hp
          refine ⟨ps', by rw [upd_ne (ne_of_none a1 nC), upd_ne hb]; exact a1, a2, fun p' cv hcv => ?_⟩
          obtain ⟨c0, e1, e2⟩ := a3 p' cv hcv
          exact ⟨c0, e1, hE _ _ e2 LamX.codeO_ne⟩
      · subst ht2
        cases o with
        | none => cases hdf.1
        | some p =>
          obtain ⟨t2, tk2, e1, e2, e3⟩ := hdf
          cases e1
          have lt := Heap.lt_size e2
          rw [upd_ne (Nat.ne_of_lt (Nat.lt_of_lt_of_le lt hge)), upd_ne (fun z => by rw [z, hP'] at e2; cases e2)]
          exact (hdt _ rfl).1
      · have n1 : h'.objs.size ≠ c' := Nat.ne_of_gt hlt
        have n2 : h'.objs.size ≠ P := Nat.ne_of_gt (Nat.lt_of_lt_of_le (Heap.lt_size hP') hsz)
        rw [upd_ne n1, upd_ne n2]
        exact I0.hok.fresh hsz
    | some cv =>
      obtain ⟨c', e, hco⟩ := ha pos cv hc
      subst e
      refine tailH (mg := X.mg) (c := c) (P := P) (ps := ps) (closure_ok hfree) I0.ok.glob (I0.mod.glob.keeps I0.bk) hcode (TB.code.keeps I0.bk) hP' ht hc bP fun ctv h' tk hx hsz => ?_
      have I1 : L2.Inv X pins σ H { s0 with heap := h'.push (lamOb (X.env.qual ++ "<lambda>") (lamArgs o) body scope (cloFrom X.env.cells scope.names []) ((X.mg "__name__").getD .none) (.ref c') ctv dV), toks := tk } := I0.kept fun b o e => Heap.get?_push_of_some _ (hx b o e)
      exact h h'.objs.size c' H _ I1 ⟨Ext.refl, fun b ps e => ⟨ps, e⟩⟩ hT ⟨⟨_, ctv, dV, bs, Heap.get?_push_size _ rfl, dfk fun b ob _ e => Heap.get?_push_of_some _ (hx b ob e), hdt⟩, I0.hok.fresh hsz, nofr _ hsz, hco⟩
  rw [arm_eval_Lambda]
  cases o with
  | none =>
    show wpAny _ X.A (do let dv ← evalAll []; let kdv ← holding dv (evalAllOpt []); makeFunction "<lambda>" (X.env.qual ++ "<lambda>") (lamArgs none) (.expr body) scope X.env dv kdv [] pos pos.line) Q X.xe s
    refine wpAny_bind (wpAny_pure (wpAny_bind (wpAny_holding (wpAny_pure ?_))))
    rw [makeFunction_eq]
    simp only [List.zip_nil_right, List.filterMap_nil, List.isEmpty_nil, if_true, pure_bind]
    exact step s .none [] I ⟨rfl, rfl⟩ fun t z => by cases z
  | some p =>
    obtain ⟨y, j, pa, k, pd⟩ := p
    show wpAny _ X.A (do let dv ← evalAll [eval (.Constant (.int j) k pd) X.env]; let kdv ← holding dv (evalAllOpt []); makeFunction "<lambda>" (X.env.qual ++ "<lambda>") (lamArgs (some ⟨y, j, pa, k, pd⟩)) (.expr body) scope X.env dv kdv [] pos pos.line) Q X.xe s
    refine wpAny_bind (wpAny_evalAll_cons (thn ((show PE X (.Constant (.int j) k pd) (tC (.int j)) from pe_int).run pins s σ H (fun v H1 => v = .int j ∧ H1 = H) I ⟨rfl, rfl⟩) fun u s1 ⟨v, H1, I1, r1, e1, e2⟩ => wpAny_evalAll_nil ?_))
    subst e1
    subst e2
    obtain ⟨tk, rfl⟩ := (show ∃ tk, u = .int j tk from r1)
    refine wpAny_bind (wpAny_holding (wpAny_pure ?_))
    rw [makeFunction_eq]
    simp only [List.zip_nil_right, List.filterMap_nil, List.isEmpty_nil, List.isEmpty_cons, if_true, Bool.false_eq_true, if_false, pure_bind]
    refine wpAny_bind (wpAny_newTextTuple ?_)
    have hsz : s1.heap.objs.size ∉ frs X.stack := fun z => by
      rcases List.mem_cons.mp (I1.stkSub _ z) with e | e
      · have h1 := I1.lt
        rw [← e] at h1
        exact Nat.lt_irrefl _ h1
      · exact I1.nofs (Nat.le_refl _) e
    exact step _ (.ref s1.heap.objs.size) [(y, .int j tk)] (I1.kept fun b o e => Heap.get?_push_of_some _ e) ⟨s1.heap.objs.size, tk, rfl, Heap.get?_push_size _ rfl, rfl⟩ fun t z => by
      cases z
      exact ⟨I1.hok.fresh (Nat.le_refl _), hsz⟩
end
end Q

set_option Elab.async false
set_option linter.all false
set_option maxRecDepth 100000
set_option maxHeartbeats 4000000
/-! X5: a lambda is called by the def that got it. -/
namespace Q
open Snd
open PySem PySem.Spec PySem.Calls PyProof.Rows L2

section
variable {X : Cx} {pins : List (Addr × Obj)} {σ : L2.St} {H HZ : Hp} {s s1 : Shared} {scope : Scope} {o : Option LamPar}
theorem lam_go {A : Around} {outer : List Env} {E : XK} {f c' : Addr} {h₁ : Heap} {tk : Nat} {m : Str → Option Value} (I : L2.Inv X pins σ H s) (L : LamQ X.N X.env.scope scope o) (e0 : Env0 X.prog X.w X.K X.mg X.base A outer s1 HZ) (hd : A.handled = none)
    (un : Un (frs X.stack) [] H HZ s.heap s1.heap) (hns : h₁.Ns s1.heap.objs.size m) (kp : ∀ b o, s1.heap.get? b = some o → h₁.get? b = some o) :
    L2.Inv (LamX.lamCx X A outer s1 HZ E scope f c') [] σ HZ { s1 with heap := h₁, toks := tk } := by
  have hfree := L.has I.ok
  have cm : ∀ {y c}, (cloFrom X.env.cells scope.names []).lookup y = some c → X.env.cells.lookup y = some c := fun {y c} e => by
    rcases cloFrom_mem (PySem.mem_of_lookup e) with hm | ⟨h1, h2⟩
    · cases hm
    · obtain ⟨c1, hc⟩ := hfree _ h1 rfl
      have hc : X.env.cells.lookup y = some c1 := hc
      have e2 : c = c1 := by
        rw [h2, hc] <;> rfl
      rw [e2]
      exact hc
  have look : ∀ {y}, scope.names.lookup y = some .free → ∃ c, (cloFrom X.env.cells scope.names []).lookup y = some c := fun {y} hl => by
    have hy : (y, NameKind.free) ∈ scope.names := PySem.mem_of_lookup hl
    exact mem_lookup (cloFrom_has (cells := X.env.cells) (acc := []) hy)
  have cellK : ∀ {c : Addr} {v : Option Value}, H c = none → s.heap.IsCell c v → h₁.IsCell c v := fun {c v} n ⟨o, ho, hd⟩ => by
    obtain ⟨sl, q⟩ := un.any ho n (by simp)
    exact ⟨_, kp _ _ q, hd⟩
  have noA : ∀ b : Addr, b ∉ (LamX.lamCx X A outer s1 HZ E scope f c').ex := fun b z => absurd (show b ∈ ([] : List Addr) from z) (by simp)
  refine ⟨⟨e0.mod, L.kind, rfl, rfl, Nat.le_refl _, fun y z c e1 e2 => I.ok.inj y z c (cm e1) (cm e2), fun y hy => ?_, fun y c z _ => ?_, fun _ => hd, Around.frames_deeper e0.frames, .inr ⟨rfl, rfl⟩, fun b z => absurd z (noA b), e0.bs, e0.bsz, fun b _ _ => noA b,
      fun b z => absurd z (noA b), e0.funs, e0.frf⟩,
    rfl, e0.bare, Un.kept kp, ⟨_, hns, fun i y v e1 e2 e3 => ?_⟩, fun y c e => ?_, e0.hok.fresh (Nat.le_refl _), fun y c e => ?_, fun q hq => absurd (show q ∈ ([] : List (Addr × Obj)) ++ [] from hq) (by simp), e0.hok.kept kp, I.len⟩
  · have hy : scope.names.lookup y = some .cell ∨ scope.names.lookup y = some .free := hy
    rcases hy with hy | hy
    · exact absurd rfl (L.cell _ (PySem.mem_of_lookup hy))
    · exact look hy
  · have z : false = true := z
    cases z
  · have e3 : Vis scope y := e3
    rcases e3 with k | k | k
    · exact absurd k (L.loc i y e1)
    · exact absurd rfl (L.cell _ (PySem.mem_of_lookup k))
    · obtain ⟨m, hn, hl⟩ := I.loc
      have hvis : Vis X.env.scope y := (L.free _ (PySem.mem_of_lookup k) rfl).elim (fun k => .inr (.inl k)) (fun k => .inr (.inr k))
      obtain ⟨w', r, q⟩ := hl i y v e1 e2 hvis
      obtain ⟨c2, h2⟩ := look k
      refine ⟨w', r, .inr ⟨.inr k, c2, h2, ?_⟩⟩
      have c1 := cm h2
      rcases q with ⟨k', _⟩ | ⟨_, c3, e', z⟩
      · have k' : X.env.scope.names.lookup y = some .local := k'
        rcases L.free _ (PySem.mem_of_lookup k) rfl with k2 | k2 <;> rw [show X.env.scope.names.lookup y = _ from k2] at k' <;> cases k'
      · rw [c1] at e'
        cases e'
        exact cellK (I.freeC y _ c1) z
  · obtain ⟨w', z⟩ := I.cell y c (cm e)
    exact ⟨w', cellK (I.freeC y c (cm e)) z⟩
  · obtain ⟨v, o, ho, hd⟩ := I.cell y c (cm e)
    exact un.free c o ho (I.freeC y c (cm e)) (by simp)
/-- a(), a the lambda: Z is the def's context that got it, entered at s -/
theorem pe_actQ {Eg : XK} {Ng : List Str} {qg : Str} {sg : Scope} {g f c' : Addr} {cdg : Value} {body : Expr} {k i : Nat} {a q : Str} {pn : List (Addr × Obj)} {xe : Value → Shared → Prop} {W : WX} {p1 p2 : Pos}
    (I : L2.Inv X pins σ H s) (L : LamQ X.N X.env.scope scope o) (hq : q = X.env.qual ++ "<lambda>") (at_ : LamAt X q o body scope f c' H s.heap)
    (tk : Takes ((cxOf (L2.CX X.prog X.w) X.prog X.w X.K X.mg X.base Ng qg sg g cdg X.A X.stack s H Eg).tr pn xe) W) (hr : Room (k + 1) (X.A.deeper (envOfC qg sg s.heap.objs.size g cdg))) (hgd : X.A.guards = some [])
    (hN : Ng[i]? = some a) (hv : Vis sg a) (hd : (a == ("__debug__" : Str)) = false) (hcd : (a == ("__classdict__" : Str)) = false) :
    PE ((cxOf (L2.CX X.prog X.w) X.prog X.w X.K X.mg X.base Ng qg sg g cdg X.A X.stack s H Eg).tr pn xe) (.Call (.Name a p1) [] [] p2)
      (fun σZ HZ Q => σZ[i]? = some (some (.ref f)) ∧ HZ c' = some (LamX.CodeO c' q) ∧ ∃ tb : TE,
        (∀ (A : Around) (outer : List Env) (s : Shared) (H : Hp), Room k (A.deeper (LamX.lamEnv X scope s.heap.objs.size f c')) → A.guards = some [] → PE (LamX.lamCx X A outer s H (fun cls d H' => W cls d σZ H') scope f c') body tb) ∧ tb σ HZ Q) := by
  refine ⟨fun pinsZ sZ σZ HZ Q IZ h => ?_⟩
  obtain ⟨hs, hc, tb, hbody, ht⟩ := h
  obtain ⟨⟨pm, ctv, dV, bs, hf, hdf, hdt⟩, hfn, hfr, _⟩ := at_
  refine wpAny_Call_Name_kw (thn ((pe_var (pos := p1) (i := i) hN hv hd hcd).run pinsZ sZ σZ HZ (fun v H1 => v = .ref f ∧ H1 = HZ) IZ ⟨.ref f, hs, rfl, rfl⟩) fun u s1 ⟨v, H1, I1, r1, q1⟩ => ?_)
  obtain ⟨ev, eH⟩ := q1
  subst ev
  rw [eH] at I1
  obtain rfl : u = Value.ref f := r1
  have of1 : s1.heap.get? f = some (lamOb q (lamArgs o) body scope (cloFrom X.env.cells scope.names []) pm (.ref c') ctv dV) := I1.base.keep f _ hf hfn hfr (fun z => nomatch (show f ∈ ([] : List Addr) from z))
  have df1 : DfAt o dV bs s1.heap := by
    cases o with
    | none => exact hdf
    | some p =>
      obtain ⟨t, tk, e1, e2, e3⟩ := hdf
      obtain ⟨n1, n2⟩ := hdt t e1
      exact ⟨t, tk, e1, I1.base.keep t _ e2 n1 n2 (fun z => nomatch (show t ∈ ([] : List Addr) from z)), e3⟩
  refine PySem.W.callWith_F0 ⟨_, _, _, _, of1⟩ ?_
  have un : Un (frs X.stack) [] H HZ s.heap s1.heap := I1.base
  obtain ⟨⟨oc, vs, t, hoc, hdc, hvc⟩, _, _⟩ := I1.hok c' _ hc
  have rc : codeAny (model X.prog X.w) (X.A.deeper (envOfC qg sg s.heap.objs.size g cdg)) (.call (.ref f) ⟨[], []⟩) (L2.CR (L2.CX X.prog X.w) (envOfC qg sg s.heap.objs.size g cdg :: X.stack) X.prog X.w HZ s1 Q (fun cls d H' => W cls d σZ H')) s1 := by
    refine PySem.W.kla_callFunE hr.depth of1 rfl L.co L.gen rfl ⟨c', oc, vs, t, rfl, hoc, hdc, hvc⟩ ?_
    refine lam_binds df1 _ _ _ _ ?_
    have hloc : ∀ y ∈ bs, scope.names.lookup y.1 = some .local := fun y hy => by
      cases o with
      | none =>
        rw [hdf.2] at hy
        exact nomatch hy
      | some p =>
        obtain ⟨t, tk, e1, e2, e3⟩ := hdf
        rw [e3] at hy
        rw [List.mem_singleton.mp hy]
        exact L.par p rfl
    refine wpAny_newFunctionEnv L.cell hloc (fun h₁ hns hsb => ⟨I1.nolimit.fresh _ hsb, ?_⟩) L.kind
    subst hq
    show codeAny _ _ (.expr body (LamX.lamEnv X scope s1.heap.objs.size f c')) _ _
    have kp : ∀ b o, s1.heap.get? b = some o → h₁.get? b = some o := fun b o e => hsb.extBut b o (Nat.ne_of_lt (Heap.lt_size e)) (Heap.get?_push_of_some _ e)
    have J : L2.Inv (LamX.lamCx X (X.A.deeper (envOfC qg sg s.heap.objs.size g cdg)) (envOfC qg sg s.heap.objs.size g cdg :: X.stack) s1 HZ (fun cls d H' => W cls d σZ H') scope f c') [] σ HZ { s1 with heap := h₁, toks := s1.toks + bs.length } :=
      lam_go I L I1.env0 hr.hd un hns kp
    have gd2 : (X.A.deeper (envOfC qg sg s.heap.objs.size g cdg)).guards = some [] := by
      rw [← hgd]
      rfl
    refine PySem.W.kla_codeExpr (wpAny_mono ((hbody _ _ s1 HZ (hr.deeper _) gd2).run [] _ _ HZ Q J ht) (fun v s' hq => ?_) fun e s' hq => hq)
    obtain ⟨w', H', J', rv, q⟩ := hq
    exact ⟨w', H', J'.os, J'.bare, J'.base, J'.hok, rv, q⟩
  refine wpAny_call (codeAny_mono rc fun r s' hq => ?_)
  cases r with
  | error e => exact tk e s' (XE.of_call I1 (fun _ _ _ z => z) hq)
  | ok fl =>
    cases fl with
    | ret u => exact I1.after hq
    | next => exact False.elim hq
    | brk => exact False.elim hq
    | cont => exact False.elim hq
end
end Q

set_option Elab.async false
set_option linter.all false
set_option maxRecDepth 100000
set_option maxHeartbeats 4000000
/-! X6: defs that get a lambda, told by Q. -/
namespace Q
open Snd
open PySem PySem.Spec PyProof.Rows L2

def FL0 : FR := ⟨[], fun _ => none, []⟩
def bdCall : Nat → List D → CR := fun _ _ => .bad
/-- what a lambda's body sees -/
def lamB (k : Nat → List D → CR) : Below := ⟨k, fun _ _ => .bad, .bad⟩
section
variable {P : RP} {F : FR} {W : WX} {g : G} {b : Below} {σ : L2.St} {H H1 H2 : Hp} {own own1 own2 : List Addr} {sl sl1 sl2 : Sl}
theorem slR_view {sl : Sl} {σ : L2.St} {own : List Addr} (h : SlR P H sl σ own) : SlR P H (viewS sl) σ [] := by
  induction h with
  | nil => exact .nil
  | @no y x sl σ own hy r ih =>
    refine .no ?_ ih
    cases y with
    | none => rfl
    | some d =>
      simp only [viewD]
      split
      · exact hy
      · rfl
  | @yes d v as sl σ own h r ih =>
    show SlR P H (viewD (some d) :: viewS sl) _ _
    simp only [viewD]
    split
    · rename_i f
      exact .yes (h.fz f) ih
    · exact .no rfl ih
theorem view_xc {i c : Nat} {fs : List D} {sl : Sl} (e : getX i (viewS sl) = some (.xc c fs)) : False := by
  unfold getX viewS at e
  rw [List.getElem?_map] at e
  cases m : sl[i]? with
  | none => rw [m] at e; cases e
  | some y =>
    rw [m] at e
    cases y with
    | none => cases e
    | some d =>
      simp only [Option.map_some, Option.bind_some, viewD] at e
      split at e
      · rename_i f
        cases e
        cases f
      · cases e
theorem sim_view (r : SlR P H sl σ own) (tb : LamX.Tabs P.T H) : Sim P FL0 (viewS sl) σ H [] := ⟨slR_view r, List.nodup_nil, tb, fun p hp => (nomatch hp), .none, fun i c fs e => (view_xc e).elim⟩
theorem TabStep.of {own1 : List Addr} (s : Step [] H H1 own1) : TabStep H H1 := ⟨fun z o h t => s.keep z o h (fun y => nomatch y) t, s.tbl⟩
/-- what a def that got the lambda at f may ask of it -/
structure ActR (P : RP) (g : G) (X : Cx) (s : Shared) (H : Hp) (f : Addr) (ac : CR) (k : Nat) : Prop where
  run : ∀ {Eg : XK} {Ng : List Str} {qg : Str} {sg : Scope} {fad : Addr} {cdg : Value} {i : Nat} {a : Str} {pn : List (Addr × Obj)} {xe : Value → Shared → Prop} {W : WX} {p1 p2 : Pos} {F : FR} {b : Below},
    Takes ((cxOf (L2.CX X.prog X.w) X.prog X.w X.K X.mg X.base Ng qg sg fad cdg X.A X.stack s H Eg).tr pn xe) W → Room (k + 1) (X.A.deeper (envOfC qg sg s.heap.objs.size fad cdg)) → Ng[i]? = some a → Vis sg a → (a == ("__debug__" : Str)) = false → (a == ("__classdict__" : Str)) = false →
      (i, V.ref f) ∈ F.io → F.H0 = H → b.act = ac → PE ((cxOf (L2.CX X.prog X.w) X.prog X.w X.K X.mg X.base Ng qg sg fad cdg X.A X.stack s H Eg).tr pn xe) (.Call (.Name a p1) [] [] p2) (tE P F W g b .act)
theorem act_rule {X : Cx} {pins : List (Addr × Obj)} {s : Shared} {scope : Scope} {o : Option LamPar} {body : Expr} {f c' : Addr} {le : E} {k : Nat} {calls : Nat → List D → CR} (I : L2.Inv X pins σ H s) (L : LamQ X.N X.env.scope scope o) (at_ : LamAt X (X.env.qual ++ "<lambda>") o body scope f c' H s.heap) (hgd : X.A.guards = some [])
    (r : SlR P H sl σ own) (hpk : le.pk = false)
    (hLam : ∀ (A : Around) (outer : List Env) (s : Shared) (H : Hp) (E : XK), Room k (A.deeper (LamX.lamEnv X scope s.heap.objs.size f c')) → A.guards = some [] → PE (LamX.lamCx X A outer s H E scope f c') body (tE P FL0 (fun cls d _ H' => E cls d H') g (lamB calls) le)) :
    ActR P g X s H f (actOf (ev g (lamB calls) le (viewS sl))) k := by
  refine ⟨?_⟩
  intro Eg Ng qg sg fad cdg i a pn xe W p1 p2 F b tk hr hN hv hd hcd hio hH0 hb
  refine (pe_actQ I L rfl at_ tk hr hgd hN hv hd hcd).weak fun σZ HZ Q ⟨slc, ownc, sim, h⟩ => ?_
  have bas := sim.bas
  rw [hH0] at bas
  have eC : HZ c' = some (LamX.CodeO c' (X.env.qual ++ "<lambda>")) := bas.keep c' _ at_.code rfl
  refine ⟨sim.io _ hio, eC, tE P FL0 (fun cls d _ H' => W cls d σZ H') g (lamB calls) le, fun A outer s H hr hg => hLam A outer s H _ hr hg, viewS sl, [], ?_, ?_⟩
  · have e : Ext H HZ := fun z o h t => bas.keep z o h t
    exact ⟨(slR_view r).frame e.fix (fun _ z => (nomatch z)), List.nodup_nil, sim.tabs, fun p hp => (nomatch hp), .none, fun i c fs e => (view_xc e).elim⟩
  · have h : Res P F W σZ HZ ownc (afterCall none slc b.act) (fun p => ∀ v H' own' as, PostE P F g b .act σZ HZ ownc slc p.1 v p.2 H' own' as → Q v H') := h
    rw [hb] at h
    cases m : ev g (lamB calls) le (viewS sl) with
    | bad => rw [m] at h; exact h
    | ok p =>
      rw [m] at h
      intro v H' own' as p1
      have tS := TabStep.of p1.step
      have s2 := sim.tab tS p1.sim.tabs
      obtain ⟨n1, n2⟩ := p1.fresh hpk
      have nas : as.Nodup := (List.nodup_append.mp n1).1
      have hn : ∀ z ∈ as, HZ z = none := fun z hz => (n2 z hz).elim (fun y => nomatch y) id
      refine h v H' ownc as ⟨s2, p1.rep, tS.step, fun _ => ⟨List.nodup_append.mpr ⟨nas, s2.nd, fun x hx y hy e => ?_⟩, fun z hz => .inr (hn z hz)⟩, fun z => (nomatch z), fun j z => (nomatch z), fun z => (nomatch z)⟩
      subst e
      obtain ⟨o, ho, _⟩ := sim.r.own x hy
      rw [hn x hx] at ho
      cases ho
    | exc c fs s3 =>
      rw [m] at h
      intro H' own' dd p1
      have tS := TabStep.of p1.step
      exact h H' ownc dd ⟨sim.tab tS p1.sim.tabs, tS.step, p1.x⟩
/-- a def that gets a lambda keeps its promise -/
def FnL (P : RP) (g : G) (prog : Program) (w : World) (K : PySem.W.Frag) (mg : Str → Option Value) (base : Heap) (kk : Nat) (fad : Addr) (kl : Nat) (spec : CR → CR) : Prop :=
  ∀ (X : Cx) (pins : List (Addr × Obj)) (σ : L2.St) (H : Hp) (s : Shared) (f : Addr) (ac : CR) (Q : VK) (E : XK), X.prog = prog → X.w = w → X.K = K → X.mg = mg → X.base = base → L2.Inv X pins σ H s → Room (kk + 1) X.A → X.A.guards = some [] → LamX.Tabs P.T H → ActR P g X s H f ac kl →
    CRes P none [V.ref f] [] H (spec ac) Q E → codeAny (model X.prog X.w) X.A (.call (.ref fad) ⟨[.ref f], []⟩) (L2.CR (L2.CX X.prog X.w) X.stack X.prog X.w H s Q E) s
/-- f(lambda: e) -/
theorem s_callL {X : Cx} {x : Str} {fi kk kl : Nat} {fad c Pt : Addr} {scope : Scope} {o : Option LamPar} {body : Expr} {le : E} {calls : Nat → List D → CR} {spec : CR → CR} {p lpos pos : Pos} (Fn : FnL P g X.prog X.w X.K X.mg X.base kk fad kl spec) (hsp : ∀ a, b.callL fi a = spec (a calls)) (hr : Room (kk + 1) X.A) (hgd : X.A.guards = some []) (tk : Takes X W)
    (hg : Gl X x) (hm : X.mg x = some (.ref fad)) (hk : PySem.W.keepIn X.K (.ref fad) = true) (hdb : (x == ("__debug__" : Str)) = false) (TB : LamX.TabB X.base X.mg c Pt) (hcode : X.env.code = .ref c)
    (hmT : (Pt, X.env.qual ++ "<lambda>") ∈ P.T) (hu : ∀ p ∈ P.T, p.1 = Pt → p.2 = X.env.qual ++ "<lambda>") (L : LamQ X.N X.env.scope scope o) (hpk : le.pk = false)
    (hLam : ∀ (f c' : Addr) (A : Around) (outer : List Env) (s : Shared) (H : Hp) (E : XK), Room kl (A.deeper (LamX.lamEnv X scope s.heap.objs.size f c')) → A.guards = some [] → PE (LamX.lamCx X A outer s H E scope f c') body (tE P FL0 (fun cls d _ H' => E cls d H') g (lamB calls) le)) :
    PE X (.Call (.Name x p) [.Lambda (lamArgs o) body scope lpos] [] pos) (tE P F W g b (.callL fi le)) := by
  refine ⟨fun pins s σ H Q I ⟨sl, own, sim, h⟩ => ?_⟩
  have h : Res P F W σ H own (afterCall none sl (b.callL fi fun k => actOf (ev g ⟨k, fun _ _ => .bad, .bad⟩ le (viewS sl)))) (fun p => ∀ v H' own' as, PostE P F g b (.callL fi le) σ H own sl p.1 v p.2 H' own' as → Q v H') := h
  rw [hsp] at h
  refine wpAny_Call_Name_kw (ld_glob I hg hm ?_ hdb)
  refine PySem.W.callWith_K (h₀ := X.base) I.ok.mod.kin hk ?_ (by rfl) (by rfl)
  show wpAny _ _ (spliced ((false, eval (.Lambda (lamArgs o) body scope lpos) X.env) :: backTo pos (starEach [] X.env))) _ _ s
  refine Calls.spliced_cons (lam_mk I TB hcode hmT hu sim.tabs L fun f c' H1 s' I1 tS T1 at_ => ?_)
  refine Calls.spliced_nil ⟨I1.kIn, ?_⟩
  have sim1 := sim.tab tS T1
  have ar := act_rule (P := P) (g := g) (le := le) (k := kl) (calls := calls) I1 L at_ hgd sim1.r hpk fun A outer s H E hr hg => hLam f c' A outer s H E hr hg
  have rc := Fn X pins σ H1 s' f (actOf (ev g (lamB calls) le (viewS sl))) Q (fun c d H' => W c d σ H') rfl rfl rfl rfl rfl I1 hr hgd T1 ar ?_
  · refine wpAny_call (codeAny_mono rc fun r s2 hq => ?_)
    cases r with
    | error e => exact tk e s2 (XE.of_call I1 (fun _ _ _ z => z) hq)
    | ok fl =>
      cases fl with
      | ret u => exact I1.after hq
      | next => exact False.elim hq
      | brk => exact False.elim hq
      | cont => exact False.elim hq
  · have h : Res P F W σ H own (afterCall none sl (spec (actOf (ev g (lamB calls) le (viewS sl))))) (fun p => ∀ v H' own' as, PostE P F g b (.callL fi le) σ H own sl p.1 v p.2 H' own' as → Q v H') := h
    cases m : spec (actOf (ev g (lamB calls) le (viewS sl))) with
    | bad => rw [m] at h; exact h
    | ok d iod =>
      rw [m] at h
      intro v H' asR asI cp
      have t2 := TabStep.of cp.step
      have s2 := sim1.tab t2 cp.tabs
      have hn : ∀ z ∈ asR, H1 z = none := fun z hz => (cp.step.new z (List.mem_append_left _ hz)).elim (fun y => nomatch y) id
      refine h v H' own asR ⟨s2, cp.rep, tS.step.trans t2.step, fun _ => ⟨List.nodup_append.mpr ⟨(List.nodup_append.mp cp.nd).1, s2.nd, fun x hx y hy e => ?_⟩, fun z hz => .inr ?_⟩, fun z => (nomatch z), fun j z => (nomatch z), fun z => (nomatch z)⟩
      · subst e
        obtain ⟨o, ho, _⟩ := sim1.r.own x hy
        rw [hn x hx] at ho
        cases ho
      · have z1 := hn z hz
        rcases tS.step (own := []) |>.back z1 with y | y
        · exact nomatch y
        · exact y
    | exc cc fs iod =>
      rw [m] at h
      intro H' dd asI cp
      have t2 := TabStep.of cp.step
      exact h H' own dd ⟨sim1.tab t2 cp.tabs, tS.step.trans t2.step, cp.x⟩
end
end Q

set_option Elab.async false
set_option linter.all false
set_option maxRecDepth 100000
/-! W18: does a term of Q tell of a text? -/
namespace Q
open Snd
open PySem PySem.Spec PyProof.Rows L2

/-- where a text stands: the slots' names, the scope, the names whose cells are ours, the shared slots, warm or in an except suite, the defs' names, the module's constants -/
structure CK where
  N : List Str
  sc : Scope
  fnB : Str → Bool
  ioS : List Nat
  hot : Bool
  stm : Bool
  fnm : Nat → Str
  gls : List (Str × Int)
  act : Option Str
  gen : Bool
  lam : Bool
  top : Bool
  exs : Option (Nat × List Str)
  xcl : Nat → Option (Str × Option Str)
  ncl : Nat
def CK.blk (C : CK) (scope : Scope) : CK := { C with sc := relS scope C.sc, fnB := fun x => scope.names.lookup x == some .cell, stm := false, act := none, lam := false, top := false, exs := none }
/-- within a generator expression -/
def CK.gx (C : CK) (scope : Scope) : CK := { C with sc := scope, fnB := fun x => scope.names.lookup x == some .cell, stm := false, act := none, gen := false, lam := false, top := false, exs := none }
/-- within a lambda -/
def CK.lm (C : CK) (scope : Scope) : CK := { C with sc := scope, fnB := fun _ => false, ioS := [], hot := true, stm := true, act := none, gen := false, lam := false, top := false, exs := none }
/-- within an except suite -/
def CK.sui (C : CK) (i : Nat) (l : List Str) : CK := { C with ioS := i :: C.ioS, hot := false, stm := false, act := none, gen := false, lam := false, top := false, exs := some (i, l) }
def parOf : Arguments → Option (Option LamPar)
  | ⟨[], [], none, [], [], none, []⟩ => some none
  | ⟨[], [⟨y, none, pa⟩], none, [], [], none, [.Constant (.int j) k pd]⟩ => some (some ⟨y, j, pa, k, pd⟩)
  | _ => none
theorem parOf_eq {a : Arguments} {o : Option LamPar} (h : parOf a = some o) : a = lamArgs o := by
  unfold parOf at h
  split at h <;> first | (cases h; rfl) | cases h
def lamC (N : List Str) (sc scope : Scope) (o : Option LamPar) : Bool :=
  decide (scope.kind = .function) && !scope.isCoroutine && !scope.isGenerator && scope.names.all (fun y => !decide (y.2 = .cell)) && N.all (fun y => !decide (scope.names.lookup y = some .local)) &&
  (match o with | some p => decide (scope.names.lookup p.y = some .local) | none => true) && scope.names.all (fun y => !decide (y.2 = .free) || decide (sc.names.lookup y.1 = some .cell) || decide (sc.names.lookup y.1 = some .free))
theorem lamQ_by {N : List Str} {sc scope : Scope} {o : Option LamPar} (h : lamC N sc scope o = true) : LamQ N sc scope o := by
  unfold lamC at h
  simp only [Bool.and_eq_true, decide_eq_true_eq, Bool.not_eq_true', List.all_eq_true, decide_eq_false_iff_not, Bool.or_eq_true] at h
  obtain ⟨⟨⟨⟨⟨⟨h1, h2⟩, h3⟩, h4⟩, h5⟩, h6⟩, h7⟩ := h
  refine ⟨h1, h2, h3, h4, fun i y e => h5 y (List.mem_of_getElem? e), fun p e => ?_, fun y hy e => ?_⟩
  · subst e
    exact of_decide_eq_true h6
  · rcases h7 y hy with (z | z) | z
    · exact absurd e z
    · exact .inl z
    · exact .inr z
def gxC (N : List Str) (sc scope : Scope) (own : List Nat) : Bool :=
  decide (scope.kind = .function) && !scope.isCoroutine && scope.names.all (fun y => !decide (y.2 = .cell)) && decide (scope.names.lookup (".0" : Str) = some NameKind.local) &&
  (List.range N.length).all (fun i => match N[i]? with | some y => !decide (scope.names.lookup y = some .local) || own.contains i | none => true) && scope.names.all (fun y => !decide (y.2 = .free) || decide (sc.names.lookup y.1 = some .cell) || decide (sc.names.lookup y.1 = some .free))
theorem gxS_by {N : List Str} {sc scope : Scope} {own : List Nat} (h : gxC N sc scope own = true) : GxS N sc scope own := by
  unfold gxC at h
  simp only [Bool.and_eq_true, decide_eq_true_eq, Bool.not_eq_true', List.all_eq_true, decide_eq_false_iff_not, Bool.or_eq_true] at h
  obtain ⟨⟨⟨⟨⟨h1, h2⟩, h3⟩, h4⟩, h5⟩, h6⟩ := h
  refine ⟨h1, h2, h3, h4, fun i y e k => ?_, fun y hy e => ?_⟩
  · have hi : i < N.length := (List.getElem?_eq_some_iff.mp e).1
    have := h5 i (List.mem_range.mpr hi)
    rw [e] at this
    simpa [k] using this
  · rcases h6 y hy with (z | z) | z
    · exact absurd e z
    · exact .inl z
    · exact .inr z
def CK.knd (C : CK) (x : Str) : Option NameKind := C.sc.names.lookup x
def CK.glob (C : CK) (x : Str) : Bool := decide (C.knd x = some .globalImplicit) && !(x == ("__debug__" : Str))
def CK.nm (C : CK) (i : Nat) (x : Str) : Bool := decide (C.N[i]? = some x) && (decide (C.knd x = some .local) || decide (C.knd x = some .cell) || decide (C.knd x = some .free)) && !(x == ("__debug__" : Str)) && !(x == ("__classdict__" : Str))
def CK.st (C : CK) (i : Nat) (x : Str) : Bool := decide (C.N[i]? = some x) && (decide (C.knd x = some .local) || (decide (C.knd x = some .cell) && C.fnB x)) && !C.ioS.contains i
def opOk : BOp → Operator → Bool
  | .add, .Add => true
  | .sub, .Sub => true
  | .mul, .Mult => true
  | .fdiv, .FloorDiv => true
  | .mod, .Mod => true
  | .pow, .Pow => true
  | _, _ => false
def copOk : COp → CmpOp → Bool
  | .eq, .Eq => true
  | .ne, .NotEq => true
  | .lt, .Lt => true
  | .le, .LtE => true
  | .gt, .Gt => true
  | .ge, .GtE => true
  | .isn, .Is => true
  | .notn, .IsNot => true
  | .mem, .In => true
  | .nmem, .NotIn => true
  | _, _ => false
theorem opOk_eq {o : BOp} {op : Operator} (h : opOk o op = true) : op = opA o := by cases o <;> cases op <;> first | rfl | cases h
theorem copOk_eq {o : COp} {op : CmpOp} (h : copOk o op = true) : op = cmpA o := by cases o <;> cases op <;> first | rfl | cases h
def pairOk (a c : E) : Bool := (!a.pk && !c.pk) || (a.pure && c.pure)
def keyC : Key → Const → Bool
  | .inl i, .int j => i == j
  | .inr x, .str y => decide (x = y)
  | _, _ => false
def chkK : List Key → List (Option Expr) → Bool
  | [], [] => true
  | k :: ks, some (.Constant c _ _) :: es => keyC k c && chkK ks es
  | _, _ => false
def ownS (C : CK) (own : List Nat) : List (Str × Nat) := own.map fun v => ((C.N[v]?).getD "", v)
/-- a text whose test is the truth of its value -/
def plainT : Expr → Bool
  | .UnaryOp .Not _ _ => false
  | .BoolOp .. => false
  | .IfExp .. => false
  | .Compare .. => false
  | _ => true
/-- no choice where it is tested -/
def E.tst : E → Bool
  | .ifx _ _ _ => false
  | .not x => E.tst x
  | .and x y => E.tst x && E.tst y
  | .or x y => E.tst x && E.tst y
  | .likes _ _ => false
  | _ => true
def plainI : Expr → Bool
  | .Set .. => false
  | _ => true
def plainG : Expr → Bool
  | .Set .. => false
  | .List .. => false
  | _ => true
mutual
def chkT (C : CK) : Tg → Expr → Bool
  | .v i, .Name x _ => C.st i x
  | .t l, .Tuple es _ _ => C.hot && es.all plainA && decide (es.length = l.length) && chkTs C l es
  | _, _ => false
def chkTs (C : CK) : List Tg → List Expr → Bool
  | [], [] => true
  | t :: ts, e :: es => chkT C t e && plainA e && chkTs C ts es
  | _, _ => false
end
mutual
def chkE (g : G) (C : CK) : E → Expr → Bool
  | .c d, .Constant k _ _ => constD d k
  | .var i, .Name x _ => C.nm i x
  | .move i, .Name x _ => C.nm i x
  | .peek i, .Name x _ => C.nm i x
  | .glob d y, .Name x _ => C.glob x && decide (x = y) && (match d with | .int i => C.gls.lookup x == some i | _ => false)
  | .bidx a k, .Subscript A B _ => chkE g C a A && chkE g C k B && plainA B && a.pk && a.pure && k.pure
  | .idx a k, .Subscript A B _ => chkE g C a A && chkE g C k B && plainA B && pairOk a k
  | .bin o a c, .BinOp A op B _ => opOk o op && chkE g C a A && chkE g C c B && pairOk a c
  | .neg a, .UnaryOp op A _ => (match op with | .USub => true | _ => false) && chkE g C a A
  | .cmp o a c, .Compare A ops Bs _ => (match ops, Bs with | [op], [B] => copOk o op && chkE g C a A && chkE g C c B && pairOk a c && !behindInMarks op B | _, _ => false)
  | .chn o1 o2 a c e, .Compare A ops Bs _ => (match ops, Bs with | [op1, op2], [B, B2] => copOk o1 op1 && copOk o2 op2 && chkE g C a A && chkE g C c B && chkE g C e B2 && !a.pk && !c.pk && !e.pk && !lastMarks [op1, op2] [B, B2] | _, _ => false)
  | .and a c, .BoolOp op l pos => (match op, l with
    | .And, A :: B :: [] => chkE g C a A && chkE g C c B && !a.pk && !c.pk
    | .And, A :: B :: r :: rest => chkE g C a A && chkE g C c (.BoolOp .And (B :: r :: rest) pos) && !a.pk && !c.pk
    | _, _ => false)
  | .or a c, .BoolOp op l pos => (match op, l with
    | .Or, A :: B :: [] => chkE g C a A && chkE g C c B && !a.pk && !c.pk
    | .Or, A :: B :: r :: rest => chkE g C a A && chkE g C c (.BoolOp .Or (B :: r :: rest) pos) && !a.pk && !c.pk
    | _, _ => false)
  | .not a, .UnaryOp op A _ => (match op with | .Not => true | _ => false) && chkE g C a A
  | .ifx t a c, .IfExp T A B _ => chkE g C t T && chkE g C a A && chkE g C c B && !a.pk && !c.pk && t.tst
  | .tup es, .Tuple As _ _ => chkA g C es As && es.all (fun e => !e.pk)
  | .lst es, .List As _ => chkA g C es As && es.all (fun e => !e.pk)
  | .dic ks es, .Dict Ks Vs _ => chkK ks Ks && chkA g C es Vs && es.all (fun e => !e.pk) && decide (ks.length = es.length) && decide ks.Nodup && decide (ks.length ≤ 15) && decide (ks ≠ [])
  | .sli a lo hi, .Subscript A S _ => (match S with | .Slice l h none _ => chkE g C a A && !a.pk && chkO g C lo l && chkO g C hi h | _ => false)
  | .rev a, .Subscript A S _ => (match S with | .Slice none none (some (.UnaryOp .USub (.Constant (.int 1) _ _) _)) _ => chkE g C a A | _ => false)
  | .frz a, A => !a.pk && plainT A && chkE g C a A
  | .call f es, .Call fn As kws _ => (match fn, kws, g.fns f with
    | .Name x _, [], some Fd => C.hot && C.glob x && decide (x = C.fnm f) && chkA g C es As && ioOk Fd.io es
    | _, _, _ => false)
  | .blt o es, .Call fn As kws _ => (match fn, kws, es, As with
    | .Name x _, [], [a], A :: rest => C.glob x && decide (x = bltName o) && chkE g C a A && plainA A && (match o, rest with
      | .isin t, [.Name y _] => C.glob y && decide (y = Str.ofString (tyN t))
      | .isin _, _ => false
      | _, [] => true
      | _, _ => false)
    | _, _, _, _ => false)
  | .likes a c, .Compare A ops Bs _ => (match A, ops, Bs with
    | .Call (.Name x _) [A1] [] _, [.Eq], [.Call (.Name y _) [B1] [] _] => C.glob x && decide (x = ("repr" : Str)) && decide (y = ("repr" : Str)) && chkE g C a A1 && chkE g C c B1 && plainA A1 && plainA B1 && !a.pk && !c.pk
    | _, _, _ => false)
  | .comp own t src cond elt, .ListComp E' gs scope _ => (match gs with
    | [⟨tg, iter, ifs, 0⟩] => C.hot && chkS g C src tg iter && plainI iter && blkC C.N C.sc scope (ownS C own) && chkT (C.blk scope) t tg && chkC g (C.blk scope) cond ifs && chkE g (C.blk scope) elt E' && !elt.pk && t.slots.all own.contains && own.all (fun v => !C.ioS.contains v)
    | _ => false)
  | .allg u own t src elt, .Call fn As kws _ => (match fn, kws, As with
    | .Name x _, [], [.GeneratorExp E' gs scope _] => (match gs with
      | [⟨tg, iter, [], 0⟩] => C.hot && C.gen && C.glob x && decide (x = agName u) && chkS g C src tg iter && plainG iter && gxC C.N C.sc scope own && chkT (C.gx scope) t tg && chkE g (C.gx scope) elt E' && t.slots.all own.contains && own.all (fun v => !C.ioS.contains v)
      | _ => false)
    | _, _, _ => false)
  | .fld i f, .Attribute A x _ => (match A with
    | .Name y _ => C.nm i y && decide (x = f) && (match C.exs with | some (j, l) => decide (j = i) && l.contains f | none => false)
    | _ => false)
  | .act, .Call fn As kws _ => (match fn, As, kws with
    | .Name x _, [], [] => decide (C.act = some x)
    | _, _, _ => false)
  | .callL fi le, .Call fn As kws _ => (match fn, kws, As, g.fns fi with
    | .Name x _, [], [.Lambda params body scope _], some _ => (match parOf params with
      | some o => C.hot && C.lam && C.glob x && decide (x = C.fnm fi) && lamC C.N C.sc scope o && !le.pk && chkE g (C.lm scope) le body
      | none => false)
    | _, _, _, _ => false)
  | .never, _ => true
  | _, _ => false
def chkA (g : G) (C : CK) : List E → List Expr → Bool
  | [], [] => true
  | e :: es, A :: As => plainA A && chkE g C e A && (!e.pk || isPeek e) && chkA g C es As
  | _, _ => false
def chkO (g : G) (C : CK) : Option E → Option Expr → Bool
  | none, none => true
  | some e, some A => chkE g C e A
  | _, _ => false
def chkC (g : G) (C : CK) : Option E → List Expr → Bool
  | none, [] => true
  | some e, [A] => chkE g C e A && e.tst
  | _, _ => false
def chkS (g : G) (C : CK) : Src → Expr → Expr → Bool
  | .e a, _, A => chkE g C a A
  | .rng1 a, _, .Call fn As kws _ => (match fn, kws, As with
    | .Name x _, [], [A] => C.glob x && decide (x = ("range" : Str)) && plainA A && chkE g C a A
    | _, _, _ => false)
  | .rng2 a c, _, .Call fn As kws _ => (match fn, kws, As with
    | .Name x _, [], [A, B] => C.glob x && decide (x = ("range" : Str)) && plainA A && plainA B && chkE g C a A && chkE g C c B
    | _, _, _ => false)
  | .enum a, .Tuple _ _ _, .Call fn As kws _ => (match fn, kws, As with
    | .Name x _, [], [A] => C.glob x && decide (x = ("enumerate" : Str)) && plainA A && chkE g C a A
    | _, _, _ => false)
  | _, _, _ => false
end
end Q

set_option Elab.async false
set_option linter.all false
set_option maxRecDepth 100000
set_option maxHeartbeats 4000000
/-! W19: what tells of a text is sound. -/
namespace Q
open Snd
open PySem PySem.Spec PyProof.Rows L2

def bltNames : List Str := ["len", "isinstance", "tuple", "list", "int", "bool", "str", "repr", "range", "enumerate", "zip", "all", "any"]
structure CxH (P : RP) (F : FR) (W : WX) (g : G) (b : Below) (kk : Nat) (C : CK) (X : Cx) : Prop where
  K : X.K = P.K
  N : X.N = C.N
  nd : X.N.Nodup
  sc : X.env.scope = C.sc
  fn : ∀ x, C.fnB x = true → X.fn x = true
  io : ∀ p ∈ F.io, p.1 ∈ C.ioS
  calm : C.hot = true → X.calm = true
  gd : X.A.guards = some []
  un : X.A.units + 70 < cLine
  own : C.stm = true → PassesOwn (model X.prog X.w) X.A X.env X.xe
  tk : Takes X W
  blt : ∀ x ∈ bltNames, X.mg x = none
  gls : ∀ x i, C.gls.lookup x = some i → ∃ t, X.mg x = some (.int i t)
  room : C.hot = true → Room kk X.A
  fns : ∀ f Fd, g.fns f = some Fd → ∃ fad, X.mg (C.fnm f) = some (.ref fad) ∧ PySem.W.keepIn X.K (.ref fad) = true ∧ FnG P X.prog X.w X.K X.mg X.base kk fad Fd.io (b.call f)
  gen : C.gen = true → Room (kk + 1) X.A ∧ ∃ c Pt, LamX.TabB X.base X.mg c Pt ∧ X.env.code = .ref c ∧ (Pt, X.env.qual ++ "<genexpr>") ∈ P.T ∧ ∀ p ∈ P.T, p.1 = Pt → p.2 = X.env.qual ++ "<genexpr>"
  cfs : P.cfs = g.cfs
  xcl : ∀ c nm f, C.xcl c = some (nm, f) → X.mg nm = some (.ref (P.cad c)) ∧ ∀ f', f = some f' → ExcOk X.prog X.K X.mg (P.cad c) f'
  sub : ∀ c k r, g.sub c k = some r → PySem.W.exmOne X.K (.ref (P.cad c)) (.ref (P.cad k)) = some r ∧ c < C.ncl
  xf : ∀ c f, f ∈ g.cfs c → XfC X.K (P.cad c) ∧ PySem.W.findIn X.K (.ref (P.cad c)) f = some none
  fld : ∀ i l, C.exs = some (i, l) → ∀ f ∈ l, ∀ x p pos, C.nm i x = true → PE X (.Attribute (.Name x p) f pos) (tE P F W g b (.fld i f))
  act : ∀ a, C.act = some a → ∀ (pn : List (Addr × Obj)) (xe : Value → Shared → Prop) (W' : WX) (p1 p2 : Pos), Takes (X.tr pn xe) W' → PE (X.tr pn xe) (.Call (.Name a p1) [] [] p2) (tE P F W' g b .act)
  top : C.top = true → X.stack = X.env :: X.outer ∧ X.env.frame = some X.env.locals
  lam : C.lam = true → Room (kk + 1) X.A ∧ (∃ c Pt, LamX.TabB X.base X.mg c Pt ∧ X.env.code = .ref c ∧ (Pt, X.env.qual ++ "<lambda>") ∈ P.T ∧ ∀ p ∈ P.T, p.1 = Pt → p.2 = X.env.qual ++ "<lambda>") ∧
    ∃ (calls : Nat → List D → CR) (kl : Nat), (∀ fi Fd, g.fns fi = some Fd → ∃ fad, X.mg (C.fnm fi) = some (.ref fad) ∧ PySem.W.keepIn X.K (.ref fad) = true ∧ ∃ spec, (∀ a, b.callL fi a = spec (a calls)) ∧ FnL P g X.prog X.w X.K X.mg X.base kk fad kl spec) ∧
      ∀ (le : E) (scope : Scope) (body : Expr), chkE g (C.lm scope) le body = true → ∀ (f c' : Addr) (A : Around) (outer : List Env) (s : Shared) (H : Hp) (E : XK), Room kl (A.deeper (LamX.lamEnv X scope s.heap.objs.size f c')) → A.guards = some [] → PE (LamX.lamCx X A outer s H E scope f c') body (tE P FL0 (fun cls d _ H' => E cls d H') g (lamB calls) le)
section
variable {P : RP} {F : FR} {W : WX} {g : G} {b : Below} {kk : Nat} {C : CK} {X : Cx}
theorem CxH.gl (hx : CxH P F W g b kk C X) {x : Str} (h : C.glob x = true) : Gl X x ∧ (x == ("__debug__" : Str)) = false := by
  simp only [CK.glob, Bool.and_eq_true, decide_eq_true_eq, Bool.not_eq_true'] at h
  exact ⟨(congrArg (fun s : Scope => s.names.lookup x) hx.sc).trans h.1, h.2⟩
theorem CxH.nm (hx : CxH P F W g b kk C X) {i : Nat} {x : Str} (h : C.nm i x = true) : X.N[i]? = some x ∧ Vis X.env.scope x ∧ (x == ("__debug__" : Str)) = false ∧ (x == ("__classdict__" : Str)) = false := by
  simp only [CK.nm, Bool.and_eq_true, Bool.or_eq_true, decide_eq_true_eq, Bool.not_eq_true'] at h
  refine ⟨by rw [hx.N]; exact h.1.1.1, ?_, h.1.2, h.2⟩
  unfold Vis
  rw [hx.sc]
  rcases h.1.1.2 with (k | k) | k
  · exact .inl k
  · exact .inr (.inl k)
  · exact .inr (.inr k)
theorem CxH.st (hx : CxH P F W g b kk C X) {i : Nat} {x : Str} (h : C.st i x = true) : X.N[i]? = some x ∧ L2.Loc X.env.scope x ∧ (X.fn x = true ∨ X.env.scope.names.lookup x = some .local) ∧ offIo F i := by
  simp only [CK.st, Bool.and_eq_true, Bool.or_eq_true, decide_eq_true_eq, Bool.not_eq_true'] at h
  obtain ⟨⟨h1, h2⟩, h3⟩ := h
  refine ⟨by rw [hx.N]; exact h1, ?_, ?_, fun p hp e => ?_⟩
  · unfold L2.Loc
    rw [hx.sc]
    rcases h2 with k | k
    · exact .inl k
    · exact .inr k.1
  · rw [hx.sc]
    rcases h2 with k | k
    · exact .inr k
    · exact .inl (hx.fn x k.2)
  · have := hx.io p hp
    rw [e] at this
    rw [List.contains_eq_mem, decide_eq_false_iff_not] at h3
    exact h3 this
theorem b2 {x y : Bool} (h : (x && y) = true) : x = true ∧ y = true := Bool.and_eq_true_iff.mp h
theorem nb {x : Bool} (h : (!x) = true) : x = false := by simpa using h
theorem relabel_sc {scope : Scope} {env : Env} : relabel scope env = relS scope env.scope := rfl
/-- within a comprehension's block -/
theorem CxH.blk (hx : CxH P F W g b kk C X) (s : Shared) (H : Hp) (scope : Scope) (Cc : Addr) (cl : List (Str × Addr)) (fp : List Addr) : CxH P F (fun _ _ _ _ => False) g b kk (C.blk scope) (X.blk s H scope (compEnvC scope cl Cc X.env) fp) where
  K := hx.K
  N := hx.N
  nd := hx.nd
  sc := by
    show relabel scope X.env = relS scope C.sc
    rw [relabel_sc, hx.sc]
  fn := fun x h => h
  io := hx.io
  calm := hx.calm
  gd := hx.gd
  un := hx.un
  own := fun h => nomatch h
  tk := LamX.takes0
  blt := hx.blt
  gls := hx.gls
  room := hx.room
  fns := hx.fns
  gen := hx.gen
  cfs := hx.cfs
  xcl := hx.xcl
  sub := hx.sub
  xf := hx.xf
  fld := fun _ _ h => nomatch h
  act := fun _ h => nomatch h
  top := fun h => nomatch h
  lam := fun h => nomatch h
/-- within a generator expression -/
theorem CxH.gx (hx : CxH P F W g b kk C X) (hg : C.gen = true) (s : Shared) (H : Hp) (scope : Scope) (code : Value) (fp : List Addr) (pn : List (Addr × Obj)) : CxH P F (fun _ _ _ _ => False) g b kk (C.gx scope) (gxCx X s H scope code fp pn) := by
  obtain ⟨room, _⟩ := hx.gen hg
  have rm : Room kk (gxCx X s H scope code fp pn).A := ⟨room.hd, by have := room.dp; show X.A.depth + 1 + 3 * kk + 5 < _; omega, by have := room.un; show X.A.units + 1 + 1 + 3 + 16 * kk + 200 < _; omega⟩
  exact
  { K := hx.K
    N := hx.N
    nd := hx.nd
    sc := rfl
    fn := fun x h => h
    io := hx.io
    calm := fun _ => rfl
    gd := by
      show (X.A.in1.in1.deeper _).guards = some []
      rw [← hx.gd]
      rfl
    un := by have := rm.un; omega
    own := fun h => nomatch h
    tk := LamX.takes0
    blt := hx.blt
    gls := hx.gls
    room := fun _ => rm
    fns := hx.fns
    gen := fun h => nomatch h
    cfs := hx.cfs
    xcl := hx.xcl
    sub := hx.sub
    xf := hx.xf
    fld := fun _ _ h => nomatch h
    act := fun _ h => nomatch h
    top := fun h => nomatch h
    lam := fun h => nomatch h }
/-- within a lambda -/
theorem CxH.lm {calls : Nat → List D → CR} {kl : Nat} (hx : CxH P F W g b kk C X) (hcl : ∀ f Fd, g.fns f = some Fd → ∃ fad, X.mg (C.fnm f) = some (.ref fad) ∧ PySem.W.keepIn X.K (.ref fad) = true ∧ FnG P X.prog X.w X.K X.mg X.base kl fad Fd.io (calls f))
    (scope : Scope) (f c' : Addr) (A : Around) (outer : List Env) (s : Shared) (H : Hp) (E : XK) (rm : Room kl (A.deeper (LamX.lamEnv X scope s.heap.objs.size f c'))) (hgd : A.guards = some []) :
    CxH P FL0 (fun cls d _ H' => E cls d H') g (lamB calls) kl (C.lm scope) (LamX.lamCx X A outer s H E scope f c') :=
  { K := hx.K
    N := hx.N
    nd := hx.nd
    sc := rfl
    fn := fun x h => nomatch h
    io := fun p hp => nomatch hp
    calm := fun _ => rfl
    gd := by
      show (A.deeper _).guards = some []
      rw [← hgd]
      rfl
    un := by have := rm.un; show (A.deeper _).units + 70 < cLine; omega
    own := fun _ => passes_of rfl
    tk := takes_of rfl rfl rfl rfl
    blt := hx.blt
    gls := hx.gls
    room := fun _ => rm
    fns := hcl
    gen := fun h => nomatch h
    cfs := hx.cfs
    xcl := hx.xcl
    sub := hx.sub
    xf := hx.xf
    fld := fun _ _ h => nomatch h
    act := fun _ h => nomatch h
    top := fun h => nomatch h
    lam := fun h => nomatch h }
theorem foldG {A : Expr} {env : Env} (h : plainG A = true) : ∀ x, genFold A env x = pure x := fun x => by
  cases A <;> first | (cases h; done) | rfl
theorem agName_blt (u : Bool) : agName u ∈ bltNames := by cases u <;> decide
theorem ownS_snd {own : List Nat} : (ownS C own).map (·.2) = own := by
  induction own with
  | nil => rfl
  | cons v l ih => exact congrArg (v :: ·) ih
mutual
theorem sndT' : ∀ (t : Tg) (C : CK) (X : Cx) (W : WX) (A : Expr), CxH P F W g b kk C X → chkT C t A = true → PG X A (gT P F t)
  | .v i, C, X, W, A, hx, h => by
    cases A with
    | Name x p =>
      obtain ⟨h1, h2, h3, h4⟩ := hx.st (show C.st i x = true from h)
      exact g_v hx.nd h1 h2 h3 h4
    | _ => cases h
  | .t l, C, X, W, A, hx, h => by
    cases A with
    | Tuple es k p =>
      obtain ⟨h, h4⟩ := b2 (show (C.hot && es.all plainA && decide (es.length = l.length) && chkTs C l es) = true from h)
      obtain ⟨h, h3⟩ := b2 h
      obtain ⟨h1, h2⟩ := b2 h
      exact g_t (hx.calm h1) hx.K (sndTs l C X W es hx h4) h2 (of_decide_eq_true h3)
    | _ => cases h
theorem sndTs : ∀ (ts : List Tg) (C : CK) (X : Cx) (W : WX) (As : List Expr), CxH P F W g b kk C X → chkTs C ts As = true → PGs X As (gTs P F ts)
  | [], C, X, W, As, hx, h => by
    cases As with
    | nil => exact gs_nil
    | cons A As => cases h
  | t :: ts, C, X, W, As, hx, h => by
    cases As with
    | nil => cases h
    | cons A As =>
      obtain ⟨h, h3⟩ := b2 (show (chkT C t A && plainA A && chkTs C ts As) = true from h)
      obtain ⟨h1, h2⟩ := b2 h
      exact gs_cons (sndT' t C X W A hx h1) (sndTs ts C X W As hx h3) h2
end
theorem chkK_pps : ∀ {ks : List Key} {Ks : List (Option Expr)} {es : List E} {Vs : List Expr} {pos : Pos}, chkK ks Ks = true → ks.length = es.length → Vs.length = es.length → (∀ (i : Nat) (e : E) (A : Expr), es[i]? = some e → Vs[i]? = some A → PE X A (tE P F W g b e)) → PPs X pos Ks Vs (trs P F W g b ks es)
  | [], [], [], [], pos, _, _, _, _ => pps_nil
  | [], [], [], _ :: _, _, _, _, l, _ => by simp at l
  | [], [], _ :: _, _, _, _, l, _, _ => by simp at l
  | [], _ :: _, _, _, _, h, _, _, _ => nomatch h
  | _ :: _, [], _, _, _, h, _, _, _ => nomatch h
  | k :: ks, none :: Ks, _, _, _, h, _, _, _ => nomatch h
  | k :: ks, some K1 :: Ks, [], _, _, _, l, _, _ => by simp at l
  | k :: ks, some K1 :: Ks, e :: es, [], _, _, _, l, _ => by simp at l
  | k :: ks, some K1 :: Ks, e :: es, V1 :: Vs, pos, h, l1, l2, hp => by
    cases K1 with
    | Constant c j p =>
      obtain ⟨h1, h2⟩ := b2 (show (keyC k c && chkK ks Ks) = true from h)
      refine pps_cons ?_ (hp 0 e V1 rfl rfl) (chkK_pps h2 (by simpa using l1) (by simpa using l2) fun i e A h1 h2 => hp (i + 1) e A (by simpa using h1) (by simpa using h2))
      cases k with
      | inl i =>
        cases c <;> first | (cases h1; done) | skip
        have e := eq_of_beq h1
        subst e
        exact pe_int
      | inr x =>
        cases c <;> first | (cases h1; done) | skip
        have e := of_decide_eq_true h1
        subst e
        exact pe_str
    | _ => cases h
theorem chkK_len : ∀ {ks : List Key} {Ks : List (Option Expr)}, chkK ks Ks = true → Ks.length = ks.length ∧ Ks.all (·.isSome) = true
  | [], [], _ => ⟨rfl, rfl⟩
  | [], _ :: _, h => nomatch h
  | _ :: _, [], h => nomatch h
  | k :: ks, none :: Ks, h => nomatch h
  | k :: ks, some K1 :: Ks, h => by
    cases K1 with
    | Constant c j p =>
      obtain ⟨h1, h2⟩ := b2 (show (keyC k c && chkK ks Ks) = true from h)
      obtain ⟨l, a⟩ := chkK_len h2
      exact ⟨by simp [l], by simpa using a⟩
    | _ => cases h
theorem chkA_len : ∀ {es : List E} {As : List Expr}, chkA g C es As = true → As.length = es.length
  | [], [], _ => rfl
  | [], _ :: _, h => nomatch h
  | _ :: _, [], h => nomatch h
  | e :: es, A :: As, h => by
    obtain ⟨h, h4⟩ := b2 (show (plainA A && chkE g C e A && (!e.pk || isPeek e) && chkA g C es As) = true from h)
    simp [chkA_len h4]
theorem chkA_plain : ∀ {es : List E} {As : List Expr} {pos : Pos} {env : Env}, chkA g C es As = true → (backTo pos (starEach As env)).any (·.1) = false ∧ ∀ A rest, As = A :: rest → plainA A = true ∧ (backTo pos (starEach rest env)).any (·.1) = false
  | [], [], _, _, _ => ⟨rfl, fun A rest e => nomatch e⟩
  | [], _ :: _, _, _, h => nomatch h
  | _ :: _, [], _, _, h => nomatch h
  | e :: es, A :: As, pos, env, h => by
    obtain ⟨h, h4⟩ := b2 (show (plainA A && chkE g C e A && (!e.pk || isPeek e) && chkA g C es As) = true from h)
    obtain ⟨h, h3⟩ := b2 h
    obtain ⟨h1, h2⟩ := b2 h
    obtain ⟨k1, _⟩ := chkA_plain (pos := pos) (env := env) h4
    refine ⟨?_, fun A' rest e => by cases e; exact ⟨h1, k1⟩⟩
    rw [star_plain h1]
    show (false || (backTo pos (starEach As env)).any (·.1)) = false
    rw [k1]
    rfl
theorem foldI {A : Expr} {env : Env} (h : plainI A = true) : ∀ x, foldedSetIterable A env x = pure x := fun x => by
  cases A <;> first | rfl | cases h
def condT (P : RP) (F : FR) (W : WX) (g : G) (b : Below) : Option E → TT
  | none => tYes
  | some c => TQ P F W g b c
theorem condT_of {cond : Option E} (σ : L2.St) (H : Hp) (Q : Bool → Hp → Prop) (sl : Sl) (own : List Addr) (k : Bool) (s2 : Sl) (sim : Sim P F sl σ H own) (e : evCond g b cond sl = .ok (k, s2)) (h : ∀ H' own', Sim P F s2 σ H' own' → Step own H H' own' → Q k H') : condT P F W g b cond σ H Q := by
  cases cond with
  | none => cases e; exact h H own sim .refl
  | some c =>
    refine ⟨sl, own, sim, ?_⟩
    rw [show tst g b c sl = .ok (k, s2) from e]
    exact fun H' own' x => h H' own' x.sim x.step
abbrev W0 : WX := fun _ _ _ _ => False
/-- a comprehension's parts -/
structure LcOk (P : RP) (F : FR) (W : WX) (g : G) (b : Below) (C : CK) (X : Cx) (own : List Nat) (t : Tg) (src : Src) (cond : Option E) (elt : E) (E' tg iter : Expr) (ifs : List Expr) (scope : Scope) : Prop where
  calm : X.calm = true
  pi : PI X tg iter (tIt P F W g b src)
  blk : BlkOk X.N X.env.scope scope (ownS C own)
  pg : ∀ (s : Shared) (H : Hp) (Cc : Addr) (cl : List (Str × Addr)) (fp : List Addr), PG (X.blk s H scope (compEnvC scope cl Cc X.env) fp) tg (gT P F t)
  pt : ∀ (s : Shared) (H : Hp) (Cc : Addr) (cl : List (Str × Addr)) (fp : List Addr), PTs (X.blk s H scope (compEnvC scope cl Cc X.env) fp) ifs (condT P F W0 g b cond)
  pe : ∀ (s : Shared) (H : Hp) (Cc : Addr) (cl : List (Str × Addr)) (fp : List Addr), PE (X.blk s H scope (compEnvC scope cl Cc X.env) fp) E' (tE P F W0 g b elt)
  fold : ∀ x, foldedSetIterable iter X.env x = pure x
  read : ∀ σ H Q, tE P F W g b (.comp own t src cond elt) σ H Q → tLc (tIt P F W g b src) (gT P F t) (condT P F W0 g b cond) (tE P F W0 g b elt) own σ H Q
def lcChk (g : G) (C : CK) (own : List Nat) (t : Tg) (src : Src) (cond : Option E) (elt : E) (E' tg iter : Expr) (ifs : List Expr) (scope : Scope) : Bool :=
  C.hot && chkS g C src tg iter && plainI iter && blkC C.N C.sc scope (ownS C own) && chkT (C.blk scope) t tg && chkC g (C.blk scope) cond ifs && chkE g (C.blk scope) elt E' && !elt.pk && t.slots.all own.contains && own.all (fun v => !C.ioS.contains v)
section
variable {own : List Nat} {t : Tg} {src : Src} {cond : Option E} {elt : E} {E' tg iter : Expr} {ifs : List Expr} {scope : Scope}
theorem lcAll (h : lcChk g C own t src cond elt E' tg iter ifs scope = true) : C.hot = true ∧ chkS g C src tg iter = true ∧ plainI iter = true ∧ blkC C.N C.sc scope (ownS C own) = true ∧ chkT (C.blk scope) t tg = true ∧ chkC g (C.blk scope) cond ifs = true ∧ chkE g (C.blk scope) elt E' = true ∧ elt.pk = false ∧ t.slots.all own.contains = true ∧ own.all (fun v => !C.ioS.contains v) = true := by
  unfold lcChk at h
  obtain ⟨h, h10⟩ := b2 h
  obtain ⟨h, h9⟩ := b2 h
  obtain ⟨h, h8⟩ := b2 h
  obtain ⟨h, h7⟩ := b2 h
  obtain ⟨h, h6⟩ := b2 h
  obtain ⟨h, h5⟩ := b2 h
  obtain ⟨h, h4⟩ := b2 h
  obtain ⟨h, h3⟩ := b2 h
  obtain ⟨h1, h2⟩ := b2 h
  exact ⟨h1, h2, h3, h4, h5, h6, h7, nb h8, h9, h10⟩
theorem lcS (h : lcChk g C own t src cond elt E' tg iter ifs scope = true) : chkS g C src tg iter = true := (lcAll h).2.1
theorem lcT (h : lcChk g C own t src cond elt E' tg iter ifs scope = true) : chkT (C.blk scope) t tg = true := (lcAll h).2.2.2.2.1
theorem lcC (h : lcChk g C own t src cond elt E' tg iter ifs scope = true) : chkC g (C.blk scope) cond ifs = true := (lcAll h).2.2.2.2.2.1
theorem lcE (h : lcChk g C own t src cond elt E' tg iter ifs scope = true) : chkE g (C.blk scope) elt E' = true := (lcAll h).2.2.2.2.2.2.1
theorem mkLc (hx : CxH P F W g b kk C X) (h : lcChk g C own t src cond elt E' tg iter ifs scope = true) (hS : PI X tg iter (tIt P F W g b src)) (hT : ∀ X', CxH P F W0 g b kk (C.blk scope) X' → PG X' tg (gT P F t)) (hC : ∀ X', CxH P F W0 g b kk (C.blk scope) X' → PTs X' ifs (condT P F W0 g b cond))
    (hE : ∀ X', CxH P F W0 g b kk (C.blk scope) X' → PE X' E' (tE P F W0 g b elt)) : LcOk P F W g b C X own t src cond elt E' tg iter ifs scope := by
  obtain ⟨h1, h2, h3, h4, h5, h6, h7, h8, h9, h10⟩ := lcAll h
  refine ⟨hx.calm h1, hS, ?_, fun s H Cc cl fp => hT _ (hx.blk s H scope Cc cl fp), fun s H Cc cl fp => hC _ (hx.blk s H scope Cc cl fp), fun s H Cc cl fp => hE _ (hx.blk s H scope Cc cl fp), foldI h3, fun σ H Q hq => comp_read (fun p hp hv => ?_) (fun i hi => ?_) (fun σ H Q sl own k s2 sim e hh => condT_of σ H Q sl own k s2 sim e hh) h8 hq⟩
  · rw [hx.N, hx.sc]
    exact blkOk_by h4
  · have := List.all_eq_true.mp h10 _ hv
    have h11 := hx.io p hp
    simp only [Bool.not_eq_true', List.contains_eq_mem, decide_eq_false_iff_not] at this
    exact this h11
  · have := List.all_eq_true.mp h9 i hi
    simpa using this
end
theorem isT_plain {A : Expr} {env : Env} (h : plainT A = true) : ∀ whole, isTrue A env whole = (do let v ← whole; standAt A.pos; holding [v] (truthy v)) := fun whole => by
  cases A with
  | UnaryOp op a p => cases op <;> first | rfl | cases h
  | BoolOp _ _ _ => cases h
  | IfExp _ _ _ _ => cases h
  | Compare _ _ _ _ => cases h
  | _ => rfl
mutual
/-- what tells of an expression is sound -/
theorem sndE : ∀ (e : E) (C : CK) (X : Cx) (W : WX) (A : Expr), CxH P F W g b kk C X → chkE g C e A = true → PE X A (tE P F W g b e)
  | .c d, C, X, W, A, hx, h => by
    cases A with
    | Constant k j p => exact s_c h
    | _ => cases h
  | .var i, C, X, W, A, hx, h => by
    cases A with
    | Name x p => obtain ⟨h1, h2, h3, h4⟩ := hx.nm (show C.nm i x = true from h); exact s_var h1 h2 h3 h4
    | _ => cases h
  | .move i, C, X, W, A, hx, h => by
    cases A with
    | Name x p => obtain ⟨h1, h2, h3, h4⟩ := hx.nm (show C.nm i x = true from h); exact s_move h1 h2 h3 h4
    | _ => cases h
  | .peek i, C, X, W, A, hx, h => by
    cases A with
    | Name x p => obtain ⟨h1, h2, h3, h4⟩ := hx.nm (show C.nm i x = true from h); exact s_peek h1 h2 h3 h4
    | _ => cases h
  | .glob d y, C, X, W, A, hx, h => by
    cases A with
    | Name x p =>
      obtain ⟨h, h3⟩ := b2 (show (C.glob x && decide (x = y) && (match (generalizing := false) d with | .int i => C.gls.lookup x == some i | _ => false)) = true from h)
      obtain ⟨h1, h2⟩ := b2 h
      obtain ⟨g1, g2⟩ := hx.gl h1
      cases d <;> first | (cases h3; done) | skip
      obtain ⟨t, hm⟩ := hx.gls x _ (eq_of_beq h3)
      exact (pe_glob g1 hm (show RelV (.int _) (.int _ t) from ⟨t, rfl⟩) g2).weak fun σ H Q ⟨sl, own, sim, h⟩ => h _ H own [] (.same rfl sim (.int _))
    | _ => cases h
  | .bidx a k, C, X, W, A, hx, h => by
    cases A with
    | Subscript A B p =>
      obtain ⟨h, h6⟩ := b2 (show (chkE g C a A && chkE g C k B && plainA B && a.pk && a.pure && k.pure) = true from h)
      obtain ⟨h, h5⟩ := b2 h
      obtain ⟨h, h4⟩ := b2 h
      obtain ⟨h, h3⟩ := b2 h
      obtain ⟨h1, h2⟩ := b2 h
      exact s_bidx hx.K (by have := hx.un; omega) (sndE a C X W A hx h1) (sndE k C X W B hx h2) h4 h5 h6 (ix_plain h3)
    | _ => cases h
  | .idx a k, C, X, W, A, hx, h => by
    cases A with
    | Subscript A B p =>
      obtain ⟨h, h4⟩ := b2 (show (chkE g C a A && chkE g C k B && plainA B && pairOk a k) = true from h)
      obtain ⟨h, h3⟩ := b2 h
      obtain ⟨h1, h2⟩ := b2 h
      exact s_idx hx.K (by have := hx.un; omega) (sndE a C X W A hx h1) (sndE k C X W B hx h2) h4 (ix_plain h3)
    | _ => cases h
  | .bin o a c, C, X, W, A, hx, h => by
    cases A with
    | BinOp A op B p =>
      obtain ⟨h, h4⟩ := b2 (show (opOk o op && chkE g C a A && chkE g C c B && pairOk a c) = true from h)
      obtain ⟨h, h3⟩ := b2 h
      obtain ⟨h1, h2⟩ := b2 h
      rw [opOk_eq h1]
      exact s_bin hx.K (sndE a C X W A hx h2) (sndE c C X W B hx h3) h4
    | _ => cases h
  | .neg a, C, X, W, A, hx, h => by
    cases A with
    | UnaryOp op A p =>
      obtain ⟨h1, h2⟩ := b2 (show ((match (generalizing := false) op with | .USub => true | _ => false) && chkE g C a A) = true from h)
      cases op <;> first | (cases h1; done) | skip
      exact s_neg (sndE a C X W A hx h2)
    | _ => cases h
  | .cmp o a c, C, X, W, A, hx, h => by
    cases A with
    | Compare A ops Bs p =>
      have h : (match (generalizing := false) ops, Bs with | [op], [B] => copOk o op && chkE g C a A && chkE g C c B && pairOk a c && !behindInMarks op B | _, _ => false) = true := h
      split at h
      · obtain ⟨h, h5⟩ := b2 h
        obtain ⟨h, h4⟩ := b2 h
        obtain ⟨h, h3⟩ := b2 h
        obtain ⟨h1, h2⟩ := b2 h
        rw [copOk_eq h1] at h5 ⊢
        exact s_cmp hx.K (by have := hx.un; omega) (sndE a C X W A hx h2) (sndE c C X W _ hx h3) h4 (nb h5)
      · cases h
    | _ => cases h
  | .chn o1 o2 a c e, C, X, W, A, hx, h => by
    cases A with
    | Compare A ops Bs p =>
      have h : (match (generalizing := false) ops, Bs with | [op1, op2], [B, B2] => copOk o1 op1 && copOk o2 op2 && chkE g C a A && chkE g C c B && chkE g C e B2 && !a.pk && !c.pk && !e.pk && !lastMarks [op1, op2] [B, B2] | _, _ => false) = true := h
      split at h
      · obtain ⟨h, h9⟩ := b2 h
        obtain ⟨h, h8⟩ := b2 h
        obtain ⟨h, h7⟩ := b2 h
        obtain ⟨h, h6⟩ := b2 h
        obtain ⟨h, h5⟩ := b2 h
        obtain ⟨h, h4⟩ := b2 h
        obtain ⟨h, h3⟩ := b2 h
        obtain ⟨h1, h2⟩ := b2 h
        rw [copOk_eq h1, copOk_eq h2] at h9 ⊢
        exact s_chn hx.K (by have := hx.un; omega) (sndE a C X W A hx h3) (sndE c C X W _ hx h4) (sndE e C X W _ hx h5) (nb h6) (nb h7) (nb h8) (nb h9)
      · cases h
    | _ => cases h
  | .and a c, C, X, W, A, hx, h => by
    cases A with
    | BoolOp op l p =>
      have h : (match (generalizing := false) op, l with
        | .And, A :: B :: [] => chkE g C a A && chkE g C c B && !a.pk && !c.pk
        | .And, A :: B :: r :: rest => chkE g C a A && chkE g C c (.BoolOp .And (B :: r :: rest) p) && !a.pk && !c.pk
        | _, _ => false) = true := h
      split at h
      · obtain ⟨h, h4⟩ := b2 h
        obtain ⟨h, h3⟩ := b2 h
        obtain ⟨h1, h2⟩ := b2 h
        exact s_and hx.K (sndE a C X W _ hx h1) (pe_one (sndE c C X W _ hx h2)) (nb h3) (nb h4)
      · obtain ⟨h, h4⟩ := b2 h
        obtain ⟨h, h3⟩ := b2 h
        obtain ⟨h1, h2⟩ := b2 h
        exact s_and hx.K (sndE a C X W _ hx h1) (sndE c C X W _ hx h2) (nb h3) (nb h4)
      · cases h
    | _ => cases h
  | .or a c, C, X, W, A, hx, h => by
    cases A with
    | BoolOp op l p =>
      have h : (match (generalizing := false) op, l with
        | .Or, A :: B :: [] => chkE g C a A && chkE g C c B && !a.pk && !c.pk
        | .Or, A :: B :: r :: rest => chkE g C a A && chkE g C c (.BoolOp .Or (B :: r :: rest) p) && !a.pk && !c.pk
        | _, _ => false) = true := h
      split at h
      · obtain ⟨h, h4⟩ := b2 h
        obtain ⟨h, h3⟩ := b2 h
        obtain ⟨h1, h2⟩ := b2 h
        exact s_or hx.K (sndE a C X W _ hx h1) (pe_one (sndE c C X W _ hx h2)) (nb h3) (nb h4)
      · obtain ⟨h, h4⟩ := b2 h
        obtain ⟨h, h3⟩ := b2 h
        obtain ⟨h1, h2⟩ := b2 h
        exact s_or hx.K (sndE a C X W _ hx h1) (sndE c C X W _ hx h2) (nb h3) (nb h4)
      · cases h
    | _ => cases h
  | .not a, C, X, W, A, hx, h => by
    cases A with
    | UnaryOp op A p =>
      obtain ⟨h1, h2⟩ := b2 (show ((match (generalizing := false) op with | .Not => true | _ => false) && chkE g C a A) = true from h)
      cases op <;> first | (cases h1; done) | skip
      exact s_not hx.K (sndE a C X W A hx h2)
    | _ => cases h
  | .ifx t a c, C, X, W, A, hx, h => by
    cases A with
    | IfExp T A B p =>
      obtain ⟨h, h6⟩ := b2 (show (chkE g C t T && chkE g C a A && chkE g C c B && !a.pk && !c.pk && t.tst) = true from h)
      obtain ⟨h, h5⟩ := b2 h
      obtain ⟨h, h4⟩ := b2 h
      obtain ⟨h, h3⟩ := b2 h
      obtain ⟨h1, h2⟩ := b2 h
      exact s_ifx (sndT t C X W T hx h1 h6) (sndE a C X W A hx h2) (sndE c C X W B hx h3) (nb h4) (nb h5)
    | _ => cases h
  | .tup es, C, X, W, A, hx, h => by
    cases A with
    | Tuple As k p =>
      obtain ⟨h1, h2⟩ := b2 (show (chkA g C es As && es.all (fun e => !e.pk)) = true from h)
      exact s_tup (sndA es C X W As hx h1) h2
    | _ => cases h
  | .lst es, C, X, W, A, hx, h => by
    cases A with
    | List As p =>
      obtain ⟨h1, h2⟩ := b2 (show (chkA g C es As && es.all (fun e => !e.pk)) = true from h)
      exact s_lst (sndA es C X W As hx h1) h2
    | _ => cases h
  | .dic ks es, C, X, W, A, hx, h => by
    cases A with
    | Dict Ks Vs p =>
      obtain ⟨h, h7⟩ := b2 (show (chkK ks Ks && chkA g C es Vs && es.all (fun e => !e.pk) && decide (ks.length = es.length) && decide ks.Nodup && decide (ks.length ≤ 15) && decide (ks ≠ [])) = true from h)
      obtain ⟨h, h6⟩ := b2 h
      obtain ⟨h, h5⟩ := b2 h
      obtain ⟨h, h4⟩ := b2 h
      obtain ⟨h, h3⟩ := b2 h
      obtain ⟨h1, h2⟩ := b2 h
      have l4 := of_decide_eq_true h4
      obtain ⟨lk, ak⟩ := chkK_len h1
      have lv := chkA_len h2
      refine (pe_disp (chkK_pps h1 l4 lv (sndAt es C X W Vs hx h2)) ak (by omega) (fun e => of_decide_eq_true h7 (List.eq_nil_of_length_eq_zero (by rw [← lk, e]; rfl))) (by have := of_decide_eq_true h6; omega)).weak fun σ H Q h => dic_read l4 (of_decide_eq_true h5) h3 (of_decide_eq_true h6) h
    | _ => cases h
  | .sli a lo hi, C, X, W, A, hx, h => by
    cases A with
    | Subscript A S p =>
      have h : (match (generalizing := false) S with | .Slice l h none _ => chkE g C a A && !a.pk && chkO g C lo l && chkO g C hi h | _ => false) = true := h
      split at h
      · obtain ⟨h, h4⟩ := b2 h
        obtain ⟨h, h3⟩ := b2 h
        obtain ⟨h1, h2⟩ := b2 h
        obtain ⟨t1, p1, o1⟩ := sndO lo C X W _ hx h3
        obtain ⟨t2, p2, o2⟩ := sndO hi C X W _ hx h4
        exact s_sli hx.K (sndE a C X W A hx h1) (nb h2) p1 p2 o1 o2
      · cases h
    | _ => cases h
  | .rev a, C, X, W, A, hx, h => by
    cases A with
    | Subscript A S p =>
      have h : (match (generalizing := false) S with | .Slice none none (some (.UnaryOp .USub (.Constant (.int 1) _ _) _)) _ => chkE g C a A | _ => false) = true := h
      split at h
      · exact s_rev hx.K (sndE a C X W A hx h)
      · cases h
    | _ => cases h
  | .frz a, C, X, W, A, hx, h => by
    obtain ⟨h, h2⟩ := b2 (show (!a.pk && plainT A && chkE g C a A) = true by cases A <;> exact h)
    obtain ⟨h1, _⟩ := b2 h
    exact s_frz (sndE a C X W A hx h2) (nb h1)
  | .call f es, C, X, W, A, hx, h => by
    cases A with
    | Call fn As kws p =>
      have h : (match (generalizing := false) fn, kws, g.fns f with
        | .Name x _, [], some Fd => C.hot && C.glob x && decide (x = C.fnm f) && chkA g C es As && ioOk Fd.io es
        | _, _, _ => false) = true := h
      split at h
      · rename_i x p1 Fd hF h0
        obtain ⟨h, h5⟩ := b2 h
        obtain ⟨h, h4⟩ := b2 h
        obtain ⟨h, h3⟩ := b2 h
        obtain ⟨h1, h2⟩ := b2 h
        obtain ⟨g1, g2⟩ := hx.gl h2
        obtain ⟨fad, m1, m2, m3⟩ := hx.fns f _ hF
        rw [← of_decide_eq_true h3] at m1
        cases es with
        | nil =>
          cases As with
          | nil => exact s_call0 m3 (hx.room h1) hx.gd hx.tk g1 m1 m2 hF g2
          | cons A As => cases h4
        | cons e es =>
          cases As with
          | nil => cases h4
          | cons A As =>
            obtain ⟨q1, q2⟩ := (chkA_plain (pos := p) (env := X.env) h4).2 A As rfl
            exact s_call m3 (hx.room h1) hx.gd hx.tk g1 m1 m2 hF (sndA (e :: es) C X W _ hx h4) h5 g2 (star_plain q1) q2
      · cases h
    | _ => cases h
  | .callL f x, C, X, W, A, hx, h => by
    cases A with
    | Call fn As kws p2 =>
      unfold chkE at h
      split at h
      · rename_i y py params body scope lpos Fd hF
        split at h
        · rename_i o ho
          have ep := parOf_eq ho
          subst ep
          obtain ⟨h, q7⟩ := b2 h
          obtain ⟨h, q6⟩ := b2 h
          obtain ⟨h, q5⟩ := b2 h
          obtain ⟨h, q4⟩ := b2 h
          obtain ⟨h, q3⟩ := b2 h
          obtain ⟨q1, q2⟩ := b2 h
          have ex := of_decide_eq_true q4
          subst ex
          obtain ⟨room, ⟨c, Pt, TB, hcode, hm, hu⟩, calls, kl, hfn, hbd⟩ := hx.lam q2
          obtain ⟨fad, hmg, hk, spec, hsp, Fn⟩ := hfn f _ hF
          have L := lamQ_by q5
          exact s_callL Fn hsp room hx.gd hx.tk (hx.gl q3).1 hmg hk (hx.gl q3).2 TB hcode hm hu (by rw [hx.N, hx.sc]; exact L) (nb q6) (hbd x scope body q7)
        · cases h
      · cases h
    | _ => cases h
  | .act, C, X, W, A, hx, h => by
    cases A with
    | Call fn As kws p2 =>
      unfold chkE at h
      split at h
      · exact hx.act _ (of_decide_eq_true h) X.pn X.xe W _ _ hx.tk
      · cases h
    | _ => cases h
  | .blt o [], C, X, W, A, hx, h => by
    cases A with
    | Call fn As kws p => cases fn <;> cases kws <;> cases As <;> cases h
    | _ => cases h
  | .blt o (a :: a2 :: es), C, X, W, A, hx, h => by
    cases A with
    | Call fn As kws p => cases fn <;> cases kws <;> cases As <;> cases h
    | _ => cases h
  | .blt o [a], C, X, W, A, hx, h => by
    cases A with
    | Call fn As kws p =>
      cases fn with
      | Name x p1 =>
        cases kws with
        | cons k ks => cases h
        | nil =>
          cases As with
          | nil => cases h
          | cons A rest =>
            obtain ⟨h, h5⟩ := b2 (show (C.glob x && decide (x = bltName o) && chkE g C a A && plainA A && _) = true from h)
            obtain ⟨h, h4⟩ := b2 h
            obtain ⟨h, h3⟩ := b2 h
            obtain ⟨h1, h2⟩ := b2 h
            obtain ⟨g1, g2⟩ := hx.gl h1
            have e2 := of_decide_eq_true h2
            subst e2
            have ih := sndE a C X W A hx h3
            cases o with
            | len =>
              cases rest with
              | nil => exact s_len hx.K g1 (hx.blt _ (by decide +kernel)) h4 ih
              | cons y ys => cases h5
            | tupleOf =>
              cases rest with
              | nil => exact s_tupleOf hx.K g1 (hx.blt _ (by decide +kernel)) h4 ih
              | cons y ys => cases h5
            | listOf =>
              cases rest with
              | nil => exact s_listOf hx.K g1 (hx.blt _ (by decide +kernel)) h4 ih
              | cons y ys => cases h5
            | intOf =>
              cases rest with
              | nil => exact s_intOf g1 (hx.blt _ (by decide +kernel)) h4 ih
              | cons y ys => cases h5
            | isin t =>
              cases rest with
              | nil => cases h5
              | cons y ys =>
                cases ys with
                | cons y2 ys => cases y <;> cases h5
                | nil =>
                  cases y with
                  | Name y p2 =>
                    obtain ⟨k1, k2⟩ := b2 (show (C.glob y && decide (y = Str.ofString (tyN t))) = true from h5)
                    obtain ⟨g3, g4⟩ := hx.gl k1
                    have e4 := of_decide_eq_true k2
                    subst e4
                    exact s_isin hx.K g1 (hx.blt _ (by decide +kernel)) g3 (hx.blt _ (by cases t <;> decide +kernel)) h4 ih
                  | _ => cases h5
      | _ => cases h
    | _ => cases h
  | .likes a c, C, X, W, A, hx, h => by
    cases A with
    | Compare A ops Bs p =>
      have h : (match (generalizing := false) A, ops, Bs with
        | .Call (.Name x _) [A1] [] _, [.Eq], [.Call (.Name y _) [B1] [] _] => C.glob x && decide (x = ("repr" : Str)) && decide (y = ("repr" : Str)) && chkE g C a A1 && chkE g C c B1 && plainA A1 && plainA B1 && !a.pk && !c.pk
        | _, _, _ => false) = true := h
      split at h
      · obtain ⟨h, h9⟩ := b2 h
        obtain ⟨h, h8⟩ := b2 h
        obtain ⟨h, h7⟩ := b2 h
        obtain ⟨h, h6⟩ := b2 h
        obtain ⟨h, h5⟩ := b2 h
        obtain ⟨h, h4⟩ := b2 h
        obtain ⟨h, h3⟩ := b2 h
        obtain ⟨h1, h2⟩ := b2 h
        obtain ⟨g1, g2⟩ := hx.gl h1
        have e2 := of_decide_eq_true h2
        have e3 := of_decide_eq_true h3
        subst e2 e3
        exact s_likes hx.K hx.gd hx.un g1 (hx.blt _ (by decide +kernel)) h6 h7 (sndE a C X W _ hx h4) (sndE c C X W _ hx h5) (nb h8) (nb h9)
      · cases h
    | _ => cases h
  | .comp own t src cond elt, C, X, W, A, hx, h => by
    cases A with
    | ListComp E' gs scope p =>
      have h : (match (generalizing := false) gs with
        | [⟨tg, iter, ifs, 0⟩] => lcChk g C own t src cond elt E' tg iter ifs scope
        | _ => false) = true := h
      split at h
      · rename_i tg iter ifs h0
        have L := mkLc (elt := elt) hx h (sndS src C X W tg iter hx (lcS h)) (fun X' hx' => sndT' t (C.blk scope) X' _ tg hx' (lcT h)) (fun X' hx' => sndC cond (C.blk scope) X' _ ifs hx' (lcC h)) (fun X' hx' => sndE elt (C.blk scope) X' _ E' hx' (lcE h))
        exact (pe_lc L.calm hx.nd L.pi L.blk L.pg L.pt L.pe L.fold).weak fun σ H Q h => by rw [ownS_snd]; exact L.read σ H Q h
      · cases h
    | _ => cases h
  | .allg u own t src elt, C, X, W, A, hx, h => by
    cases A with
    | Call fn As kws p2 =>
      unfold chkE at h
      split at h
      · rename_i x px E' gs scope p3
        split at h
        · rename_i tg iter
          obtain ⟨h, q11⟩ := b2 h
          obtain ⟨h, q10⟩ := b2 h
          obtain ⟨h, q9⟩ := b2 h
          obtain ⟨h, q8⟩ := b2 h
          obtain ⟨h, q7⟩ := b2 h
          obtain ⟨h, q6⟩ := b2 h
          obtain ⟨h, q5⟩ := b2 h
          obtain ⟨h, q4⟩ := b2 h
          obtain ⟨h, q3⟩ := b2 h
          obtain ⟨q1, q2⟩ := b2 h
          have ex := of_decide_eq_true q4
          subst ex
          obtain ⟨room, c, Pt, TB, hcode, hm, hu⟩ := hx.gen q2
          have L := gxS_by q7
          exact (pe_ag (vs := own) room (hx.gl q3).1 (hx.blt _ (agName_blt u)) TB hcode hm hu (by rw [hx.N, hx.sc]; exact L) (sndS src C X W tg iter hx q5)
            (fun s H code fp pn => sndT' t (C.gx scope) _ _ tg (hx.gx q2 s H scope code fp pn) q8) (fun s H code fp pn => sndE elt (C.gx scope) _ _ E' (hx.gx q2 s H scope code fp pn) q9) (foldG q6)).weak fun σ H Q hq => ag_read (fun p hp hv => by
              have := List.all_eq_true.mp q11 _ hv
              have h11 := hx.io p hp
              simp only [Bool.not_eq_true', List.contains_eq_mem, decide_eq_false_iff_not] at this
              exact this h11) (fun i hi => by
              have := List.all_eq_true.mp q10 i hi
              simpa using this) hq
        · cases h
      · cases h
    | _ => cases h
  | .fld i k, C, X, W, A, hx, h => by
    cases A with
    | Attribute A x p2 =>
      unfold chkE at h
      split at h
      · obtain ⟨h, h3⟩ := b2 h
        obtain ⟨h1, h2⟩ := b2 h
        have := of_decide_eq_true h2
        subst this
        split at h3
        · rename_i j l hj
          obtain ⟨h4, h5⟩ := b2 h3
          have := of_decide_eq_true h4
          subst this
          exact hx.fld j l hj _ (by simpa using h5) _ _ _ h1
        · cases h3
      · cases h
    | _ => cases h
  | .never, C, X, W, A, hx, h => ⟨fun pins s σ H Q I ⟨sl, own, sim, h⟩ => h.elim⟩
/-- .. of a test -/
theorem sndT : ∀ (e : E) (C : CK) (X : Cx) (W : WX) (A : Expr), CxH P F W g b kk C X → chkE g C e A = true → e.tst = true → PT X A (TQ P F W g b e)
  | .not a, C, X, W, A, hx, h, ht => by
    cases A with
    | UnaryOp op A p =>
      obtain ⟨h1, h2⟩ := b2 (show ((match (generalizing := false) op with | .Not => true | _ => false) && chkE g C a A) = true from h)
      cases op <;> first | (cases h1; done) | skip
      exact t_not (sndT a C X W A hx h2 ht)
    | _ => cases h
  | .and a c, C, X, W, A, hx, h, ht => by
    cases A with
    | BoolOp op l p => exact (sndW (.and a c) C X W op l p hx h ht).pt
    | _ => cases h
  | .or a c, C, X, W, A, hx, h, ht => by
    cases A with
    | BoolOp op l p => exact (sndW (.or a c) C X W op l p hx h ht).pt
    | _ => cases h
  | .cmp o a c, C, X, W, A, hx, h, ht => by
    cases A with
    | Compare A ops Bs p =>
      have h : (match (generalizing := false) ops, Bs with | [op], [B] => copOk o op && chkE g C a A && chkE g C c B && pairOk a c && !behindInMarks op B | _, _ => false) = true := h
      split at h
      · obtain ⟨h, h5⟩ := b2 h
        obtain ⟨h, h4⟩ := b2 h
        obtain ⟨h, h3⟩ := b2 h
        obtain ⟨h1, h2⟩ := b2 h
        rw [copOk_eq h1] at h5 ⊢
        exact t_cmp hx.K (by have := hx.un; omega) (sndE a C X W A hx h2) (sndE c C X W _ hx h3) h4 (nb h5)
      · cases h
    | _ => cases h
  | .chn o1 o2 a c e, C, X, W, A, hx, h, ht => by
    cases A with
    | Compare A ops Bs p =>
      have h : (match (generalizing := false) ops, Bs with | [op1, op2], [B, B2] => copOk o1 op1 && copOk o2 op2 && chkE g C a A && chkE g C c B && chkE g C e B2 && !a.pk && !c.pk && !e.pk && !lastMarks [op1, op2] [B, B2] | _, _ => false) = true := h
      split at h
      · obtain ⟨h, h9⟩ := b2 h
        obtain ⟨h, h8⟩ := b2 h
        obtain ⟨h, h7⟩ := b2 h
        obtain ⟨h, h6⟩ := b2 h
        obtain ⟨h, h5⟩ := b2 h
        obtain ⟨h, h4⟩ := b2 h
        obtain ⟨h, h3⟩ := b2 h
        obtain ⟨h1, h2⟩ := b2 h
        rw [copOk_eq h1, copOk_eq h2] at h9 ⊢
        exact t_chn hx.K (by have := hx.un; omega) (sndE a C X W A hx h3) (sndE c C X W _ hx h4) (sndE e C X W _ hx h5) (nb h6) (nb h7) (nb h8) (nb h9)
      · cases h
    | _ => cases h
  | .ifx t a c, C, X, W, A, hx, h, ht => nomatch ht
  | .likes a c, C, X, W, A, hx, h, ht => nomatch ht
  | .never, C, X, W, A, hx, h, ht => ⟨fun pins s σ H Q I ⟨sl, own, sim, h⟩ => h.elim⟩
  | .frz a, C, X, W, A, hx, h, ht => by
    obtain ⟨h', h2⟩ := b2 (show (!a.pk && plainT A && chkE g C a A) = true by cases A <;> exact h)
    obtain ⟨h1, h3⟩ := b2 h'
    exact t_plain hx.K (s_frz (sndE a C X W A hx h2) (nb h1)) (isT_plain h3)
  | .c d, C, X, W, A, hx, h, ht => t_plain hx.K (sndE (.c d) C X W A hx h) (by cases A <;> first | (cases h; done) | exact isT_plain rfl)
  | .var i, C, X, W, A, hx, h, ht => t_plain hx.K (sndE (.var i) C X W A hx h) (by cases A <;> first | (cases h; done) | exact isT_plain rfl)
  | .move i, C, X, W, A, hx, h, ht => t_plain hx.K (sndE (.move i) C X W A hx h) (by cases A <;> first | (cases h; done) | exact isT_plain rfl)
  | .peek i, C, X, W, A, hx, h, ht => t_plain hx.K (sndE (.peek i) C X W A hx h) (by cases A <;> first | (cases h; done) | exact isT_plain rfl)
  | .glob d y, C, X, W, A, hx, h, ht => t_plain hx.K (sndE (.glob d y) C X W A hx h) (by cases A <;> first | (cases h; done) | exact isT_plain rfl)
  | .bidx a k, C, X, W, A, hx, h, ht => t_plain hx.K (sndE (.bidx a k) C X W A hx h) (by cases A <;> first | (cases h; done) | exact isT_plain rfl)
  | .bin o a c, C, X, W, A, hx, h, ht => t_plain hx.K (sndE (.bin o a c) C X W A hx h) (by cases A <;> first | (cases h; done) | exact isT_plain rfl)
  | .tup es, C, X, W, A, hx, h, ht => t_plain hx.K (sndE (.tup es) C X W A hx h) (by cases A <;> first | (cases h; done) | exact isT_plain rfl)
  | .lst es, C, X, W, A, hx, h, ht => t_plain hx.K (sndE (.lst es) C X W A hx h) (by cases A <;> first | (cases h; done) | exact isT_plain rfl)
  | .dic ks es, C, X, W, A, hx, h, ht => t_plain hx.K (sndE (.dic ks es) C X W A hx h) (by cases A <;> first | (cases h; done) | exact isT_plain rfl)
  | .idx a k, C, X, W, A, hx, h, ht => t_plain hx.K (sndE (.idx a k) C X W A hx h) (by cases A <;> first | (cases h; done) | exact isT_plain rfl)
  | .sli a lo hi, C, X, W, A, hx, h, ht => t_plain hx.K (sndE (.sli a lo hi) C X W A hx h) (by cases A <;> first | (cases h; done) | exact isT_plain rfl)
  | .call f es, C, X, W, A, hx, h, ht => t_plain hx.K (sndE (.call f es) C X W A hx h) (by cases A <;> first | (cases h; done) | exact isT_plain rfl)
  | .callL f x, C, X, W, A, hx, h, ht => t_plain hx.K (sndE (.callL f x) C X W A hx h) (by cases A <;> first | (cases h; done) | exact isT_plain rfl)
  | .act, C, X, W, A, hx, h, ht => t_plain hx.K (sndE (.act) C X W A hx h) (by cases A <;> first | (cases h; done) | exact isT_plain rfl)
  | .comp own t src cond elt, C, X, W, A, hx, h, ht => t_plain hx.K (sndE (.comp own t src cond elt) C X W A hx h) (by cases A <;> first | (cases h; done) | exact isT_plain rfl)
  | .allg u own t src elt, C, X, W, A, hx, h, ht => t_plain hx.K (sndE (.allg u own t src elt) C X W A hx h) (by cases A <;> first | (cases h; done) | exact isT_plain rfl)
  | .fld i k, C, X, W, A, hx, h, ht => t_plain hx.K (sndE (.fld i k) C X W A hx h) (by cases A <;> first | (cases h; done) | exact isT_plain rfl)
  | .neg a, C, X, W, A, hx, h, ht => t_plain hx.K (sndE (.neg a) C X W A hx h) (by
    cases A with
    | UnaryOp op A p => cases op <;> first | (cases h; done) | exact isT_plain rfl
    | _ => cases h)
  | .rev a, C, X, W, A, hx, h, ht => t_plain hx.K (sndE (.rev a) C X W A hx h) (by cases A <;> first | (cases h; done) | exact isT_plain rfl)
  | .blt o es, C, X, W, A, hx, h, ht => t_plain hx.K (sndE (.blt o es) C X W A hx h) (by cases A <;> first | (cases h; done) | exact isT_plain rfl)
theorem sndW : ∀ (e : E) (C : CK) (X : Cx) (W : WX) (op : BoolOp) (l : List Expr) (p : Pos), CxH P F W g b kk C X → chkE g C e (.BoolOp op l p) = true → e.tst = true → PW X (.BoolOp op l p) (TQ P F W g b e)
  | .and a c, C, X, W, op, l, p, hx, h, ht => by
    obtain ⟨t1, t2⟩ := b2 (show (a.tst && c.tst) = true from ht)
    have h : (match (generalizing := false) op, l with
      | .And, A :: B :: [] => chkE g C a A && chkE g C c B && !a.pk && !c.pk
      | .And, A :: B :: r :: rest => chkE g C a A && chkE g C c (.BoolOp .And (B :: r :: rest) p) && !a.pk && !c.pk
      | _, _ => false) = true := h
    split at h
    · obtain ⟨h, h4⟩ := b2 h
      obtain ⟨h, h3⟩ := b2 h
      obtain ⟨h1, h2⟩ := b2 h
      exact t_and (sndT a C X W _ hx h1 t1) (pw_and1 (sndT c C X W _ hx h2 t2))
    · obtain ⟨h, h4⟩ := b2 h
      obtain ⟨h, h3⟩ := b2 h
      obtain ⟨h1, h2⟩ := b2 h
      exact t_and (sndT a C X W _ hx h1 t1) (sndW c C X W _ _ _ hx h2 t2)
    · cases h
  | .or a c, C, X, W, op, l, p, hx, h, ht => by
    obtain ⟨t1, t2⟩ := b2 (show (a.tst && c.tst) = true from ht)
    have h : (match (generalizing := false) op, l with
      | .Or, A :: B :: [] => chkE g C a A && chkE g C c B && !a.pk && !c.pk
      | .Or, A :: B :: r :: rest => chkE g C a A && chkE g C c (.BoolOp .Or (B :: r :: rest) p) && !a.pk && !c.pk
      | _, _ => false) = true := h
    split at h
    · obtain ⟨h, h4⟩ := b2 h
      obtain ⟨h, h3⟩ := b2 h
      obtain ⟨h1, h2⟩ := b2 h
      exact t_or (sndT a C X W _ hx h1 t1) (pw_or1 (sndT c C X W _ hx h2 t2))
    · obtain ⟨h, h4⟩ := b2 h
      obtain ⟨h, h3⟩ := b2 h
      obtain ⟨h1, h2⟩ := b2 h
      exact t_or (sndT a C X W _ hx h1 t1) (sndW c C X W _ _ _ hx h2 t2)
    · cases h
  | .never, C, X, W, op, l, p, hx, h, ht => ⟨fun wh pins s σ H Q I ⟨sl, own, sim, h⟩ => h.elim⟩
  | .frz a, C, X, W, op, l, p, hx, h, ht => by
    obtain ⟨h', h2⟩ := b2 (show (!a.pk && plainT (.BoolOp op l p) && chkE g C a (.BoolOp op l p)) = true from h)
    obtain ⟨h1, h3⟩ := b2 h'
    cases h3
  | .c d, C, X, W, op, l, p, hx, h, ht => nomatch h
  | .var i, C, X, W, op, l, p, hx, h, ht => nomatch h
  | .move i, C, X, W, op, l, p, hx, h, ht => nomatch h
  | .peek i, C, X, W, op, l, p, hx, h, ht => nomatch h
  | .cmp o a c, C, X, W, op, l, p, hx, h, ht => nomatch h
  | .chn o1 o2 a c e, C, X, W, op, l, p, hx, h, ht => nomatch h
  | .not a, C, X, W, op, l, p, hx, h, ht => nomatch h
  | .ifx t a c, C, X, W, op, l, p, hx, h, ht => nomatch h
  | .likes a c, C, X, W, op, l, p, hx, h, ht => nomatch h
  | .glob d y, C, X, W, op, l, p, hx, h, ht => nomatch h
  | .bidx a k, C, X, W, op, l, p, hx, h, ht => nomatch h
  | .bin o a c, C, X, W, op, l, p, hx, h, ht => nomatch h
  | .neg a, C, X, W, op, l, p, hx, h, ht => nomatch h
  | .tup es, C, X, W, op, l, p, hx, h, ht => nomatch h
  | .lst es, C, X, W, op, l, p, hx, h, ht => nomatch h
  | .dic ks es, C, X, W, op, l, p, hx, h, ht => nomatch h
  | .idx a k, C, X, W, op, l, p, hx, h, ht => nomatch h
  | .sli a lo hi, C, X, W, op, l, p, hx, h, ht => nomatch h
  | .rev a, C, X, W, op, l, p, hx, h, ht => nomatch h
  | .call f es, C, X, W, op, l, p, hx, h, ht => nomatch h
  | .callL f x, C, X, W, op, l, p, hx, h, ht => nomatch h
  | .act, C, X, W, op, l, p, hx, h, ht => nomatch h
  | .blt o es, C, X, W, op, l, p, hx, h, ht => nomatch h
  | .comp own t src cond elt, C, X, W, op, l, p, hx, h, ht => nomatch h
  | .allg u own t src elt, C, X, W, op, l, p, hx, h, ht => nomatch h
  | .fld i k, C, X, W, op, l, p, hx, h, ht => nomatch h
theorem sndA : ∀ (es : List E) (C : CK) (X : Cx) (W : WX) (As : List Expr), CxH P F W g b kk C X → chkA g C es As = true → PA X As (tAr P F W g b es)
  | [], C, X, W, As, hx, h => by
    cases As with
    | nil => exact a_nil
    | cons A As => cases h
  | e :: es, C, X, W, As, hx, h => by
    cases As with
    | nil => cases h
    | cons A As =>
      obtain ⟨h, h4⟩ := b2 (show (plainA A && chkE g C e A && (!e.pk || isPeek e) && chkA g C es As) = true from h)
      obtain ⟨h, h3⟩ := b2 h
      obtain ⟨h1, h2⟩ := b2 h
      exact a_cons h1 (sndE e C X W A hx h2) (sndA es C X W As hx h4) h3
theorem sndAt : ∀ (es : List E) (C : CK) (X : Cx) (W : WX) (As : List Expr), CxH P F W g b kk C X → chkA g C es As = true → ∀ (i : Nat) (e : E) (A : Expr), es[i]? = some e → As[i]? = some A → PE X A (tE P F W g b e)
  | [], C, X, W, As, hx, h, i, e, A, h1, h2 => by simp at h1
  | e0 :: es, C, X, W, As, hx, h, i, e, A, h1, h2 => by
    cases As with
    | nil => cases h
    | cons A0 As =>
      obtain ⟨h, h4⟩ := b2 (show (plainA A0 && chkE g C e0 A0 && (!e0.pk || isPeek e0) && chkA g C es As) = true from h)
      obtain ⟨h, h3⟩ := b2 h
      obtain ⟨_, h5⟩ := b2 h
      cases i with
      | zero =>
        have e1 : e0 = e := by simpa using h1
        have e2 : A0 = A := by simpa using h2
        rw [← e1, ← e2]
        exact sndE e0 C X W A0 hx h5
      | succ i => exact sndAt es C X W As hx h4 i e A (by simpa using h1) (by simpa using h2)
theorem sndO : ∀ (o : Option E) (C : CK) (X : Cx) (W : WX) (A : Option Expr), CxH P F W g b kk C X → chkO g C o A = true → ∃ t, PO X A t ∧ SO P F W g b o t
  | none, C, X, W, A, hx, h => by
    cases A with
    | none => exact ⟨_, po_none, so_none⟩
    | some A => cases h
  | some e, C, X, W, A, hx, h => by
    cases A with
    | none => cases h
    | some A => exact ⟨_, po_some (sndE e C X W A hx h), so_some⟩
theorem sndC : ∀ (o : Option E) (C : CK) (X : Cx) (W : WX) (ifs : List Expr), CxH P F W g b kk C X → chkC g C o ifs = true → PTs X ifs (condT P F W g b o)
  | none, C, X, W, ifs, hx, h => by
    cases ifs with
    | nil => exact pts_nil
    | cons A As => cases h
  | some e, C, X, W, ifs, hx, h => by
    cases ifs with
    | nil => cases h
    | cons A As =>
      cases As with
      | nil =>
        obtain ⟨h1, h2⟩ := b2 (show (chkE g C e A && e.tst) = true from h)
        exact pts_one (sndT e C X W A hx h1 h2)
      | cons B Bs => cases h
theorem sndS : ∀ (src : Src) (C : CK) (X : Cx) (W : WX) (tg A : Expr), CxH P F W g b kk C X → chkS g C src tg A = true → PI X tg A (tIt P F W g b src)
  | .e a, C, X, W, tg, A, hx, h => i_e hx.K (sndE a C X W A hx h)
  | .rng1 a, C, X, W, tg, A, hx, h => by
    cases A with
    | Call fn As kws p =>
      have h : (match (generalizing := false) fn, kws, As with
        | .Name x _, [], [A] => C.glob x && decide (x = ("range" : Str)) && plainA A && chkE g C a A
        | _, _, _ => false) = true := h
      split at h
      · obtain ⟨h, h4⟩ := b2 h
        obtain ⟨h, h3⟩ := b2 h
        obtain ⟨h1, h2⟩ := b2 h
        obtain ⟨g1, g2⟩ := hx.gl h1
        have e2 := of_decide_eq_true h2
        subst e2
        exact i_rng1 g1 (hx.blt _ (by decide +kernel)) h3 (sndE a C X W _ hx h4)
      · cases h
    | _ => cases h
  | .rng2 a c, C, X, W, tg, A, hx, h => by
    cases A with
    | Call fn As kws p =>
      have h : (match (generalizing := false) fn, kws, As with
        | .Name x _, [], [A, B] => C.glob x && decide (x = ("range" : Str)) && plainA A && plainA B && chkE g C a A && chkE g C c B
        | _, _, _ => false) = true := h
      split at h
      · obtain ⟨h, h6⟩ := b2 h
        obtain ⟨h, h5⟩ := b2 h
        obtain ⟨h, h4⟩ := b2 h
        obtain ⟨h, h3⟩ := b2 h
        obtain ⟨h1, h2⟩ := b2 h
        obtain ⟨g1, g2⟩ := hx.gl h1
        have e2 := of_decide_eq_true h2
        subst e2
        exact i_rng2 g1 (hx.blt _ (by decide +kernel)) h3 h4 (sndE a C X W _ hx h5) (sndE c C X W _ hx h6)
      · cases h
    | _ => cases h
  | .enum a, C, X, W, tg, A, hx, h => by
    cases tg <;> first | (cases h; done) | skip
    cases A with
    | Call fn As kws p =>
      have h : (match (generalizing := false) fn, kws, As with
        | .Name x _, [], [A] => C.glob x && decide (x = ("enumerate" : Str)) && plainA A && chkE g C a A
        | _, _, _ => false) = true := h
      split at h
      · obtain ⟨h, h4⟩ := b2 h
        obtain ⟨h, h3⟩ := b2 h
        obtain ⟨h1, h2⟩ := b2 h
        obtain ⟨g1, g2⟩ := hx.gl h1
        have e2 := of_decide_eq_true h2
        subst e2
        exact i_enum hx.K g1 (hx.blt _ (by decide +kernel)) h3 (sndE a C X W _ hx h4)
      · cases h
    | _ => cases h
  | .zip a c, C, X, W, tg, A, hx, h => by cases tg <;> cases A <;> cases h
end
end
end Q

set_option Elab.async false
set_option linter.all false
set_option maxRecDepth 100000
set_option maxHeartbeats 4000000
/-! W20: statements: the check, and that it is sound. -/
namespace Q
open Snd
open PySem PySem.Spec PyProof.Rows L2

def notComp : Expr → Bool
  | .ListComp .. => false
  | .SetComp .. => false
  | .DictComp .. => false
  | _ => true
def notTup : Expr → Bool
  | .Tuple .. => false
  | _ => true
theorem swaps_no {A : Expr} {t : Option Expr} {n : Nat} {env : Env} (h : notComp A = true) : swapsWith A t n env = pure false := by
  cases A <;> first | (cases h; done) | rfl
theorem sole_tup {A : Expr} {es : List Expr} {k : Nat} {p : Pos} {n : Nat} {env : Env} : swapsWithSole [.Tuple es k p] A n env = pure false := by
  cases A <;> rfl
theorem sole_sub {A o i : Expr} {p : Pos} {n : Nat} {env : Env} : swapsWithSole [.Subscript o i p] A n env = pure false := by
  cases A <;> rfl
theorem stores_no {A T : Expr} {env : Env} (h : notTup A = true) : swappedStores [T] A env = pure none := by
  cases A <;> first | (cases h; done) | (cases T <;> rfl)
theorem stores_sub {A o i : Expr} {p : Pos} {env : Env} : swappedStores [.Subscript o i p] A env = pure none := by
  cases A <;> rfl
theorem stores_par {x y : Str} {px py pt : Pos} {k k2 : Nat} {a c : Expr} {pt2 : Pos} {env : Env} (hb : env.blockKind = .function) (h1 : plainA a = true) (h2 : plainA c = true) (hx : env.kindOf x = some .local) (hy : env.kindOf y = some .local) (hl : py.line = px.line) (hn : x ≠ y)
    (hf : (foldedForSure 8 a && foldedForSure 8 c) = false) (hc : (constantsAlone 8 a && constantsAlone 8 c) = false) : swappedStores [.Tuple [.Name x px, .Name y py] k pt] (.Tuple [a, c] k2 pt2) env = pure (some [x, y]) := by
  have s : ∀ e : Expr, plainA e = true → (match e with | .Starred _ _ => true | _ => false) = false := fun e h => by cases e <;> first | rfl | cases h
  have hany : ([a, c].any fun | .Starred .. => true | _ => false) = false := by
    simp only [List.any_cons, List.any_nil, Bool.or_false]
    rw [s a h1, s c h2]
    rfl
  have hfa : ([a, c].all (foldedForSure 8)) = false := by simpa using hf
  have hca : ([a, c].all (constantsAlone 8)) = false := by simpa using hc
  have hd : [x, y].eraseDups = [x, y] := by
    have q : (y == x) = false := beq_eq_false_iff_ne.mpr (Ne.symm hn)
    simp [List.eraseDups_cons, List.filter, q]
  have hk : (env.kindOf x == some NameKind.local) = true := by rw [hx]; rfl
  have hk2 : (env.kindOf y == some NameKind.local) = true := by rw [hy]; rfl
  unfold swappedStores
  simp only [hany, hfa, hca]
  simp [hb, hx, hy, hl, Expr.pos, Ne.symm hn, hn, List.eraseDups_cons, hfa, hca, hany]
  intro z
  exfalso
  rcases z with z | z
  · exact Bool.noConfusion (z.symm.trans (s a h1))
  · exact Bool.noConfusion (z.symm.trans (s c h2))
/-- a pair of constants: no names swapped -/
theorem stores_fold {es : List Expr} {k k2 : Nat} {pt pt2 : Pos} {a c : Expr} {env : Env} (h : (foldedForSure 8 a && foldedForSure 8 c) = true) : swappedStores [.Tuple es k pt] (.Tuple [a, c] k2 pt2) env = pure none := by
  have hfa : ([a, c].all (foldedForSure 8)) = true := by simpa using h
  unfold swappedStores
  simp only [hfa]
  simp only [if_true]
  split <;> (try rfl)
  all_goals (first | rfl | (repeat (first | rfl | split)))
theorem asg_plain {A K : Expr} {p : Pos} {env : Env} (h : plainA K = true) : ∀ v, assign (.Subscript A K p) env v = (do
      let ov ← holding [v] (eval A env)
      let iv ← holding [v, ov] (eval K env)
      standAt p
      holding [v, ov, iv] (setItem ov iv v)
      release [v, ov, iv] []) := fun v => by
  cases K <;> first | (cases h; done) | rfl
mutual
def chkSt (g : G) (C : CK) : S → Stmt → Bool
  | .set i e, .Assign Ts A p => (match Ts with
    | [.Name x px] => C.st i x && !e.pk && (match e, A with
      | .comp own t src cond elt, .ListComp E' gs scope p2 => (match gs with
        | [⟨tg, iter, ifs, 0⟩] => lcChk g C own t src cond elt E' tg iter ifs scope && decide (C.sc.kind = .function) && decide (C.knd x = some .local) && (px.line == p2.line) && !(scope.names.any fun (n, k) => n == x && (k == .local || k == .cell))
        | _ => false)
      | _, _ => chkE g C e A && notComp A)
    | _ => false)
  | .unp t e, .Assign Ts A _ => (match Ts with
    | [.Tuple es k tp] => C.hot && chkT C t (.Tuple es k tp) && chkE g C e A && !e.pk && (notTup A || (match A with | .Tuple [a, c] _ _ => foldedForSure 8 a && foldedForSure 8 c | _ => false))
    | _ => false)
  | .par is es, .Assign Ts A _ => (match is, es, Ts, A with
    | [i, j], [e1, e2], [.Tuple [.Name x px, .Name y py] _ _], .Tuple [a, c] _ _ => C.hot && C.st i x && C.st j y && decide (C.sc.kind = .function) && decide (C.knd x = some .local) && decide (C.knd y = some .local) && decide (i ≠ j) && decide (x ≠ y) && decide (py.line = px.line) && !e1.pk && !e2.pk && chkA g C [e1, e2] [a, c] && !(foldedForSure 8 a && foldedForSure 8 c) && !(constantsAlone 8 a && constantsAlone 8 c)
    | _, _, _, _ => false)
  | .put c k e, .Assign Ts V _ => (match Ts with
    | [.Subscript A K _] => chkE g C e V && chkE g C c A && chkE g C k K && !e.pk && c.pk && c.pure && k.pure && plainA K
    | _ => false)
  | .app i e, .Expr A _ => (match A with
    | .Call (.Attribute (.Name x _) m p2) [A1] [] p3 => C.nm i x && decide (m = ("append" : Str)) && chkE g C e A1 && !e.pk && plainA A1 && (p2.endLine == p3.line)
    | _ => false)
  | .aug i o e, .AugAssign T op A _ => (match T, op, o with
    | .Name x _, .Add, .add => C.st i x && chkE g C e A && e.pure
    | .Name x _, .Sub, .sub => C.st i x && chkE g C e A && e.pure
    | _, _, _ => false)
  | .expr e, .Expr A _ => chkE g C e A && notComp A
  | .ifs t a c, .If T A B _ => chkE g C t T && t.tst && chkSs g C a A && chkSs g C c B
  | .fors t src body, .For tg iter B El _ => (match El with | [] => C.hot && C.stm && chkS g C src tg iter && chkT C t tg && chkSs g C body B && plainI iter | _ => false)
  | .while t body, .While T B El _ => (match El with | [] => C.stm && chkE g C t T && t.tst && chkSs g C body B | _ => false)
  | .ret e, .Return A _ => (match A with | some A => chkE g C e A && !e.pk | none => false)
  | .retN, .Return A _ => A.isNone
  | .pass, .Pass _ => true
  | .brk, .Break _ => true
  | .cont, .Continue _ => true
  | .raise c es, .Raise ex cause _ => (match es, ex, cause, C.xcl c with
    | [e], some (.Call fn As kws _), none, some (nm, some f) => (match fn, kws, As with
      | .Name x _, [], [A] => C.hot && C.glob x && decide (x = nm) && chkE g C e A && !e.pk && plainA A && decide (g.cfs c = [f])
      | _, _, _ => false)
    | _, _, _, _ => false)
  | .try body cs suites, .Try Bs hds orelse fin _ => (match orelse, fin, hds with
    | [], [], h0 :: hds => C.hot && C.top && C.exs.isNone && chkSs g C body Bs && allNamed cs suites && chkH g C cs suites (h0 :: hds)
    | _, _, _ => false)
  | .never, _ => true
  | _, _ => false
def chkH (g : G) (C : CK) : List (Nat × Option Nat) → List (List S) → List ExceptHandler → Bool
  | [], [], [] => true
  | (k, some i) :: cs, suite :: suites, .ExceptHandler ty nm sts _ :: hds => (match ty, nm, sts with
    | some (.Name x _), some n, b0 :: rest => (match C.xcl k with | some (y, _) => decide (x = y) | none => false) && C.glob x && decide (C.N[i]? = some n) && decide (C.knd n = some .local) && !C.ioS.contains i &&
      (List.range C.ncl).all (fun c => match g.sub c k with | some true => (g.cfs k).all fun f => (g.cfs c).contains f | _ => true) && chkSs g (C.sui i (g.cfs k)) suite (b0 :: rest) && chkH g C cs suites hds
    | _, _, _ => false)
  | _, _, _ => false
def chkSs (g : G) (C : CK) : List S → List Stmt → Bool
  | [], [] => true
  | .frz i :: ss, sts => !C.ioS.contains i && chkSs g C ss sts
  | .del _ :: ss, sts => chkSs g C ss sts
  | s :: ss, st :: sts => chkSt g C s st && chkSs g C ss sts
  | _, _ => false
end
end Q

set_option Elab.async false
set_option linter.all false
set_option maxRecDepth 100000
set_option maxHeartbeats 4000000
/-! W21: the check of statements is sound. -/
namespace Q
open Snd
open PySem PySem.Spec PyProof.Rows L2

section
variable {P : RP} {F : FR} {g : G} {b : Below} {kk : Nat}
theorem CxH.lcl {W : WX} {C : CK} {X : Cx} (hx : CxH P F W g b kk C X) {x : Str} {k : NameKind} (h : C.knd x = some k) : X.env.scope.names.lookup x = some k := by
  rw [hx.sc]; exact h
theorem CxH.off {W : WX} {C : CK} {X : Cx} (hx : CxH P F W g b kk C X) {i : Nat} (h : (!C.ioS.contains i) = true) : offIo F i := fun p hp e => by
  have := hx.io p hp
  rw [e] at this
  simp only [Bool.not_eq_true', List.contains_eq_mem, decide_eq_false_iff_not] at h
  exact h this
theorem ip_of {X : Cx} {o : BOp} {op : Operator} {f : Int → Int → Int} (h : PIp X op (ipI f)) (hb : ∀ i j, bin o (.int i) (.int j) = some (.int (f i j))) : PIp X op (fun x y H Q => ∃ i j z, x = .int i ∧ y = .int j ∧ bin o (.int i) (.int j) = some (.int z) ∧ Q (.int z) H) := by
  intro pins s σ H x y v u Q I rx ry ⟨i, j, z, e1, e2, e3, q⟩
  rw [hb i j] at e3
  cases e3
  exact h pins s σ H x y v u Q I rx ry ⟨i, j, e1, e2, q⟩
theorem chkSs_frz {C : CK} {i : Nat} {ss : List S} {sts : List Stmt} (h : chkSs g C (.frz i :: ss) sts = true) : (!C.ioS.contains i) = true ∧ chkSs g C ss sts = true := by
  cases sts <;> (unfold chkSs at h; exact b2 h)
theorem chkSs_del {C : CK} {i : Nat} {ss : List S} {sts : List Stmt} (h : chkSs g C (.del i :: ss) sts = true) : chkSs g C ss sts = true := by
  cases sts <;> (unfold chkSs at h; exact h)
/-- an except suite -/
theorem CxH.sui {W : WX} {C : CK} {X : Cx} (hx : CxH P F W g b kk C X) {i k c : Nat} {dd a : Addr} {oe : Obj} {pn : List (Addr × Obj)} (hz : Zc (.ref (P.cad c)) (some dd) oe) (hf : ∃ vs, oe.data = .fields vs) (hall : ∀ f ∈ g.cfs k, f ∈ g.cfs c) :
    CxH P (F.sui i a dd) (fun _ _ _ _ => False) g b kk (C.sui i (g.cfs k)) (X.suite a ((a, oe) :: pn)) where
  K := hx.K
  N := hx.N
  nd := hx.nd
  sc := hx.sc
  fn := hx.fn
  io := fun p hp => by
    rcases List.mem_cons.mp hp with rfl | hp
    · exact List.mem_cons_self
    · exact List.mem_cons_of_mem _ (hx.io p hp)
  calm := fun h => nomatch h
  gd := hx.gd
  un := hx.un
  own := fun h => nomatch h
  tk := LamX.takes0
  blt := hx.blt
  gls := hx.gls
  room := fun h => nomatch h
  fns := hx.fns
  gen := fun h => nomatch h
  cfs := hx.cfs
  xcl := hx.xcl
  sub := hx.sub
  xf := hx.xf
  fld := fun i' l h f hm x p pos hn => by
    have h : some (i, g.cfs k) = some (i', l) := h
    cases h
    obtain ⟨T, hno⟩ := hx.xf c f (hall f hm)
    obtain ⟨n1, n2, n3, n4⟩ := hx.nm (show C.nm i x = true from hn)
    refine e_fld T hno hz hf rfl rfl List.mem_cons_self (fun dd' hd => ?_) hx.cfs n1 n2 n3 n4
    rcases List.mem_cons.mp hd with q | q
    · cases q; rfl
    · have := (List.mem_filter.mp q).2
      simp at this
  act := fun _ h => nomatch h
  top := fun h => nomatch h
  lam := fun h => nomatch h
/-- the body of a try -/
theorem CxH.tr {W W' : WX} {C : CK} {X : Cx} (hx : CxH P F W g b kk C X) (he : C.exs = none) {pn : List (Addr × Obj)} {xe : Value → Shared → Prop} (tk : Takes (X.tr pn xe) W') (ow : PassesOwn (model X.prog X.w) X.A X.env xe) : CxH P F W' g b kk C (X.tr pn xe) where
  K := hx.K
  N := hx.N
  nd := hx.nd
  sc := hx.sc
  fn := hx.fn
  io := hx.io
  calm := hx.calm
  gd := hx.gd
  un := hx.un
  own := fun _ => ow
  tk := tk
  blt := hx.blt
  gls := hx.gls
  room := hx.room
  fns := hx.fns
  gen := hx.gen
  cfs := hx.cfs
  xcl := hx.xcl
  sub := hx.sub
  xf := hx.xf
  fld := fun i l h => by rw [he] at h; cases h
  act := fun a ha pn' xe' W2 p1 p2 tk2 => hx.act a ha pn' xe' W2 p1 p2 tk2
  top := hx.top
  lam := hx.lam
theorem chkH_off {W : WX} {C : CK} {X : Cx} (hx : CxH P F W g b kk C X) : ∀ {cs : List (Nat × Option Nat)} {suites : List (List S)} {hds : List ExceptHandler}, chkH g C cs suites hds = true → ∀ q ∈ cs, ∀ i, q.2 = some i → offIo F i
  | [], _, _, _, q, hq, _, _ => nomatch hq
  | (k, none) :: cs, suites, hds, h, q, hq, i, e => by
    unfold chkH at h
    cases h
  | (k, some j) :: cs, [], hds, h, q, hq, i, e => by
    unfold chkH at h
    cases h
  | (k, some j) :: cs, suite :: suites, [], h, q, hq, i, e => by
    unfold chkH at h
    cases h
  | (k, some j) :: cs, suite :: suites, .ExceptHandler ty nm sts p :: hds, h, q, hq, i, e => by
    unfold chkH at h
    split at h
    · obtain ⟨h, q8⟩ := b2 h
      obtain ⟨h, q7⟩ := b2 h
      obtain ⟨h, q6⟩ := b2 h
      obtain ⟨h, q5⟩ := b2 h
      rcases List.mem_cons.mp hq with rfl | hq
      · cases e
        exact hx.off q5
      · exact chkH_off hx q8 q hq i e
    · cases h
mutual
theorem sndSt : ∀ (s : S) (F : FR) (C : CK) (X : Cx) (W : WX) (st : Stmt), CxH P F W g b kk C X → chkSt g C s st = true → PS X st (tS P F W g b s)
  | .set i e, F, C, X, W, st, hx, h => by
    cases st with
    | Assign Ts A p =>
      unfold chkSt at h
      split at h
      · rename_i x px
        obtain ⟨h', h3⟩ := b2 h
        obtain ⟨h1, h2⟩ := b2 h'
        obtain ⟨s1, s2, s3, s4⟩ := hx.st h1
        split at h3
        · rename_i own t src cond elt E' gs scope p2
          split at h3
          · rename_i tg iter ifs
            obtain ⟨h4, h7⟩ := b2 h3
            obtain ⟨h4, h6⟩ := b2 h4
            obtain ⟨h4, h5⟩ := b2 h4
            obtain ⟨h4, h8⟩ := b2 h4
            have L := mkLc (elt := elt) hx h4 (sndS src C X W tg iter hx (lcS h4)) (fun X' hx' => sndT' t (C.blk scope) X' _ tg hx' (lcT h4)) (fun X' hx' => sndC cond (C.blk scope) X' _ ifs hx' (lcC h4)) (fun X' hx' => sndE elt (C.blk scope) X' _ E' hx' (lcE h4))
            have hl := hx.lcl (of_decide_eq_true h5)
            have hk : X.env.scope.kind = .function := by rw [hx.sc]; exact of_decide_eq_true h8
            exact (ps_setLc L.calm hx.nd s1 hl (sw_true hk hl h6 (nb h7)) L.pi L.blk L.pg L.pt L.pe L.fold).weak fun D σ H h => by
              rw [ownS_snd]
              exact set_read s4 rfl L.read h
          · cases h3
        · obtain ⟨q1, q2⟩ := b2 h3
          exact s_set hx.nd s1 s2 s3 (sndE e C X W A hx q1) (nb h2) s4 (swaps_no q2)
      · cases h
    | _ => cases h
  | .unp t e, F, C, X, W, st, hx, h => by
    cases st with
    | Assign Ts A p =>
      unfold chkSt at h
      split at h
      · rename_i es k tp
        obtain ⟨h, h5⟩ := b2 h
        obtain ⟨h, h4⟩ := b2 h
        obtain ⟨h, h3⟩ := b2 h
        obtain ⟨h1, h2⟩ := b2 h
        have hw : swappedStores [.Tuple es k tp] A X.env = pure none := by
          rcases Bool.or_eq_true_iff.mp h5 with q | q
          · exact stores_no q
          · split at q
            · exact stores_fold q
            · cases q
        exact s_unp (sndE e C X W A hx h3) (sndT' t C X W _ hx h2) (nb h4) sole_tup hw rfl
      · cases h
    | _ => cases h
  | .par is es, F, C, X, W, st, hx, h => by
    cases st with
    | Assign Ts A p =>
      unfold chkSt at h
      split at h
      · rename_i i j e1 e2 x px y py k pt a c k2 pt2
        obtain ⟨h, q14⟩ := b2 h
        obtain ⟨h, q13⟩ := b2 h
        obtain ⟨h, q12⟩ := b2 h
        obtain ⟨h, q11⟩ := b2 h
        obtain ⟨h, q10⟩ := b2 h
        obtain ⟨h, q9⟩ := b2 h
        obtain ⟨h, q8⟩ := b2 h
        obtain ⟨h, q7⟩ := b2 h
        obtain ⟨h, q6⟩ := b2 h
        obtain ⟨h, q5⟩ := b2 h
        obtain ⟨h, q4⟩ := b2 h
        obtain ⟨h, q3⟩ := b2 h
        obtain ⟨q1, q2⟩ := b2 h
        obtain ⟨s1, s2, s3, s4⟩ := hx.st q2
        obtain ⟨t1, t2, t3, t4⟩ := hx.st q3
        have hk : X.env.scope.kind = .function := by rw [hx.sc]; exact of_decide_eq_true q4
        have hlx := hx.lcl (of_decide_eq_true q5)
        have hly := hx.lcl (of_decide_eq_true q6)
        have hbk : X.env.blockKind = .function := by
          unfold Env.blockKind
          rw [hk]; rfl
        have ⟨r1, r2⟩ : plainA a = true ∧ plainA c = true := by
          unfold chkA at q12
          obtain ⟨z, z4⟩ := b2 q12
          obtain ⟨z, z3⟩ := b2 z
          obtain ⟨z1, z2⟩ := b2 z
          unfold chkA at z4
          obtain ⟨z, _⟩ := b2 z4
          obtain ⟨z, _⟩ := b2 z
          exact ⟨z1, (b2 z).1⟩
        exact (ps_par (hx.calm q1) hx.nd s1 t1 (of_decide_eq_true q7) hlx hly (sndA [e1, e2] C X W [a, c] hx q12) (stores_par hbk r1 r2 hlx hly (of_decide_eq_true q9) (of_decide_eq_true q8) (nb q13) (nb q14)) sole_tup).weak fun D σ H h => par_read s4 t4 (nb q10) (nb q11) h
      · cases h
    | _ => cases h
  | .put c k e, F, C, X, W, st, hx, h => by
    cases st with
    | Assign Ts V p =>
      unfold chkSt at h
      split at h
      · rename_i A K p2
        obtain ⟨h, q8⟩ := b2 h
        obtain ⟨h, q7⟩ := b2 h
        obtain ⟨h, q6⟩ := b2 h
        obtain ⟨h, q5⟩ := b2 h
        obtain ⟨h, q4⟩ := b2 h
        obtain ⟨h, q3⟩ := b2 h
        obtain ⟨q1, q2⟩ := b2 h
        exact s_put (p2 := p2) (by have := hx.un; omega) (sndE e C X W V hx q1) (sndE c C X W A hx q2) (sndE k C X W K hx q3) (nb q4) q5 q6 q7 (asg_plain q8) sole_sub stores_sub
      · cases h
    | _ => cases h
  | .app i e, F, C, X, W, st, hx, h => by
    cases st with
    | Expr A p =>
      unfold chkSt at h
      split at h
      · rename_i x p1 m p2 A1 p3
        obtain ⟨h, q6⟩ := b2 h
        obtain ⟨h, q5⟩ := b2 h
        obtain ⟨h, q4⟩ := b2 h
        obtain ⟨h, q3⟩ := b2 h
        obtain ⟨q1, q2⟩ := b2 h
        have := of_decide_eq_true q2
        subst this
        obtain ⟨n1, n2, n3, n4⟩ := hx.nm q1
        exact s_app hx.K n1 n2 n3 n4 (sndE e C X W A1 hx q3) (nb q4) q5 q6
      · cases h
    | _ => cases h
  | .aug i o e, F, C, X, W, st, hx, h => by
    cases st with
    | AugAssign T op A p =>
      unfold chkSt at h
      split at h
      · obtain ⟨h, q3⟩ := b2 h
        obtain ⟨q1, q2⟩ := b2 h
        obtain ⟨s1, s2, s3, s4⟩ := hx.st q1
        exact s_aug hx.nd s1 s2 s3 (sndE e C X W A hx q2) q3 s4 (ip_of ip_add fun _ _ => rfl)
      · obtain ⟨h, q3⟩ := b2 h
        obtain ⟨q1, q2⟩ := b2 h
        obtain ⟨s1, s2, s3, s4⟩ := hx.st q1
        exact s_aug hx.nd s1 s2 s3 (sndE e C X W A hx q2) q3 s4 (ip_of ip_sub fun _ _ => rfl)
      · cases h
    | _ => cases h
  | .expr e, F, C, X, W, st, hx, h => by
    cases st with
    | Expr A p =>
      unfold chkSt at h
      obtain ⟨q1, q2⟩ := b2 h
      exact s_expr (sndE e C X W A hx q1) (swaps_no q2)
    | _ => cases h
  | .ifs t x y, F, C, X, W, st, hx, h => by
    cases st with
    | If T A B p =>
      unfold chkSt at h
      obtain ⟨h, q4⟩ := b2 h
      obtain ⟨h, q3⟩ := b2 h
      obtain ⟨q1, q2⟩ := b2 h
      exact s_ifs (sndT t C X W T hx q1 q2) (sndSs x F C X W A hx q3) (sndSs y F C X W B hx q4)
    | _ => cases h
  | .fors t src body, F, C, X, W, st, hx, h => by
    cases st with
    | For tg iter B El p =>
      unfold chkSt at h
      split at h
      · obtain ⟨h, q6⟩ := b2 h
        obtain ⟨h, q5⟩ := b2 h
        obtain ⟨h, q4⟩ := b2 h
        obtain ⟨h, q3⟩ := b2 h
        obtain ⟨q1, q2⟩ := b2 h
        exact s_fors (hx.own q2) (hx.calm q1) (sndS src C X W tg iter hx q3) (sndT' t C X W tg hx q4) (sndSs body F C X W B hx q5) (foldI q6)
      · cases h
    | _ => cases h
  | .while t body, F, C, X, W, st, hx, h => by
    cases st with
    | While T B El p =>
      unfold chkSt at h
      split at h
      · obtain ⟨h, q4⟩ := b2 h
        obtain ⟨h, q3⟩ := b2 h
        obtain ⟨q1, q2⟩ := b2 h
        exact s_while (hx.own q1) (sndT t C X W T hx q2 q3) (sndSs body F C X W B hx q4)
      · cases h
    | _ => cases h
  | .ret e, F, C, X, W, st, hx, h => by
    cases st with
    | Return A p =>
      cases A with
      | none => cases h
      | some A =>
        unfold chkSt at h
        obtain ⟨q1, q2⟩ := b2 h
        exact s_ret (sndE e C X W A hx q1) (nb q2)
    | _ => cases h
  | .retN, F, C, X, W, st, hx, h => by
    cases st with
    | Return A p =>
      cases A with
      | none => exact s_retN
      | some A => cases h
    | _ => cases h
  | .pass, F, C, X, W, st, hx, h => by
    cases st with
    | Pass p => exact s_pass
    | _ => cases h
  | .brk, F, C, X, W, st, hx, h => by
    cases st with
    | Break p => exact s_brk
    | _ => cases h
  | .cont, F, C, X, W, st, hx, h => by
    cases st with
    | Continue p => exact s_cont
    | _ => cases h
  | .never, F, C, X, W, st, hx, h => ⟨fun pins s σ H En I ⟨sl, own, sim, h⟩ => h.elim⟩
  | .raise c es, F, C, X, W, st, hx, h => by
    cases st with
    | Raise ex cause p =>
      unfold chkSt at h
      split at h
      · rename_i e fn As kws p2 nm f hxc
        split at h
        · rename_i x px A
          obtain ⟨h, q7⟩ := b2 h
          obtain ⟨h, q6⟩ := b2 h
          obtain ⟨h, q5⟩ := b2 h
          obtain ⟨h, q4⟩ := b2 h
          obtain ⟨h, q3⟩ := b2 h
          obtain ⟨q1, q2⟩ := b2 h
          have ex := of_decide_eq_true q3
          subst ex
          obtain ⟨hmg, hex⟩ := hx.xcl c _ _ hxc
          exact s_raise (hx.calm q1) hx.tk (hex f rfl) (by rw [hx.cfs]; exact of_decide_eq_true q7) (hx.room q1) (hx.gl q2).1 hmg (sndE e C X W A hx q4) (nb q5) (hx.gl q2).2 q6
        · cases h
      · cases h
    | _ => cases h
  | .try body cs suites, F, C, X, W, st, hx, h => by
    cases st with
    | Try Bs hds orelse fin p =>
      unfold chkSt at h
      split at h
      · rename_i h0 hds
        obtain ⟨h, q6⟩ := b2 h
        obtain ⟨h, q5⟩ := b2 h
        obtain ⟨h, q4⟩ := b2 h
        obtain ⟨h, q3⟩ := b2 h
        obtain ⟨q1, q2⟩ := b2 h
        obtain ⟨hs, hf⟩ := hx.top q2
        have he : C.exs = none := by simpa using q3
        refine (ps_try_asM hs hf hx.nd hx.tk (fun W' pn xe tk ow => sndSs body F C (X.tr pn xe) W' Bs (hx.tr he tk ow) q4) (sndH suites cs F C X W (h0 :: hds) hx q6)).weak fun En σ H ⟨sl, own, sim, h⟩ => ⟨sl, own, sim, ?_⟩
        have h : ResS P F W H own En (match exs g b body sl with
          | .exc c fs sl1 => exH g b c fs sl1 cs suites
          | r => r) := h
        cases m : exs g b body sl with
        | ok p =>
          rw [m] at h
          obtain ⟨fl, s2⟩ := p
          cases fl <;> exact h
        | bad => rw [m] at h; exact h
        | exc c fs sl1 =>
          rw [m] at h
          exact fun σ' H' own' dd x xr => try_catch (fun c k r e => (hx.sub c k r e).1) q5 (chkH_off hx q6) h σ' H' own' dd x xr
      · cases h
    | _ => cases h
  | .frz _, F, C, X, W, st, hx, h => by cases st <;> cases h
  | .del _, F, C, X, W, st, hx, h => by cases st <;> cases h
theorem sndH : ∀ (suites : List (List S)) (cs : List (Nat × Option Nat)) (F : FR) (C : CK) (X : Cx) (W : WX) (hds : List ExceptHandler), CxH P F W g b kk C X → chkH g C cs suites hds = true → HdsAs X hds (clsOf P F g b cs suites)
  | [], cs, F, C, X, W, hds, hx, h => by
    cases cs with
    | nil =>
      cases hds with
      | nil => exact .nil
      | cons a l => unfold chkH at h; cases h
    | cons q cs =>
      obtain ⟨k, i⟩ := q
      unfold chkH at h
      cases i <;> cases h
  | suite :: suites, cs, F, C, X, W, hds, hx, h => by
    cases cs with
    | nil => unfold chkH at h; cases h
    | cons q cs =>
      obtain ⟨k, i⟩ := q
      cases i with
      | none => unfold chkH at h; cases h
      | some i =>
        cases hds with
        | nil => unfold chkH at h; cases h
        | cons hd hds =>
          obtain ⟨ty, nm, sts, p⟩ := hd
          unfold chkH at h
          split at h
          · rename_i x px n b0 rest
            obtain ⟨h, q8⟩ := b2 h
            obtain ⟨h, q7⟩ := b2 h
            obtain ⟨h, q6⟩ := b2 h
            obtain ⟨h, q5⟩ := b2 h
            obtain ⟨h, q4⟩ := b2 h
            obtain ⟨h, q3⟩ := b2 h
            obtain ⟨q1, q2⟩ := b2 h
            have hmg : X.mg x = some (.ref (P.cad k)) := by
              split at q1
              · rename_i y f hxc
                have := of_decide_eq_true q1
                subst this
                exact (hx.xcl k _ _ hxc).1
              · cases q1
            refine .cons ⟨(hx.gl q2).1, (hx.gl q2).2, .inl hmg⟩ (by rw [hx.N]; exact of_decide_eq_true q3) (hx.lcl (of_decide_eq_true q4)) (fun a oe cls d pn hz hf => ⟨fun pins s σ H En I ⟨c, dd, e1, e2, e3, hh⟩ => ?_⟩) (sndH suites cs F C X W hds hx q8)
            subst e1
            subst e2
            have hall : ∀ f ∈ g.cfs k, f ∈ g.cfs c := fun f hf => by
              have := List.all_eq_true.mp q6 c (List.mem_range.mpr (hx.sub c k true e3).2)
              rw [e3] at this
              simpa using List.all_eq_true.mp this f hf
            exact (sndSs suite (F.sui i a dd) (C.sui i (g.cfs k)) (X.suite a ((a, oe) :: pn)) _ (b0 :: rest) (hx.sui hz hf hall) q7).run pins s σ H En I hh
          · cases h
theorem sndSs : ∀ (ss : List S) (F : FR) (C : CK) (X : Cx) (W : WX) (sts : List Stmt), CxH P F W g b kk C X → chkSs g C ss sts = true → PSs X sts (tSs P F W g b ss)
  | [], F, C, X, W, sts, hx, h => by
    cases sts with
    | nil => exact ss_nil
    | cons st sts => cases h
  | s :: ss, F, C, X, W, sts, hx, h => by
    by_cases q : (∃ i, s = .frz i) ∨ ∃ i, s = .del i
    · rcases q with ⟨i, rfl⟩ | ⟨i, rfl⟩
      · obtain ⟨h1, h2⟩ := chkSs_frz h
        exact s_frzS (hx.off h1) (sndSs ss F C X W sts hx h2)
      · exact s_delS (sndSs ss F C X W sts hx (chkSs_del h))
    · cases sts with
      | nil => cases s <;> first | (cases h; done) | exact absurd (.inl ⟨_, rfl⟩) q | exact absurd (.inr ⟨_, rfl⟩) q
      | cons st sts =>
        have h' : (chkSt g C s st && chkSs g C ss sts) = true := by
          cases s <;> first | exact h | exact absurd (.inl ⟨_, rfl⟩) q | exact absurd (.inr ⟨_, rfl⟩) q
        obtain ⟨h1, h2⟩ := b2 h'
        exact ss_cons (sndSt s F C X W st hx h1) (sndSs ss F C X W sts hx h2)
end
end
end Q

set_option Elab.async false
set_option linter.all false
set_option maxRecDepth 100000
set_option maxHeartbeats 4000000
/-! W22: a checked body keeps its promise; the levels. -/
namespace Q
open Snd
open PySem PySem.Spec PyProof.Rows L2

section
variable {P : RP} {g : G} {b : Below} {H : Hp}
theorem slR_start {n : Nat} : ∀ {ds : List D} {vs : List V} {as : List Addr}, Reps P H ds vs as → SlR P H (ds.map some ++ List.replicate n none) (vs.map some ++ List.replicate n none) as
  | _, _, _, .nil => by
    induction n with
    | zero => exact .nil
    | succ n ih => exact .no rfl ih
  | _, _, _, .cons h r => .yes h (slR_start r)
theorem start_xc {n i c : Nat} {fs : List D} : ∀ {ds : List D} {vs : List V} {as : List Addr} {i : Nat}, Reps P H ds vs as → getX i (ds.map some ++ List.replicate n none) = some (.xc c fs) → False
  | _, _, _, i, .nil, e => by
    simp only [List.map_nil, List.nil_append, getX] at e
    cases q : (List.replicate n (none : Option D))[i]? with
    | none => rw [q] at e; cases e
    | some x =>
      have := List.mem_of_getElem? q
      rw [(List.mem_replicate.mp this).2] at q
      rw [q] at e; cases e
  | _, _, _, 0, .cons h r, e => by
    have e := (show some _ = some (D.xc c fs) by simpa [getX] using e)
    rw [Option.some.inj e] at h
    exact h.noxc
  | _, _, _, i + 1, .cons h r, e => start_xc (i := i) r (by simpa [getX] using e)
/-- the frame of a call -/
def frF (io : Option Nat) (vs : List V) : FR := ⟨match io with | none => [] | some j => match vs[j]? with | some v => [(j, v)] | none => [], fun _ => none, []⟩
theorem sim_start {io : Option Nat} {ns np : Nat} {ds : List D} {vs : List V} {as : List Addr} {N : List Str} (r : Reps P H ds vs as) (nd : as.Nodup) (tb : LamX.Tabs P.T H) (hns : ns = N.length) : Sim P (frF io vs) (startS ns (ds.map some)) (L2.start N vs) H as := by
  subst hns
  have hl := r.length
  have e : startS N.length (ds.map some) = ds.map some ++ List.replicate (N.length - vs.length) none := by
    unfold startS
    rw [List.length_map, hl]
  refine ⟨?_, nd, tb, fun p hp => ?_, .none, fun i c fs z => ?_⟩
  · rw [e]; exact slR_start r
  · unfold frF at hp
    cases io with
    | none => exact nomatch hp
    | some j =>
      simp only at hp
      cases q : vs[j]? with
      | none => rw [q] at hp; exact nomatch hp
      | some v =>
        rw [q] at hp
        have := List.mem_singleton.mp hp
        subst this
        unfold L2.start
        have hj : j < vs.length := (List.getElem?_eq_some_iff.mp q).1
        rw [List.getElem?_append_left (by simpa using hj), List.getElem?_map, q]
        rfl
  · rw [e] at z
    exact (start_xc (i := i) r z).elim
theorem endCR_none {sl : Sl} {k : Option D → CR} : endCR none sl k = k none := rfl
/-- the shared argument at the end -/
theorem io_end {io : Option Nat} {vs : List V} {sl' : Sl} {σ' : L2.St} {H' : Hp} {own' : List Addr} {k : Option D → CR} {Z : CR → Prop} (hb : Z .bad → False) (sim : Sim P (frF io vs) sl' σ' H' own') (hj : ∀ j, io = some j → j < vs.length) (h : Z (endCR io sl' k)) :
    ∃ iod asI, Z (k iod) ∧ IoR P H' io vs iod asI ∧ List.Sublist asI own' := by
  cases io with
  | none => exact ⟨none, [], h, rfl, List.nil_sublist _⟩
  | some j =>
    cases m : get j sl' with
    | none =>
      unfold endCR at h
      simp only [m] at h
      exact (hb h).elim
    | some d =>
      unfold endCR at h
      simp only [m] at h
      obtain ⟨v, as, pre, post, h1, h2, h3, _⟩ := sim.r.at m
      have hv : vs[j]? = some v := by
        have hl := hj j rfl
        have := sim.io (j, vs[j]) (by unfold frF; simp [List.getElem?_eq_getElem hl])
        rw [h1] at this
        rw [List.getElem?_eq_getElem hl]
        exact (Option.some.inj (Option.some.inj this)).symm ▸ rfl
      refine ⟨some d, as, h, ⟨v, hv, h2⟩, ?_⟩
      rw [h3, List.append_assoc]
      exact (List.sublist_append_left _ _).trans (List.sublist_append_right _ _)
theorem body_end {io : Option Nat} {vs : List V} {as : List Addr} {Q : VK} {E : XK} {m : R (Fl × Sl)} (hj : ∀ j, io = some j → j < vs.length) (h : CRes P io vs as H (bodyEnd io m) Q E) :
    ResS P (frF io vs) (fun cls d _ H' => E cls d H') H as { nx := fun _ H' => Q .non H', rt := Q } m := by
  cases m with
  | ok p =>
    obtain ⟨fl, sl⟩ := p
    cases fl with
    | nx =>
      intro σ' H' own' x
      obtain ⟨iod, asI, z, ir, sub⟩ := io_end (Z := fun r => CRes P io vs as H r Q E) id x.sim hj h
      exact z .non H' [] asI ⟨.non, ir, by simpa using x.sim.nd.sublist sub, x.step.less fun a ha => sub.subset (by simpa using ha), x.sim.tabs⟩
    | ret d =>
      intro σ' H' own' v asR x r n k
      obtain ⟨iod, asI, z, ir, sub⟩ := io_end (Z := fun r => CRes P io vs as H r Q E) id x.sim hj h
      exact z v H' asR asI ⟨r, ir, n.sublist (List.Sublist.append_left sub _), ⟨x.step.keep, x.step.tbl, fun a ha => (List.mem_append.mp ha).elim (k a) fun ha => x.step.new a (sub.subset ha)⟩, x.sim.tabs⟩
    | brk => exact h.elim
    | cont => exact h.elim
  | exc c fs sl =>
    intro σ' H' own' dd x xr
    obtain ⟨iod, asI, z, ir, sub⟩ := io_end (Z := fun r => CRes P io vs as H r Q E) id x.sim hj h
    exact z H' dd asI ⟨xr, ir, x.sim.nd.sublist sub, x.step.less fun a ha => sub.subset ha, x.sim.tabs⟩
  | bad => exact h

theorem body_end0 {F : FR} {vs : List V} {as : List Addr} {Q : VK} {E : XK} {m : R (Fl × Sl)} (h : CRes P none vs as H (bodyEnd none m) Q E) : ResS P F (fun cls d _ H' => E cls d H') H as { nx := fun _ H' => Q .non H', rt := Q } m := by
  cases m with
  | ok p =>
    obtain ⟨fl, sl⟩ := p
    cases fl with
    | nx => exact fun σ' H' own' x => h .non H' [] [] ⟨.non, rfl, List.nodup_nil, x.step.less fun a ha => (by simp at ha), x.sim.tabs⟩
    | ret d => exact fun σ' H' own' v asR x r n k => h v H' asR [] ⟨r, rfl, by simpa using (List.nodup_append.mp n).1, ⟨x.step.keep, x.step.tbl, fun a ha => k a (by simpa using ha)⟩, x.sim.tabs⟩
    | brk => exact h.elim
    | cont => exact h.elim
  | exc c fs sl => exact fun σ' H' own' dd x xr => h H' dd [] ⟨xr, rfl, List.nodup_nil, x.step.less fun a ha => (nomatch ha), x.sim.tabs⟩
  | bad => exact h
/-- a def called with a lambda -/
def callLF2 (g : G) (b : Below) (f : Nat) (ac : CR) : CR := match g.fns f with
  | none => .bad
  | some F => if F.io = none ∧ F.lmb = true then bodyEnd F.io (exs g { b with act := ac } F.body (startS F.ns [none])) else .bad
theorem callLF_eq {f : Nat} {a : (Nat → List D → CR) → CR} : callLF g b f a = callLF2 g b f (a b.call) := rfl
/-- what a body is checked in -/
structure Mdl where
  fnm : Nat → Str
  gls : List (Str × Int)
  xcl : Nat → Option (Str × Option Str)
  ncl : Nat
def ckOf (M : Mdl) (N : List Str) (sc : Scope) (io : Option Nat) (act : Option Str) (gen lam : Bool) : CK := ⟨N, sc, fun _ => true, io.toList, true, true, M.fnm, M.gls, act, gen, lam, true, none, M.xcl, M.ncl⟩
/-- the module's facts -/
structure MdlOk (P : RP) (g : G) (prog : Program) (K : PySem.W.Frag) (mg : Str → Option Value) (M : Mdl) : Prop where
  hK : P.K = K
  blt : ∀ x ∈ bltNames, mg x = none
  gls : ∀ x i, M.gls.lookup x = some i → ∃ t, mg x = some (.int i t)
  cfs : P.cfs = g.cfs
  xcl : ∀ c nm f, M.xcl c = some (nm, f) → mg nm = some (.ref (P.cad c)) ∧ ∀ f', f = some f' → ExcOk prog K mg (P.cad c) f'
  sub : ∀ c k r, g.sub c k = some r → PySem.W.exmOne K (.ref (P.cad c)) (.ref (P.cad k)) = some r ∧ c < M.ncl
  xf : ∀ c f, f ∈ g.cfs c → XfC K (P.cad c) ∧ PySem.W.findIn K (.ref (P.cad c)) f = some none
/-- the code object's table -/
def GenOk (P : RP) (base : Heap) (mg : Str → Option Value) (cdv : Value) (q : Str) : Prop := ∃ c Pt, LamX.TabB base mg c Pt ∧ cdv = .ref c ∧ (Pt, q) ∈ P.T ∧ ∀ p ∈ P.T, p.1 = Pt → p.2 = q
/-- the def's object, its text -/
structure DefO (K : PySem.W.Frag) (fad : Addr) (qual : Str) (body : List Stmt) (scope : Scope) (cdv : Value) (N ps : List Str) : Prop where
  it : ∃ (oc : Value) (od : Option Addr) (osl : Array (Option Value)) (name : Str) (params : Arguments) (dV kV doc pm ct : Value) (an : Option Addr),
    K.lookup fad = some ⟨oc, od, .func (PySem.W.fnOf name qual params body scope dV kV doc pm an cdv ct), osl⟩ ∧ Binds K (PySem.W.fnOf name qual params body scope dV kV doc pm an cdv ct) ps []
  cd : PySem.W.codeIn K cdv qual = true
  S : FnScope N ps scope
structure DefOk (P : RP) (g : G) (K : PySem.W.Frag) (base : Heap) (mg : Str → Option Value) (M : Mdl) (Fd : Fn) (fad : Addr) : Prop where
  it : ∃ (qual : Str) (body : List Stmt) (scope : Scope) (cdv : Value) (N ps : List Str) (gen lam : Bool), Fd.lmb = false ∧ DefO K fad qual body scope cdv N ps ∧ ps.length = Fd.np ∧ N.length = Fd.ns ∧ (∀ j, Fd.io = some j → j < Fd.np) ∧ chkSs g (ckOf M N scope Fd.io none gen lam) Fd.body body = true ∧
    (gen = true → GenOk P base mg cdv ((envOfC qual scope 0 fad cdv).qual ++ "<genexpr>")) ∧ (lam = true → GenOk P base mg cdv ((envOfC qual scope 0 fad cdv).qual ++ "<lambda>"))
/-- .. of one that gets a lambda -/
structure DefOkL (P : RP) (g : G) (K : PySem.W.Frag) (M : Mdl) (Fd : Fn) (fad : Addr) : Prop where
  it : ∃ (qual : Str) (body : List Stmt) (scope : Scope) (cdv : Value) (N : List Str) (a : Str), Fd.lmb = true ∧ DefO K fad qual body scope cdv N [a] ∧ N.length = Fd.ns ∧ N[0]? = some a ∧ Vis scope a ∧ (a == ("__debug__" : Str)) = false ∧ (a == ("__classdict__" : Str)) = false ∧
    chkSs g (ckOf M N scope (some 0) (some a) false false) Fd.body body = true
section
variable {prog : Program} {w : World} {K : PySem.W.Frag} {mg : Str → Option Value} {base : Heap} {M : Mdl} {kk : Nat}
theorem cxH0 {N : List Str} {qual : Str} {scope : Scope} {fad : Addr} {cdv : Value} {A : Around} {outer : List Env} {s : Shared} {H : Hp} {E : XK} {io : Option Nat} {F : FR} {gen : Bool} {act : Option Str}
    (mo : MdlOk P g prog K mg M) (nd : N.Nodup) (hF : ∀ p ∈ F.io, p.1 ∈ io.toList) (hgd : A.guards = some []) (room : Room (kk + 1) (A.deeper (envOfC qual scope s.heap.objs.size fad cdv))) (hgen : gen = true → GenOk P base mg cdv ((envOfC qual scope 0 fad cdv).qual ++ "<genexpr>"))
    (fns : ∀ f Fd, g.fns f = some Fd → ∃ fad, mg (M.fnm f) = some (.ref fad) ∧ PySem.W.keepIn K (.ref fad) = true ∧ FnG P prog w K mg base kk fad Fd.io (b.call f))
    (hact : ∀ a, act = some a → ∀ (pn : List (Addr × Obj)) (xe : Value → Shared → Prop) (W' : WX) (p1 p2 : Pos), Takes ((cxOf (L2.CX prog w) prog w K mg base N qual scope fad cdv A outer s H E).tr pn xe) W' → PE ((cxOf (L2.CX prog w) prog w K mg base N qual scope fad cdv A outer s H E).tr pn xe) (.Call (.Name a p1) [] [] p2) (tE P F W' g b .act)) :
    CxH P F (fun cls d _ H' => E cls d H') g b kk (ckOf M N scope io act gen false) (cxOf (L2.CX prog w) prog w K mg base N qual scope fad cdv A outer s H E) where
  K := mo.hK.symm
  N := rfl
  nd := nd
  sc := rfl
  fn := fun _ _ => rfl
  io := hF
  calm := fun _ => rfl
  gd := by
    show (A.deeper _).guards = some []
    rw [← hgd]
    rfl
  un := by have := room.un; show (A.deeper _).units + 70 < cLine; omega
  own := fun _ => passes_of rfl
  tk := takes_of rfl rfl rfl rfl
  blt := mo.blt
  gls := mo.gls
  room := fun _ => room.mono (Nat.le_succ _)
  fns := fns
  gen := fun h => ⟨room, hgen h⟩
  cfs := mo.cfs
  xcl := mo.xcl
  sub := mo.sub
  xf := mo.xf
  fld := fun _ _ h => nomatch h
  act := hact
  top := fun _ => ⟨rfl, rfl⟩
  lam := fun h => nomatch h
/-- lambdas may be made, too -/
theorem cxH1 {N : List Str} {qual : Str} {scope : Scope} {fad : Addr} {cdv : Value} {A : Around} {outer : List Env} {s : Shared} {H : Hp} {E : XK} {io : Option Nat} {F : FR} {gen lam : Bool} {calls : Nat → List D → CR} {kl : Nat}
    (hx : CxH P F (fun cls d _ H' => E cls d H') g b kk (ckOf M N scope io none gen false) (cxOf (L2.CX prog w) prog w K mg base N qual scope fad cdv A outer s H E)) (room : Room (kk + 1) (A.deeper (envOfC qual scope s.heap.objs.size fad cdv))) (hlam : lam = true → GenOk P base mg cdv ((envOfC qual scope 0 fad cdv).qual ++ "<lambda>"))
    (fnl : ∀ fi Fd, g.fns fi = some Fd → ∃ fad, mg (M.fnm fi) = some (.ref fad) ∧ PySem.W.keepIn K (.ref fad) = true ∧ ∃ spec, (∀ a, b.callL fi a = spec (a calls)) ∧ FnL P g prog w K mg base kk fad kl spec)
    (hcl : ∀ f Fd, g.fns f = some Fd → ∃ fad, mg (M.fnm f) = some (.ref fad) ∧ PySem.W.keepIn K (.ref fad) = true ∧ FnG P prog w K mg base kl fad Fd.io (calls f)) :
    CxH P F (fun cls d _ H' => E cls d H') g b kk (ckOf M N scope io none gen lam) (cxOf (L2.CX prog w) prog w K mg base N qual scope fad cdv A outer s H E) where
  K := hx.K
  N := hx.N
  nd := hx.nd
  sc := hx.sc
  fn := hx.fn
  io := hx.io
  calm := hx.calm
  gd := hx.gd
  un := hx.un
  own := hx.own
  tk := hx.tk
  blt := hx.blt
  gls := hx.gls
  room := hx.room
  fns := hx.fns
  gen := hx.gen
  cfs := hx.cfs
  xcl := hx.xcl
  sub := hx.sub
  xf := hx.xf
  fld := fun _ _ h => nomatch h
  act := fun _ h => nomatch h
  top := hx.top
  lam := fun h => ⟨room, hlam h, calls, kl, fnl, fun le scope' body hc f c' A' outer' s' H' E' rm gd => sndE le _ _ _ body (hx.lm hcl scope' f c' A' outer' s' H' E' rm gd) hc⟩
/-- a def keeps its promise -/
theorem fnG_of {f : Nat} {Fd : Fn} {fad : Addr} {calls : Nat → List D → CR} {kl : Nat} (mo : MdlOk P g prog K mg M) (hf : g.fns f = some Fd) (ok : DefOk P g K base mg M Fd fad)
    (fns : ∀ f Fd, g.fns f = some Fd → ∃ fad, mg (M.fnm f) = some (.ref fad) ∧ PySem.W.keepIn K (.ref fad) = true ∧ FnG P prog w K mg base kk fad Fd.io (b.call f))
    (fnl : ∀ fi Fd, g.fns fi = some Fd → ∃ fad, mg (M.fnm fi) = some (.ref fad) ∧ PySem.W.keepIn K (.ref fad) = true ∧ ∃ spec, (∀ a, b.callL fi a = spec (a calls)) ∧ FnL P g prog w K mg base kk fad kl spec)
    (hcl : ∀ f Fd, g.fns f = some Fd → ∃ fad, mg (M.fnm f) = some (.ref fad) ∧ PySem.W.keepIn K (.ref fad) = true ∧ FnG P prog w K mg base kl fad Fd.io (calls f)) : FnG P prog w K mg base (kk + 2) fad Fd.io (callF g b f) := by
  intro A outer s H us vs ds as Q E hr hgd e0 rv rs nd tb h
  obtain ⟨qual, body, scope, cdv, N, ps, gen, lam, hlb, ⟨⟨oc, od, osl, name, params, dV, kV, doc, pm, ct, an, lk, hb⟩, hcd, S⟩, hps, hN, hio, hchk, hgen, hlam⟩ := ok.it
  have h : CRes P Fd.io vs as H (if ds.length = Fd.np ∧ Fd.lmb = false then bodyEnd Fd.io (exs g b Fd.body (startS Fd.ns (ds.map some))) else .bad) Q E := by
    unfold callF at h
    rw [hf] at h
    exact h
  have hl : ds.length = Fd.np := by
    by_cases q : ds.length = Fd.np
    · exact q
    · rw [if_neg fun z => q z.1] at h; exact h.elim
  rw [if_pos ⟨hl, hlb⟩] at h
  have hlv : vs.length = ps.length := by rw [hps, ← hl, rs.length]
  have hlu : us.length = ps.length := by rw [← hlv]; exact (rv.length).symm
  have hB : BindsTo s (PySem.W.fnOf name qual params body scope dV kV doc pm an cdv ct) ⟨us, []⟩ (ps.zip us) := by
    have := hb s us (e0.mod.kin.keeps fun b o e => (e0.bs b o e).1) (by simpa using hlu)
    simpa using this
  refine LamX.run_ofS lk hcd S hr e0 hB rv hlv fun room => ⟨_, sndSs (b := b) Fd.body (frF Fd.io vs) (ckOf M N scope Fd.io none gen lam) _ _ body (cxH1 (cxH0 mo S.nd (fun p hp => ?_) hgd room hgen fns fun _ h => nomatch h) room hlam fnl hcl) hchk, ?_⟩
  · unfold frF at hp
    cases q : Fd.io with
    | none => rw [q] at hp; exact nomatch hp
    | some j =>
      rw [q] at hp
      simp only at hp
      cases q2 : vs[j]? with
      | none => rw [q2] at hp; exact nomatch hp
      | some v =>
        rw [q2] at hp
        have := List.mem_singleton.mp hp
        subst this
        simp
  · exact ⟨_, as, sim_start (np := 0) rs nd tb hN.symm, body_end (fun j hj => by rw [hlv, hps]; exact hio j hj) h⟩
theorem slR_nones {n : Nat} : ∀ {σ : L2.St}, σ.length = n → SlR P H (List.replicate n none) σ [] := by
  induction n with
  | zero => intro σ h; rw [List.length_eq_zero_iff.mp h]; exact .nil
  | succ n ih =>
    intro σ h
    cases σ with
    | nil => simp at h
    | cons x σ => exact .no rfl (ih (by simpa using h))
/-- a def that gets a lambda keeps its promise -/
theorem fnL_of {f : Nat} {Fd : Fn} {fad : Addr} (mo : MdlOk P g prog K mg M) (hf : g.fns f = some Fd) (ok : DefOkL P g K M Fd fad)
    (fns : ∀ f Fd, g.fns f = some Fd → ∃ fad, mg (M.fnm f) = some (.ref fad) ∧ PySem.W.keepIn K (.ref fad) = true ∧ FnG P prog w K mg base kk fad Fd.io (b.call f)) : FnL P g prog w K mg base (kk + 2) fad kk (callLF2 g b f) := by
  intro X pins σ H s lf ac Q E e1 e2 e3 e4 e5 I hr hgd tb ar h
  subst e1
  subst e2
  subst e3
  subst e4
  subst e5
  obtain ⟨qual, body, scope, cdv, N, a, hlb, ⟨⟨oc, od, osl, name, params, dV, kV, doc, pm, ct, an, lk, hb⟩, hcd, S⟩, hN, hN0, hv, hd, hcdi, hchk⟩ := ok.it
  unfold callLF2 at h
  rw [hf] at h
  simp only at h
  split at h
  case isFalse => exact h.elim
  rename_i hnp
  rw [hnp.1] at h
  have hB : BindsTo s (PySem.W.fnOf name qual params body scope dV kV doc pm an cdv ct) ⟨[.ref lf], []⟩ ([a].zip [.ref lf]) := by
    have := hb s [.ref lf] I.kIn rfl
    simpa using this
  refine LamX.run_ofS (vs := [V.ref lf]) lk hcd S hr I.env0 hB (.cons rfl .nil) rfl fun room => ⟨_, sndSs (b := { b with act := ac }) Fd.body (⟨[(0, V.ref lf)], H, []⟩) (ckOf M N scope (some 0) (some a) false false) _ _ body
    (cxH0 (kk := kk) mo S.nd (fun p hp => ?_) hgd (room.mono (Nat.le_succ _)) (fun h => nomatch h) fns fun a' ha pn xe W' p1 p2 tk => ?_) hchk, ?_⟩
  · rw [List.mem_singleton.mp hp]
    simp
  · cases ha
    exact ar.run tk (room.mono (Nat.le_succ _)) hN0 hv hd hcdi (List.mem_singleton.mpr rfl) rfl rfl
  · have hz : N.length ≥ 1 := by
      have := (List.getElem?_eq_some_iff.mp hN0).1
      omega
    have e0 : startS Fd.ns [none] = List.replicate N.length (none : Option D) := by
      unfold startS
      rw [← hN]
      show (none : Option D) :: List.replicate (N.length - 1) none = _
      rw [← List.replicate_succ]
      congr 1
      omega
    refine ⟨startS Fd.ns [none], [], ?_, body_end0 h⟩
    rw [e0]
    refine ⟨slR_nones ?_, List.nodup_nil, tb, fun p hp => ?_, ⟨fun _ _ h _ => h, fun _ ps h => ⟨ps, h⟩, fun _ z => nomatch z⟩, fun i c fs z => ?_⟩
    · unfold L2.start
      simp
      omega
    · rw [List.mem_singleton.mp hp]
      rfl
    · exfalso
      unfold getX at z
      rw [List.getElem?_replicate] at z
      split at z <;> cases z
theorem room_mono {j k : Nat} {fad : Addr} {io : Option Nat} {spec : List D → CR} (h : FnG P prog w K mg base j fad io spec) (hjk : j ≤ k) : FnG P prog w K mg base k fad io spec :=
  fun A outer s H us vs ds as Q E hr => h A outer s H us vs ds as Q E (hr.mono hjk)
/-- every def, at every level -/
theorem fns_all (mo : MdlOk P g prog K mg M) (tbl : ∀ f Fd, g.fns f = some Fd → ∃ fad, mg (M.fnm f) = some (.ref fad) ∧ PySem.W.keepIn K (.ref fad) = true ∧ (DefOk P g K base mg M Fd fad ∨ DefOkL P g K M Fd fad)) :
    ∀ n, (∀ f Fd, g.fns f = some Fd → ∃ fad, mg (M.fnm f) = some (.ref fad) ∧ PySem.W.keepIn K (.ref fad) = true ∧ FnG P prog w K mg base (2 * n) fad Fd.io ((belowN g n).call f)) ∧
      (∀ f Fd, g.fns f = some Fd → ∃ fad, mg (M.fnm f) = some (.ref fad) ∧ PySem.W.keepIn K (.ref fad) = true ∧ ∃ spec, (∀ a, (belowN g n).callL f a = spec (a (belowN g (n - 1)).call)) ∧ FnL P g prog w K mg base (2 * n) fad (2 * (n - 1)) spec)
  | 0 => ⟨fun f Fd h => by
      obtain ⟨fad, h1, h2, _⟩ := tbl f Fd h
      exact ⟨fad, h1, h2, fun A outer s H us vs ds as Q E hr hgd e0 rv rs nd tb h => h.elim⟩, fun f Fd h => by
      obtain ⟨fad, h1, h2, _⟩ := tbl f Fd h
      exact ⟨fad, h1, h2, fun _ => .bad, fun _ => rfl, fun X pins σ H s lf ac Q E _ _ _ _ _ I hr hgd tb ar h => h.elim⟩⟩
  | n + 1 => by
    obtain ⟨ih1, ih2⟩ := fns_all mo tbl n
    have ih0 := (fns_all mo tbl (n - 1)).1
    refine ⟨fun f Fd h => ?_, fun f Fd h => ?_⟩
    · obtain ⟨fad, h1, h2, h3 | h3⟩ := tbl f Fd h
      · exact ⟨fad, h1, h2, room_mono (fnG_of mo h h3 ih1 ih2 ih0) (by omega)⟩
      · refine ⟨fad, h1, h2, fun A outer s H us vs ds as Q E hr hgd e0 rv rs nd tb hc => ?_⟩
        have hc : CRes P Fd.io vs as H (callF g (belowN g n) f ds) Q E := hc
        obtain ⟨_, _, _, _, _, _, hlb, _⟩ := h3.it
        unfold callF at hc
        rw [h] at hc
        simp only [hlb, Bool.true_eq_false, and_false, if_false] at hc
        exact hc.elim
    · obtain ⟨fad, h1, h2, h3 | h3⟩ := tbl f Fd h
      · refine ⟨fad, h1, h2, callLF2 g (belowN g n) f, fun a => rfl, fun X pins σ H s lf ac Q E _ _ _ _ _ I hr hgd tb ar hc => ?_⟩
        obtain ⟨_, _, _, _, _, _, _, _, hlb, _⟩ := h3.it
        unfold callLF2 at hc
        rw [h] at hc
        simp only [hlb, Bool.false_eq_true, and_false, if_false] at hc
        exact hc.elim
      · exact ⟨fad, h1, h2, callLF2 g (belowN g n) f, fun a => rfl, fnL_of mo h h3 ih1⟩
termination_by n => n
decreasing_by all_goals omega
end
end
end Q

set_option Elab.async false
set_option linter.all false
set_option maxRecDepth 100000
set_option maxHeartbeats 4000000
/-! Y1: the end of a law, where what is around the call is known. -/
namespace Q
open Snd
open PySem PySem.Spec PyProof.Rows L2
theorem law_callQ {RPq : RP} {P : Program} {w : World} {K : PySem.W.Frag} {mg mb : Str → Option Value} {fa a : Addr} {cs : List (Addr × Addr)} {s₁ : Shared} {vs : List Value} {ns : List Int}
    (KX : K.In s₁.heap) (hns : s₁.heap.Ns mainGlobals mg) (hb : s₁.heap.Ns builtinsNs mb) (hbb : ∀ x : Str, x ≠ "__name__" → mb x = bootBuiltins x) (hlim : s₁.heap.NoLimit) (hg : s₁.gens = #[])
    (hT : ∀ p ∈ cs, s₁.heap.get? p.2 = some { cls := .none, data := .fields #[] }) (nT : ∀ p ∈ cs, K.lookup p.2 = none) (C : ∀ p ∈ cs, PySem.W.CodeHd s₁.heap p.1 p.2)
    (hbm : ∃ (bm : Addr) (ob : Obj), mg "__builtins__" = some (.ref bm) ∧ bm ≠ builtinsNs ∧ s₁.heap.get? bm = some ob ∧ ob.cls = .type "module" ∧ ob.dict = some builtinsNs ∧ ob.data = .plain)
    (ha : s₁.heap.get? a = some { cls := .type "list", data := .seq vs.toArray }) (hi : IntsAre vs ns) (hl : ns.length ≤ sizeLine) (hPK : RPq.K = K)
    (F : ∀ base : Heap, K.In base → base.Ns mainGlobals mg → (∀ p ∈ cs, LamX.TabB base mg p.1 p.2) → ∀ H : Hp, Env0 P w K mg base callerA [] s₁ H → (∀ p ∈ cs, H p.2 = some (.tbl #[])) → SqF K H a (ns.map V.int) →
      codeAny (model P w) callerA (.call (.ref fa) ⟨[.ref a], []⟩) (L2.CR (L2.CX P w) [] P w H s₁ (fun v _ => v = .bl true) fun _ _ _ => False) s₁) :
    codeAny (model P w) callerA (.call (.ref fa) ⟨[.ref a], []⟩) (fun r s' => r = .ok (.ret (.bool true)) ∧ OldK s₁.heap s'.heap ∧ s'.os = s₁.os ∧ AllBare s'.gens) s₁ := by
  have rv := vals_ints hi
  have lenV := hi.length
  have isT : ∀ b : Addr, b ∈ cs.map (·.2) → s₁.heap.get? b = some { cls := .none, data := .fields #[] } := fun b hb => by
    obtain ⟨p, hp, e⟩ := List.mem_map.mp hb
    rw [← e]
    exact hT p hp
  have aT : a ∉ cs.map (·.2) := fun z => by
    have q := isT a z
    rw [ha] at q
    have z' : Data.seq vs.toArray _ = Data.fields #[] := congrArg Obj.data (Option.some.inj q)
    cases z'
  have memT : ∀ p ∈ cs, p.2 ∈ cs.map (·.2) := fun p hp => List.mem_map.mpr ⟨p, hp, rfl⟩
  have core : ∀ H : Hp, (∀ p ∈ cs, H p.2 = some (.tbl #[])) → (∀ b, H b = none ∨ b ∈ cs.map (·.2) ∨ ∃ o xs, H b = some (.frz o (.lst xs))) → SqF K H a (ns.map V.int) → HOk P w H s₁.heap → (∀ b, H b ≠ none → b = a ∨ b ∈ cs.map (·.2)) → (H a ≠ none → K.lookup a = none) →
      codeAny (model P w) callerA (.call (.ref fa) ⟨[.ref a], []⟩) (fun r s' => r = .ok (.ret (.bool true)) ∧ OldK s₁.heap s'.heap ∧ s'.os = s₁.os ∧ AllBare s'.gens) s₁ := by
    intro H hH hO hS hok hA hK
    have base_of : ∀ {b : Addr} {o : Obj}, s₁.heap.get? b = some o → H b = none → (hidT s₁.heap H).get? b = some o := fun e n => hidT_get e n
    have noD : ∀ {b : Addr} {o : Obj}, s₁.heap.get? b = some o → (∀ vs n, o.data ≠ .seq vs n) → o.data ≠ .fields #[] → H b = none := fun {b o} e h1 h2 => by
      cases q : H b with
      | none => rfl
      | some u =>
        rcases hA b (by rw [q]; simp) with e' | e'
        · rw [e', ha] at e
          cases e
          exact (h1 _ _ rfl).elim
        · rw [isT b e'] at e
          cases e
          exact (h2 rfl).elim
    have noA : ∀ {b : Addr} {o : Obj} {es : Array DictEntry} {ep : Nat}, s₁.heap.get? b = some o → o.data = .dict es ep → H b = none := fun {b o es ep} e d => by
      refine noD e (fun vs n z => ?_) fun z => ?_
      · rw [d] at z
        cases z
      · rw [d] at z
        cases z
    have nsK : ∀ {b : Addr} {m : Str → Option Value}, s₁.heap.Ns b m → (hidT s₁.heap H).Ns b m := fun {b m} ⟨o, es, ep, e, d, r⟩ => ⟨o, es, ep, base_of e (noA e d), d, r⟩
    have hKb : K.In (hidT s₁.heap H) := fun b o e => base_of (KX b o e) (by
      cases q : H b with
      | none => rfl
      | some u =>
        rcases hA b (by rw [q]; simp) with e' | e'
        · rw [e'] at e q
          rw [hK (by rw [q]; simp)] at e
          cases e
        · obtain ⟨p, hp, ep⟩ := List.mem_map.mp e'
          rw [← ep, nT p hp] at e
          cases e)
    have hM : L2.Mod K mg (hidT s₁.heap H) := ⟨hKb, nsK hns, ⟨mb, nsK hb, hbb⟩, let ⟨mc, h1, h2⟩ := hlim; ⟨mc, nsK h1, h2⟩⟩
    have TB : ∀ p ∈ cs, LamX.TabB (hidT s₁.heap H) mg p.1 p.2 := fun p hp => by
      have hTp := hT p hp
      refine ⟨?_, ?_, fun z => ?_⟩
      · obtain ⟨o, us, file, tf, flags, tg, inF, text, tt, e1, r1, r2, r3, r4, r5, r6, r7, r8, hne⟩ := C p hp
        refine ⟨o, us, file, tf, flags, tg, inF, text, tt, base_of e1 (noD e1 (fun vs n z => ?_) fun z => ?_), r1, r2, r3, r4, r5, r6, r7, r8, hne⟩
        · rw [r2] at z
          cases z
        · rw [r2] at z
          cases z
          simp at r3
      · obtain ⟨bm, ob, b1, b2, b3, b4, b5, b6⟩ := hbm
        have nG : bm ≠ mainGlobals := fun q => by
          obtain ⟨o, es, ep, e, hd, _⟩ := hns
          rw [q, e] at b3
          cases b3
          rw [hd] at b6
          cases b6
        have nP : bm ≠ p.2 := fun q => by
          rw [q, hTp] at b3
          cases b3
          cases b6
        refine ⟨bm, ob, b1, b2, nG, nP, base_of b3 (noD b3 (fun vs n z => ?_) fun z => ?_), b4, b5, b6⟩
        · rw [b6] at z
          cases z
        · rw [b6] at z
          cases z
      · obtain ⟨o, es, ep, e, hd, _⟩ := hns
        rw [z, hTp] at e
        cases e
        cases hd
    have e0 : Env0 P w K mg (hidT s₁.heap H) callerA [] s₁ H := ⟨rfl, hM, fun b o e => of_hidT e, Nat.le_of_eq (hidT_size _ _), trivial, fun b hb => absurd (show b ∈ ([] : List Addr) from hb) (by simp), hok, .of_eq hg⟩
    refine codeAny_mono (F _ hKb (nsK hns) TB H e0 hH hS) fun r s' h => ?_
    cases r with
    | error e =>
      obtain ⟨_, _, _, _, _, _, _, _, _, _, _, _, z⟩ := h
      exact z.elim
    | ok fl =>
      cases fl with
      | next => exact False.elim h
      | brk => exact False.elim h
      | cont => exact False.elim h
      | ret u =>
        obtain ⟨v, H', os, bare, un, hok', r', q⟩ := h
        have q' : v = .bl true := q
        subst q'
        obtain rfl : u = Value.bool true := r'
        have key : ∀ b o, b ∉ cs.map (·.2) → s₁.heap.get? b = some o → s'.heap.get? b = some o := fun b o nb e => by
          cases q : H b with
          | none => exact un.keep b o e q (by intro z; exact absurd (show b ∈ ([] : List Addr) from z) (by simp)) (by simp)
          | some u =>
            rcases hO b with z | z | ⟨ob, xs, z⟩
            · rw [q] at z; cases z
            · exact absurd z nb
            · have z2 := un.frzs b ob _ z
              obtain ⟨e1, _⟩ := hok b _ z
              obtain ⟨e2, _⟩ := hok' b _ z2
              rw [e] at e1; cases e1
              exact e2
        have grown : ∀ p ∈ cs, ∃ more : Array Value, s'.heap.get? p.2 = some { cls := .none, data := .fields more } := fun p hp => by
          obtain ⟨more, z⟩ := un.tbls p.2 #[] (hH p hp)
          exact ⟨_, hok' p.2 _ z⟩
        refine ⟨rfl, ⟨fun b o e => ?_, fun b o e => ?_⟩, os, bare⟩
        · by_cases hb : b ∈ cs.map (·.2)
          · obtain ⟨p, hp, ep⟩ := List.mem_map.mp hb
            obtain ⟨more, hm⟩ := grown p hp
            rw [← ep] at e ⊢
            rw [hT p hp] at e
            cases e
            exact .inr (.inl ⟨((C p hp).tab (hT p hp)).isCodeTable, rfl, #[], more, rfl, by rw [Array.empty_append]; exact hm⟩)
          · exact .inl (key b o hb e)
        · by_cases hb : b ∈ cs.map (·.2)
          · obtain ⟨p, hp, ep⟩ := List.mem_map.mp hb
            obtain ⟨more, hm⟩ := grown p hp
            rw [← ep]
            exact ⟨_, hm⟩
          · exact ⟨o, key b o hb e⟩
  cases hk : K.lookup a with
  | some o =>
    have e := KX a o hk
    rw [ha] at e
    cases e
    refine core (fun b => if b ∈ cs.map (·.2) then some (.tbl #[]) else none) (fun p hp => if_pos (memT p hp)) (fun b => ?_) (.inr ⟨_, vs.toArray, _, hk, rfl, rfl, rfl, by rw [List.size_toArray, lenV]; exact hl, by simpa using rv⟩) (fun b u z => ?_) (fun b z => ?_) fun z => absurd (show (if a ∈ cs.map (·.2) then some (HO.tbl #[]) else none) = none from if_neg aT) z
    · by_cases hb : b ∈ cs.map (·.2)
      · exact .inr (.inl hb)
      · exact .inl (if_neg hb)
    · by_cases hb : b ∈ cs.map (·.2)
      · have z' := (if_pos hb).symm.trans z
        cases z'
        exact isT b hb
      · have z' := (if_neg hb).symm.trans z
        cases z'
    · by_cases hb : b ∈ cs.map (·.2)
      · exact .inr hb
      · exact absurd (if_neg hb) z
  | none =>
    refine core (fun b => if b = a then some (.frz { cls := .type "list", data := .seq vs.toArray } (.lst (ns.map V.int))) else if b ∈ cs.map (·.2) then some (.tbl #[]) else none) (fun p hp => (if_neg (show ¬ p.2 = a from fun z => aT (by rw [← z]; exact memT p hp))).trans (if_pos (memT p hp))) (fun b => ?_)
      (.inl ⟨{ cls := .type "list", data := .seq vs.toArray }, if_pos rfl⟩) (fun b u z => ?_) (fun b z => ?_) fun _ => hk
    · by_cases hb : b = a
      · exact .inr (.inr ⟨_, _, if_pos hb⟩)
      · by_cases hb2 : b ∈ cs.map (·.2)
        · exact .inr (.inl hb2)
        · exact .inl ((if_neg hb).trans (if_neg hb2))
    · by_cases hb : b = a
      · have z' := (if_pos hb).symm.trans z
        cases z'
        rw [hb]
        exact ⟨ha, by rw [List.length_map]; exact hl, vs, _, rv, ha⟩
      · have z1 := (if_neg hb).symm.trans z
        by_cases hb2 : b ∈ cs.map (·.2)
        · have z' := (if_pos hb2).symm.trans z1
          cases z'
          exact isT b hb2
        · have z' := (if_neg hb2).symm.trans z1
          cases z'
    · by_cases hb : b = a
      · exact .inl hb
      · by_cases hb2 : b ∈ cs.map (·.2)
        · exact .inr hb2
        · exact absurd ((if_neg hb).trans (if_neg hb2)) z
end Q

set_option Elab.async false
set_option linter.all false
set_option maxRecDepth 100000
set_option maxHeartbeats 4000000
/-! Y2: a law by its Q. -/
namespace Q
open Snd
open PySem PySem.Spec PyProof.Rows L2

theorem walk_ofQ {l : PySem.W.OpenLaw} {n : Nat} {q : Program} {loose : List Str} {XP : (Str → Option Value) → Heap → Prop} {YP : World → Heap → Prop} {d : DefRec}
    (hn : l.most = some n) (hn2 : n ≤ sizeLine) (hdf : d.params.defaults = [])
    (F : ∀ (w : World) (mg : Str → Option Value) (fa : Addr) (h : Heap), YP w h → h.Ns mainGlobals mg → mg d.name = some (.ref fa) → ∃ (K : PySem.W.Frag) (P : RP) (cs : List (Addr × Addr)), K.In h ∧ P.K = K ∧ (∀ p ∈ cs, h.get? p.2 = some { cls := .none, data := .fields #[] }) ∧ (∀ p ∈ cs, K.lookup p.2 = none) ∧ (∀ p ∈ cs, PySem.W.CodeHd h p.1 p.2) ∧
      ∀ (base : Heap) (a : Addr) (ns : List Int) (s₁ : Shared) (H : Hp), ns.length ≤ n → K.In base → base.Ns mainGlobals mg → (∀ p ∈ cs, LamX.TabB base mg p.1 p.2) → Env0 l.prog w K mg base callerA [] s₁ H → (∀ p ∈ cs, H p.2 = some (.tbl #[])) → SqF K H a (ns.map V.int) →
        codeAny (model l.prog w) callerA (.call (.ref fa) ⟨[.ref a], []⟩) (L2.CR (L2.CX l.prog w) [] l.prog w H s₁ (fun v _ => v = .bl true) fun _ _ _ => False) s₁) :
    PySem.W.WalkO q loose XP YP l.row.toRowW d [] (fun f vs => PySem.call f vs) := by
  refine Att.attach_callB hn hdf fun w s₀ s₁ mg mb fa o pm cd doc a vs ns G Y ho hd hcd hmg hobj hints hlen hbits hg => ?_
  obtain ⟨K, P, cs, KX, hPK, hT, nT, C, hF⟩ := F w mg fa _ Y G.T.g hmg
  exact law_callQ (RPq := P) KX G.T.g G.T.b G.T.builtins G.T.nolimit hg hT nT C G.T.bmain hobj hints (Nat.le_trans hlen hn2) hPK fun base hK hns TB H e0 hH hS => hF base a ns s₁ H hlen hK hns TB e0 hH hS
theorem reps_ints {P : RP} {H : Hp} : ∀ ns : List Int, Reps P H (ns.map D.int) (ns.map V.int) []
  | [] => .nil
  | n :: ns => .fcons (.int n) (reps_ints ns)
/-- the law's call -/
theorem law_end {prog : Program} {w : World} {K : PySem.W.Frag} {mg : Str → Option Value} {base : Heap} {P : RP} {g : G} {M : Mdl} {li lv : Nat} {Fd : Fn} {fa a : Addr} {ns : List Int} {s : Shared} {H : Hp} (mo : MdlOk P g prog K mg M)
    (tbl : ∀ f Fd, g.fns f = some Fd → ∃ fad, mg (M.fnm f) = some (.ref fad) ∧ PySem.W.keepIn K (.ref fad) = true ∧ (DefOk P g K base mg M Fd fad ∨ DefOkL P g K M Fd fad)) (hl : g.fns li = some Fd) (hio : Fd.io = none) (hfa : mg (M.fnm li) = some (.ref fa))
    (hres : (belowN g lv).call li [.lst false (ns.map D.int)] = .ok (.bl true) none) (hr : Room (2 * lv) callerA) (e0 : Env0 prog w K mg base callerA [] s H) (hS : SqF K H a (ns.map V.int)) (tabs : LamX.Tabs P.T H) :
    codeAny (model prog w) callerA (.call (.ref fa) ⟨[.ref a], []⟩) (L2.CR (L2.CX prog w) [] prog w H s (fun v _ => v = .bl true) fun _ _ _ => False) s := by
  obtain ⟨fad, h1, _, Fn⟩ := (fns_all (w := w) (base := base) mo tbl lv).1 li Fd hl
  rw [hfa] at h1
  cases h1
  refine Fn callerA [] s H [.ref a] [.ref a] [.lst false (ns.map D.int)] [] _ _ hr rfl e0 (.cons rfl .nil) ?_ List.nodup_nil tabs ?_
  · exact .fcons (.lstF (by rw [mo.hK]; exact hS) (reps_ints ns)) .nil
  · rw [hio, hres]
    intro v H' asR asI cp
    have r := cp.rep
    cases r
    rfl
end Q

set_option Elab.async false
set_option linter.all false
set_option maxRecDepth 100000
set_option maxHeartbeats 4000000
/-! Y3: the module's facts by a Bool over the written part. -/
namespace Q
open Snd
open PySem PySem.Spec PySem.W PyProof.Rows L2

def clsB (K : Frag) (C : Addr) : Bool := match K.lookup C with
  | some ⟨.type "type", _, .cls cd, sl⟩ => (match cd.mro, sl.toList with
    | .ref C' :: bm, [_, _, _, _, some (.builtin n), _] => C' == C && n == "ValueError.__new__" && !cd.hasDel && cd.hasDict && HandSPX.refsVE bm
    | _, _ => false)
  | _ => false
theorem clsB_of {K : Frag} {C : Addr} (q : clsB K C = true) : ∃ nm q N bs bm sn sub ab col dd k0 k1 k2 k3 k5, K.lookup C = some (excClassObj nm q C N bs bm true sn sub ab col dd k0 k1 k2 k3 k5 "ValueError.__new__") ∧ HandSPX.refsVE bm = true := by
  unfold clsB at q
  split at q
  · rename_i dd cd sl ho
    split at q
    · rename_i C' bm k0 k1 k2 k3 n k5 hm hs
      simp only [Bool.and_eq_true, beq_iff_eq, Bool.not_eq_true'] at q
      obtain ⟨⟨⟨⟨rfl, rfl⟩, hdel⟩, hdc⟩, ht⟩ := q
      obtain ⟨nm, bs, mro, ns, qn, hd, sn, sub, ab, col, del⟩ := cd
      dsimp only at hm hdel hdc
      subst hm hdel hdc
      have hsl : sl = #[k0, k1, k2, k3, some (.builtin "ValueError.__new__"), k5] := by
        obtain ⟨l⟩ := sl
        simp only at hs
        rw [hs]
      subst hsl
      exact ⟨nm, qn, ns, bs, bm, sn, sub, ab, col, dd, k0, k1, k2, k3, k5, ho, ht⟩
    · cases q
  · cases q
def oexB (K : Frag) (C : Addr) : Bool := clsB K C && decide (findIn K (.ref C) "__setattr__" = some (some (.builtin "object.__setattr__"))) && decide (subIn K (.ref C) (.type "BaseException") = some true) && decide (typeIn K (.ref C) = some (.type "type")) && keepIn K (.ref C)
theorem oexB_of {K : Frag} {C : Addr} (h : oexB K C = true) : OexC K C := by
  unfold oexB at h
  simp only [Bool.and_eq_true, decide_eq_true_eq] at h
  obtain ⟨⟨⟨⟨h1, h2⟩, h3⟩, h4⟩, h5⟩ := h
  exact ⟨clsB_of h1, h2, h3, h4, h5⟩
def cellB (K : Frag) (cl C : Addr) : Bool := match K.lookup cl with
  | some o => (match o.data with
    | .cell (some (.ref D)) => D == C
    | _ => false)
  | none => false
def fileB (K : Frag) (cc : Addr) (file : Str) : Bool := match K.lookup cc with
  | some o => (match o.data with
    | .fields vs => (match (vs[2]? : Option Value) with
      | some (.str fl _) => file == fl
      | _ => false)
    | _ => false)
  | none => false
def scpB (sc : Scope) (v : Str) : Bool := decide (sc.kind = .function) && !sc.isCoroutine && !sc.isGenerator && sc.names.all (fun x => !decide (x.2 = .cell)) && decide (sc.names.lookup ("self" : Str) = some .local) && decide (sc.names.lookup v = some .local) &&
  decide (sc.names.lookup ("super" : Str) = some .globalImplicit) && decide (sc.names.lookup ("__class__" : Str) = some .free)
def initB (file : Str) (K : Frag) (C fI : Addr) (f : Str) : Bool := match K.lookup fI with
  | some ⟨_, _, .func fd, _⟩ => (match fd.body with
    | .stmts [.Expr (.Call (.Attribute (.Call (.Name s1 _) [] [] _) m1 p2) [.Constant (.str _) _ _] [] p4) _, .Assign [.Attribute (.Name s2 _) f1 _] (.Name v _) _] =>
      decide (s1 = ("super" : Str)) && decide (m1 = ("__init__" : Str)) && decide (s2 = ("self" : Str)) && decide (f1 = f) && (p2.endLine == p4.line) && scpB fd.scope v && !decide (v = ("self" : Str)) && !(v == ("__debug__" : Str)) && decide (fd.globals = mainGlobals) && decide (fd.builtins = builtinsNs) &&
      (match fd.closure with
        | [(n, cl)] => decide (n = ("__class__" : Str)) && cellB K cl C
        | _ => false) &&
      (match fd.code with
        | .ref cc => fileB K cc file
        | _ => false) && codeIn K fd.code fd.qualname &&
      (match fd.params with
        | ⟨[], [⟨a, none, _⟩, ⟨c, none, _⟩], none, [], [], none, []⟩ => decide (a = ("self" : Str)) && decide (c = v)
        | _ => false) &&
      (match fd.defaults with
        | .none => true
        | _ => false)
    | _ => false)
  | _ => false
theorem init_binds {fd : FuncData} {v : Str} {p1 p2 : Pos} (hp : fd.params = ⟨[], [⟨"self", none, p1⟩, ⟨v, none, p2⟩], none, [], [], none, []⟩) (hd : fd.defaults = .none) (hv : v ≠ ("self" : Str)) (a b : Value) : bindArgs fd ⟨[a, b], []⟩ = pure [(("self" : Str), a), (v, b)] := by
  obtain ⟨name, qualname, params, body, scope, globals, closure, defaults, kwdefaults, doc, pyModule, annotations, code, closureTuple, builtins⟩ := fd
  dsimp only at hp hd
  subst hp
  subst hd
  have e1 : (v == ("self" : Str)) = false := by simpa using hv
  have e2 : ((("self" : Str)) == v) = false := by simpa using Ne.symm hv
  have hs : seqItems? Value.none = pure none := rfl
  unfold bindArgs
  simp [hs, e1, e2, List.lookup]

theorem initB_of {prog : Program} {K : Frag} {C fI : Addr} {f : Str} (h : initB prog.main.file K C fI f = true) : InitOk prog K C fI f := by
  unfold initB at h
  split at h
  · rename_i oc od fd osl lk
    split at h
    · rename_i s1 p0 p1 m1 p2 msg j p3 p4 p5 s2 p6 f1 p7 v p8 p9 hbody
      obtain ⟨h, q15⟩ := b2 h
      obtain ⟨h, q14⟩ := b2 h
      obtain ⟨h, q13⟩ := b2 h
      obtain ⟨h, q12⟩ := b2 h
      obtain ⟨h, q11⟩ := b2 h
      obtain ⟨h, q10⟩ := b2 h
      obtain ⟨h, q9⟩ := b2 h
      obtain ⟨h, q8⟩ := b2 h
      obtain ⟨h, q7⟩ := b2 h
      obtain ⟨h, q6⟩ := b2 h
      obtain ⟨h, q5⟩ := b2 h
      obtain ⟨h, q4⟩ := b2 h
      obtain ⟨h, q3⟩ := b2 h
      obtain ⟨q1, q2⟩ := b2 h
      have := of_decide_eq_true q1
      subst this
      have := of_decide_eq_true q2
      subst this
      have := of_decide_eq_true q3
      subst this
      have := of_decide_eq_true q4
      subst this
      unfold scpB at q6
      simp only [Bool.and_eq_true, decide_eq_true_eq, Bool.not_eq_true', List.all_eq_true, decide_eq_false_iff_not] at q6
      obtain ⟨⟨⟨⟨⟨⟨⟨c1, c2⟩, c3⟩, c4⟩, c5⟩, c6⟩, c7⟩, c8⟩ := q6
      have hv : v ≠ ("self" : Str) := by
        have := nb q7
        exact of_decide_eq_false this
      split at q11
      · rename_i n cl hclo
        obtain ⟨d1, d2⟩ := b2 q11
        have := of_decide_eq_true d1
        subst this
        unfold cellB at d2
        split at d2
        · rename_i ocl hcl
          split at d2
          · rename_i D hD
            have eD : D = C := by simpa using d2
            subst eD
            split at q12
            · rename_i cc hcode
              unfold fileB at q12
              split at q12
              · rename_i occ hcc
                split at q12
                · rename_i vs hvs
                  split at q12
                  · rename_i fl tf hfl
                    split at q14
                    · rename_i a pa c pc hpar
                      obtain ⟨g1, g2⟩ := b2 q14
                      have ea := of_decide_eq_true g1
                      have ec := of_decide_eq_true g2
                      subst ea
                      subst ec
                      split at q15
                      · rename_i hdef
                        exact ⟨oc, od, osl, fd, cl, cc, ocl, occ, vs, fl, tf, c, msg, j, p0, p1, p2, p3, p4, p5, p6, p7, p8, p9, ⟨"self", none, pa⟩, q5, lk, hbody, c1, c2, c3, c4, c5, c6, c7, c8, hv, nb q8, of_decide_eq_true q9, of_decide_eq_true q10, hclo, hcl, hD, hcode, hcc, hvs, hfl, q12, q13, by rw [hpar]; rfl, rfl, init_binds hpar hdef hv⟩
                      · cases q15
                    · cases q14
                  · cases q12
                · cases q12
              · cases q12
            · cases q12
          · cases d2
        · cases d2
      · cases q11
    · cases h
  · cases h
/-- an own exception class of one field -/
def excB (prog : Program) (K : Frag) (C : Addr) (f : Str) : Bool := oexB K C &&
  (match findIn K (.ref C) "__init__" with
    | some (some (.ref fI)) => decide (typeIn K (.ref fI) = some (.type "function")) && initB prog.main.file K C fI f
    | _ => false) &&
  (match clsIn K C with
    | some cd => decide (alongIn K "__init__" (cd.mro.drop 1) = some (some (.builtin "ValueError.__init__")))
    | none => false) &&
  decide (nsIn K cStatics "thirdparty.any" = some none) && decide (subIn K (.ref C) (.type "ValueError") = some true) && decide (subIn K (.ref C) (.ref C) = some true) && decide (findIn K (.ref C) f = some none)
theorem excB_of {prog : Program} {K : Frag} {mg : Str → Option Value} {C : Addr} {f : Str} (h : excB prog K C f = true) (ht : (prog.main.scope.names.lookup ("super" : Str)).isSome = false) (hs : mg "super" = none) : ExcOk prog K mg C f := by
  unfold excB at h
  obtain ⟨h, q7⟩ := b2 h
  obtain ⟨h, q6⟩ := b2 h
  obtain ⟨h, q5⟩ := b2 h
  obtain ⟨h, q4⟩ := b2 h
  obtain ⟨h, q3⟩ := b2 h
  obtain ⟨q1, q2⟩ := b2 h
  refine ⟨oexB_of q1, ?_, fun cd e => ?_, of_decide_eq_true q4, of_decide_eq_true q5, of_decide_eq_true q6, of_decide_eq_true q7, ht, hs⟩
  · split at q2
    · rename_i fI e
      obtain ⟨r1, r2⟩ := b2 q2
      exact ⟨fI, e, of_decide_eq_true r1, initB_of r2⟩
    · cases q2
  · rw [e] at q3
    exact of_decide_eq_true q3
end Q

set_option Elab.async false
set_option linter.all false
set_option maxRecDepth 100000
set_option maxHeartbeats 4000000
/-! Y4: the module's facts; a def's facts. -/
namespace Q
open Snd
open PySem PySem.Spec PySem.W PyProof.Rows L2

def cadOf (K : Frag) (M : Mdl) (c : Nat) : Addr := match M.xcl c with
  | some (nm, _) => He.ga K nm
  | none => 0
def rpOf (K : Frag) (g : G) (M : Mdl) (T : List (Addr × Str)) : RP := ⟨K, cadOf K M, g.cfs, T⟩
def gloB (K : Frag) (x : Str) : Bool := decide (nsIn K mainGlobals x = some (some (.ref (He.ga K x))))
def freeB (K : Frag) (x : Str) : Bool := decide (nsIn K mainGlobals x = some none)
def intB (K : Frag) (x : Str) (i : Int) : Bool := match nsIn K mainGlobals x with
  | some (some (.int j _)) => decide (j = i)
  | _ => false
/-- a table by numbers -/
def lk {α : Type} (k : Nat) : List (Nat × α) → Option α
  | [] => none
  | (a, x) :: l => match Nat.beq k a with
    | true => some x
    | false => lk k l
theorem lk_mem {α : Type} {k : Nat} {x : α} : ∀ {l : List (Nat × α)}, lk k l = some x → (k, x) ∈ l
  | [], h => nomatch h
  | (a, y) :: l, h => by
    unfold lk at h
    split at h
    · rename_i e
      cases h
      rw [Nat.eq_of_beq_eq_true e]
      exact .head _
    · exact .tail _ (lk_mem h)
/-- all that is asked of the written part -/
def factB (prog : Program) (g : G) (M : Mdl) (fl : List Nat) (K : Frag) : Bool :=
  (fl.all fun f => gloB K (M.fnm f)) && bltNames.all (freeB K) && freeB K "super" && (M.gls.all fun q => intB K q.1 q.2) &&
  (List.range M.ncl).all fun c => match M.xcl c with
    | some (nm, f) => gloB K nm && (match f with | some f => excB prog K (He.ga K nm) f | none => true) && ((g.cfs c).all fun f => xfB K (He.ga K nm) && decide (findIn K (.ref (He.ga K nm)) f = some none)) &&
      (List.range M.ncl).all fun k => match g.sub c k with
        | some r => decide (exmOne K (.ref (He.ga K nm)) (.ref (cadOf K M k)) = some r)
        | none => true
    | none => true
theorem mdlOk_of {prog : Program} {K : Frag} {mg : Str → Option Value} {h : Heap} {g : G} {M : Mdl} {fl : List Nat} {T : List (Addr × Str)} (X : K.In h) (G : h.Ns mainGlobals mg) (hx : factB prog g M fl K = true) (ht : (prog.main.scope.names.lookup ("super" : Str)).isSome = false)
    (hsub : ∀ c k r, g.sub c k = some r → (c < M.ncl ∧ k < M.ncl) ∧ (M.xcl c).isSome = true) (hcfs : ∀ c f, f ∈ g.cfs c → c < M.ncl ∧ (M.xcl c).isSome = true) (hxcl : ∀ c q, M.xcl c = some q → c < M.ncl) : MdlOk (rpOf K g M T) g prog K mg M ∧ ∀ f, f ∈ fl → mg (M.fnm f) = some (.ref (He.ga K (M.fnm f))) := by
  unfold factB at hx
  obtain ⟨hx, q5⟩ := b2 hx
  obtain ⟨hx, q4⟩ := b2 hx
  obtain ⟨hx, q3⟩ := b2 hx
  obtain ⟨q1, q2⟩ := b2 hx
  have fr : ∀ x, freeB K x = true → mg x = none := fun x hb => PySem.W.mg_none_of X G (of_decide_eq_true hb)
  have gl : ∀ x, gloB K x = true → mg x = some (.ref (He.ga K x)) := fun x hb => PySem.W.mg_of X G (of_decide_eq_true hb)
  have cl : ∀ c nm f, M.xcl c = some (nm, f) → (gloB K nm && (match f with | some f => excB prog K (He.ga K nm) f | none => true) && ((g.cfs c).all fun f => xfB K (He.ga K nm) && decide (findIn K (.ref (He.ga K nm)) f = some none)) &&
      (List.range M.ncl).all fun k => match g.sub c k with
        | some r => decide (exmOne K (.ref (He.ga K nm)) (.ref (cadOf K M k)) = some r)
        | none => true) = true := fun c nm f e => by
    have := List.all_eq_true.mp q5 c (List.mem_range.mpr (hxcl c _ e))
    rw [e] at this
    exact this
  have cd : ∀ c nm f, M.xcl c = some (nm, f) → cadOf K M c = He.ga K nm := fun c nm f e => by unfold cadOf; rw [e]
  have some_ : ∀ c, (M.xcl c).isSome = true → ∃ nm f, M.xcl c = some (nm, f) := fun c hc => by
    cases e : M.xcl c with
    | none => rw [e] at hc; cases hc
    | some q => exact ⟨q.1, q.2, rfl⟩
  refine ⟨⟨rfl, fun x hxm => fr x (List.all_eq_true.mp q2 x hxm), fun x i e => ?_, rfl, fun c nm f e => ?_, fun c k r e => ?_, fun c f hf => ?_⟩, fun f hf => gl _ (List.all_eq_true.mp q1 f hf)⟩
  · have hm : (x, i) ∈ M.gls := PySem.mem_of_lookup e
    have := List.all_eq_true.mp q4 _ hm
    unfold intB at this
    split at this
    · rename_i j t hj
      have e2 := of_decide_eq_true this
      simp only at e2
      subst e2
      exact ⟨t, PySem.W.mg_of X G hj⟩
    · cases this
  · obtain ⟨h1, h4⟩ := b2 (cl c nm f e)
    obtain ⟨h1, h3⟩ := b2 h1
    obtain ⟨h1, h2⟩ := b2 h1
    refine ⟨(gl nm h1).trans (by show _ = some (Value.ref (cadOf K M c)); rw [cd c nm f e]), fun f' ef => ?_⟩
    subst ef
    show ExcOk prog K mg (cadOf K M c) f'
    rw [cd c nm _ e]
    exact excB_of h2 ht (fr _ q3)
  · obtain ⟨⟨hc, hk⟩, hs⟩ := hsub c k r e
    obtain ⟨nm, f, en⟩ := some_ c hs
    obtain ⟨h1, h4⟩ := b2 (cl c nm f en)
    have := List.all_eq_true.mp h4 k (List.mem_range.mpr hk)
    rw [e] at this
    refine ⟨?_, hc⟩
    show exmOne K (.ref (cadOf K M c)) (.ref (cadOf K M k)) = some r
    rw [cd c nm f en]
    exact of_decide_eq_true this
  · obtain ⟨nm, f0, en⟩ := some_ c (hcfs c f hf).2
    obtain ⟨h1, h4⟩ := b2 (cl c nm f0 en)
    obtain ⟨h1, h3⟩ := b2 h1
    obtain ⟨g1, g2⟩ := b2 (List.all_eq_true.mp h3 f hf)
    show XfC K (cadOf K M c) ∧ findIn K (.ref (cadOf K M c)) f = some none
    rw [cd c nm f0 en]
    exact ⟨xfB_ok g1, of_decide_eq_true g2⟩
/-- the table of the code object of the global def x -/
def TabAt (base : Heap) (mg : Str → Option Value) (K : Frag) (x : Str) : Prop := LamX.TabB base mg (He.cT K (x, none)).1 (He.cT K (x, none)).2
theorem genOk_of {P : RP} {base : Heap} {mg : Str → Option Value} {K : Frag} {x qual : Str} {oc : Value} {od : Option Addr} {osl : Array (Option Value)} {fd : FuncData} (lk : K.lookup (He.ga K x) = some ⟨oc, od, .func fd, osl⟩) (hcd : codeIn K fd.code qual = true) (TB : TabAt base mg K x) {q : Str}
    (hm : ((He.cT K (x, none)).2, q) ∈ P.T) (hu : ∀ p ∈ P.T, p.1 = (He.cT K (x, none)).2 → p.2 = q) : GenOk P base mg fd.code q := by
  obtain ⟨c, hc⟩ := He.codeIn_ref hcd
  have e : He.codeOf K (x, none) = c := He.codeOf_eq (p := (x, none)) lk hc
  refine ⟨c, (He.cT K (x, none)).2, ?_, hc, hm, hu⟩
  have TB : LamX.TabB base mg (He.codeOf K (x, none)) (He.cT K (x, none)).2 := TB
  rw [e] at TB
  exact TB
section
variable {P : RP} {g : G} {K : Frag} {base : Heap} {mg : Str → Option Value} {M : Mdl} {x qual : Str} {params : Arguments} {body : List Stmt} {scope : Scope} {fd : FuncData} {Fd : Fn} {N ps : List Str}
theorem defO_of (F : FunD K x qual params body scope [] [] (He.ga K x) fd) (S : FnScope N ps scope)
    (hb : ∀ (kV doc pm : Value) (an : Option Addr) (cdv ct : Value) (us : List Value), us.length = ps.length → bindArgs (PySem.W.fnOf x qual params body scope .none kV doc pm an cdv ct) ⟨us, []⟩ = pure (ps.zip us)) :
    DefO K (He.ga K x) qual body scope fd.code N ps ∧ ∃ (oc : Value) (od : Option Addr) (osl : Array (Option Value)), K.lookup (He.ga K x) = some ⟨oc, od, .func fd, osl⟩ ∧ codeIn K fd.code qual = true := by
  have B := F.bindsN hb
  obtain ⟨oc, od, dV, kV, doc, pm, an, cdv, ct, osl, rfl, lk, hcd, hD, hK⟩ := F.ex
  exact ⟨⟨⟨oc, od, osl, x, params, dV, kV, doc, pm, ct, an, lk, B⟩, hcd, S⟩, oc, od, osl, lk, hcd⟩
theorem defOk_of (F : FunD K x qual params body scope [] [] (He.ga K x) fd) (S : FnScope N ps scope)
    (hb : ∀ (kV doc pm : Value) (an : Option Addr) (cdv ct : Value) (us : List Value), us.length = ps.length → bindArgs (PySem.W.fnOf x qual params body scope .none kV doc pm an cdv ct) ⟨us, []⟩ = pure (ps.zip us))
    (hl : Fd.lmb = false) (hps : ps.length = Fd.np) (hN : N.length = Fd.ns) (hio : ∀ j, Fd.io = some j → j < Fd.np) {gen lam : Bool} (hchk : chkSs g (ckOf M N scope Fd.io none gen lam) Fd.body body = true)
    (hgen : gen = true → TabAt base mg K x ∧ ((He.cT K (x, none)).2, (envOfC qual scope 0 (He.ga K x) fd.code).qual ++ "<genexpr>") ∈ P.T ∧ ∀ p ∈ P.T, p.1 = (He.cT K (x, none)).2 → p.2 = (envOfC qual scope 0 (He.ga K x) fd.code).qual ++ "<genexpr>")
    (hlam : lam = true → TabAt base mg K x ∧ ((He.cT K (x, none)).2, (envOfC qual scope 0 (He.ga K x) fd.code).qual ++ "<lambda>") ∈ P.T ∧ ∀ p ∈ P.T, p.1 = (He.cT K (x, none)).2 → p.2 = (envOfC qual scope 0 (He.ga K x) fd.code).qual ++ "<lambda>") : DefOk P g K base mg M Fd (He.ga K x) := by
  obtain ⟨D, oc, od, osl, lk, hcd⟩ := defO_of F S hb
  exact ⟨qual, body, scope, fd.code, N, ps, gen, lam, hl, D, hps, hN, hio, hchk, fun h => by
    obtain ⟨h1, h2, h3⟩ := hgen h
    exact genOk_of lk hcd h1 h2 h3, fun h => by
    obtain ⟨h1, h2, h3⟩ := hlam h
    exact genOk_of lk hcd h1 h2 h3⟩
theorem defOkL_of {a : Str} (F : FunD K x qual params body scope [] [] (He.ga K x) fd) (S : FnScope N [a] scope)
    (hb : ∀ (kV doc pm : Value) (an : Option Addr) (cdv ct : Value) (us : List Value), us.length = [a].length → bindArgs (PySem.W.fnOf x qual params body scope .none kV doc pm an cdv ct) ⟨us, []⟩ = pure ([a].zip us))
    (hl : Fd.lmb = true) (hN : N.length = Fd.ns) (hN0 : N[0]? = some a) (hv : Vis scope a) (hd : (a == ("__debug__" : Str)) = false) (hcd : (a == ("__classdict__" : Str)) = false) (hchk : chkSs g (ckOf M N scope (some 0) (some a) false false) Fd.body body = true) : DefOkL P g K M Fd (He.ga K x) := by
  obtain ⟨D, _⟩ := defO_of F S hb
  exact ⟨qual, body, scope, fd.code, N, a, hl, D, hN, hN0, hv, hd, hcd, hchk⟩
end
end Q

set_option Elab.async false
set_option linter.all false
set_option maxRecDepth 100000
set_option maxHeartbeats 4000000
/-! Y5: a Hook that sees the statics, too. -/
namespace Q
open Snd
open PySem PySem.Spec PySem.W PyProof.Rows L2 He

def asS (g : Addr → Option Obj) (n : Nat) : List Addr := cStatics :: asD g n
def obsS (n : Nat) (fn : List DefD) (tf : List Defn) (ex : Frag → Bool) (g : Addr → Option Obj) : AlX := (obsT [] fn [] (frT g (asS g n)), ex (frT g (asS g n)) && tabsB g tf (frT g (asS g n)))
theorem saysS_of {n : Nat} {fn : List DefD} {tf : List Defn} {ex : Frag → Bool} {w : World} {h : Heap} (e : obsS n fn tf ex h.get? = valX fn [] w) : SaysX [] fn [] tf ex w h (frT h.get? (asS h.get? n)) := by
  have e1 : obsT [] fn [] (frT h.get? (asS h.get? n)) = valT fn [] w := congrArg (fun z : AlX => z.1) e
  have e2 : (ex (frT h.get? (asS h.get? n)) && tabsB h.get? tf (frT h.get? (asS h.get? n))) = true := congrArg (fun z : AlX => z.2) e
  obtain ⟨h1, h2⟩ := b2 e2
  have key : ∀ p ∈ tf, codeHdIn (frT h.get? (asS h.get? n)) (cT (frT h.get? (asS h.get? n)) p).1 (cT (frT h.get? (asS h.get? n)) p).2 = true ∧ ∃ o, h.get? (cT (frT h.get? (asS h.get? n)) p).2 = some o ∧ emptyTab o = true := fun p hp => by
    obtain ⟨h3, h4⟩ := b2 (List.all_eq_true.mp h2 p hp)
    refine ⟨h3, ?_⟩
    cases q : h.get? (cT (frT h.get? (asS h.get? n)) p).2 with
    | none =>
      rw [q] at h4
      cases h4
    | some o =>
      rw [q] at h4
      exact ⟨o, rfl, h4⟩
  exact ⟨e1, h1, fun p hp => (key p hp).1, fun p hp => by
    obtain ⟨_, o, q, z⟩ := key p hp
    exact frT_none q z, fun p hp => by
    obtain ⟨_, o, q, z⟩ := key p hp
    rw [q, emptyTab_eq z]⟩
def hookS (n : Nat) (fn : List DefD) (tf : List Defn) (ex : Frag → Bool) : Hook where
  α := AlX
  obs := fun s => obsS n fn tf ex s.heap.get?
  val := fun w => valX fn [] w
  says := fun w h => ∃ K : Frag, K.In h ∧ SaysX [] fn [] tf ex w h K
  of := fun _ _ e => ⟨_, frT_in, saysS_of e⟩
  keeps := fun _ _ _ ⟨K, hK, c⟩ k => ⟨K, Frag.In.keeps hK k, ⟨c.t, c.more, c.hd, c.out, fun p hp => k _ _ (c.empty p hp)⟩⟩
theorem obsS_eq {n : Nat} {fn : List DefD} {tf : List Defn} {ex : Frag → Bool} {g : Addr → Option Obj} {s : Shared} (h : ∀ a, g a = s.heap.get? a) : obsS n fn tf ex g = (hookS n fn tf ex).obs s := by
  have e : g = s.heap.get? := funext h
  rw [e] <;> rfl
end Q

set_option Elab.async false
set_option linter.all false
set_option maxRecDepth 100000
set_option maxHeartbeats 4000000
/-! Y6: all together, but the law's mathematics. -/
namespace Q
open Snd
open PySem PySem.Spec PySem.W PyProof.Rows L2

theorem un_of {α β : Type} : ∀ {l : List (α × β)}, (l.map (·.1)).Nodup → ∀ p ∈ l, ∀ q ∈ l, p.1 = q.1 → p.2 = q.2
  | [], _, p, hp, _, _, _ => nomatch hp
  | x :: l, h, p, hp, q, hq, e => by
    have h := List.nodup_cons.mp h
    rcases List.mem_cons.mp hp with e1 | hp'
    · rcases List.mem_cons.mp hq with e2 | hq'
      · rw [e1, e2]
      · subst e1
        exact absurd (show p.1 ∈ l.map (·.1) from by rw [e]; exact List.mem_map_of_mem hq') h.1
    · rcases List.mem_cons.mp hq with e2 | hq'
      · subst e2
        exact absurd (show q.1 ∈ l.map (·.1) from by rw [← e]; exact List.mem_map_of_mem hp') h.1
      · exact un_of h.2 p hp' q hq' e
theorem law_F {l : OpenLaw} {w : World} {mg : Str → Option Value} {fa : Addr} {h : Heap} {K : Frag} {g : G} {M : Mdl} {fl : List Nat} {n li lv : Nat} {Fd : Fn} {T : List (Addr × Str)} {fn : List He.DefD} {tf : List He.Defn} {ex : Frag → Bool} (KX : K.In h) (G : h.Ns mainGlobals mg) (c : He.SaysX [] fn [] tf ex w h K)
    (hx : factB l.prog g M fl K = true) (hnd : (T.map (·.1)).Nodup) (hT : T.map (·.1) = (tf.map (He.cT K)).map (·.2)) (ht : (l.prog.main.scope.names.lookup ("super" : Str)).isSome = false) (hsub : ∀ c k r, g.sub c k = some r → (c < M.ncl ∧ k < M.ncl) ∧ (M.xcl c).isSome = true) (hcfs : ∀ c f, f ∈ g.cfs c → c < M.ncl ∧ (M.xcl c).isSome = true) (hxcl : ∀ c q, M.xcl c = some q → c < M.ncl)
    (hfn : ∀ f Fd, g.fns f = some Fd → f ∈ fl) (hl : g.fns li = some Fd) (hio : Fd.io = none) (hfa : mg (M.fnm li) = some (.ref fa)) (hr : Room (2 * lv) callerA)
    (tbl : ∀ base : Heap, (∀ p ∈ tf.map (He.cT K), LamX.TabB base mg p.1 p.2) → (∀ p ∈ T, ∀ q ∈ T, p.1 = q.1 → p.2 = q.2) → ∀ f Fd, g.fns f = some Fd → keepIn K (.ref (He.ga K (M.fnm f))) = true ∧ (DefOk (rpOf K g M T) g K base mg M Fd (He.ga K (M.fnm f)) ∨ DefOkL (rpOf K g M T) g K M Fd (He.ga K (M.fnm f))))
    (law_true : ∀ ns : List Int, ns.length ≤ n → (belowN g lv).call li [.lst false (ns.map D.int)] = .ok (.bl true) none) :
    ∃ (K : Frag) (P : RP) (cs : List (Addr × Addr)), K.In h ∧ P.K = K ∧ (∀ p ∈ cs, h.get? p.2 = some { cls := .none, data := .fields #[] }) ∧ (∀ p ∈ cs, K.lookup p.2 = none) ∧ (∀ p ∈ cs, CodeHd h p.1 p.2) ∧
      ∀ (base : Heap) (a : Addr) (ns : List Int) (s₁ : Shared) (H : Hp), ns.length ≤ n → K.In base → base.Ns mainGlobals mg → (∀ p ∈ cs, LamX.TabB base mg p.1 p.2) → Env0 l.prog w K mg base callerA [] s₁ H → (∀ p ∈ cs, H p.2 = some (.tbl #[])) → SqF K H a (ns.map V.int) →
        codeAny (model l.prog w) callerA (.call (.ref fa) ⟨[.ref a], []⟩) (L2.CR (L2.CX l.prog w) [] l.prog w H s₁ (fun v _ => v = .bl true) fun _ _ _ => False) s₁ := by
  obtain ⟨mo, glo⟩ := mdlOk_of (T := T) KX G hx ht hsub hcfs hxcl
  refine ⟨K, rpOf K g M T, tf.map (He.cT K), KX, rfl, fun p hp => ?_, fun p hp => ?_, fun p hp => ?_, fun base a ns s₁ H hlen hK hns TB e0 hH hS => law_end mo (fun f Fd hf => ⟨_, glo f (hfn f Fd hf), tbl base TB (un_of hnd) f Fd hf⟩) hl hio hfa (law_true ns hlen) hr e0 hS fun p hp => ?_⟩
  · obtain ⟨q, hq, rfl⟩ := List.mem_map.mp hp
    exact c.empty q hq
  · obtain ⟨q, hq, rfl⟩ := List.mem_map.mp hp
    exact c.out q hq
  · obtain ⟨q, hq, rfl⟩ := List.mem_map.mp hp
    exact codeHd_of_K KX (c.hd q hq)
  · have : p.1 ∈ (tf.map (He.cT K)).map (·.2) := by
      rw [← hT]
      exact List.mem_map_of_mem hp
    obtain ⟨q, hq, e⟩ := List.mem_map.mp this
    exact LamX.TabS.nil (by rw [← e]; exact hH q hq)
end Q

set_option Elab.async false
set_option linter.all false
set_option maxRecDepth 100000
set_option maxHeartbeats 0
namespace Q
open PySem PySem.Spec PySem.W PySem.Calls PyProof.Rows L2
abbrev prog : Program := PySem.Challenge.pw_wordkinds_k00_whole_words_and_machines
def top (i : Nat) : Stmt := PySem.Challenge.pw_wordkinds_k00_whole_words_and_machines.main.body.getD i (.Pass ⟨0, 0, 0, 0⟩)
def fT : List (Nat × Fn) := [(0, F_is_whole), (1, F_is_number), (2, F_is_word), (3, F_need_word), (4, F_wrong_steps), (5, F_wrong_lets), (6, F_wrong_machine), (7, F_need_machine), (8, F_end_from), (9, F_lets_so), (10, F_end_of), (11, F_lets), (12, F__law_begin), (13, F__law_mixed), (14, F__law_draw), (15, F__law_of), (16, F__law_machine), (17, F__law_word), (18, F__law_like), (19, F__law_end), (20, F__law_lets), (21, F__law_caught), (22, F__law_odd), (23, F_law)]
def fns (f : Nat) : Option Fn := lk f fT
def cls : List Nat := [0, 1, 2]
def subs (c k : Nat) : Option Bool := if c ∈ cls ∧ k ∈ cls then some ((c == 0 && k == 0) || (c == 1 && k == 1) || (c == 1 && k == 0) || (c == 2 && k == 2) || (c == 2 && k == 0)) else none
def cfT : List (Nat × List Str) := [(0, []), (1, ["value"]), (2, ["place"])]
def cfs (c : Nat) : List Str := (lk c cfT).getD []
def g : G := ⟨fns, subs, cfs, 1000⟩
def fnT : List (Nat × Str) := [(0, "is_whole"), (1, "is_number"), (2, "is_word"), (3, "need_word"), (4, "wrong_steps"), (5, "wrong_lets"), (6, "wrong_machine"), (7, "need_machine"), (8, "end_from"), (9, "lets_so"), (10, "end_of"), (11, "lets"), (12, "_law_begin"), (13, "_law_mixed"), (14, "_law_draw"), (15, "_law_of"), (16, "_law_machine"), (17, "_law_word"), (18, "_law_like"), (19, "_law_end"), (20, "_law_lets"), (21, "_law_caught"), (22, "_law_odd"), (23, "law")]
def fnm (f : Nat) : Str := (lk f fnT).getD ""
def xcT : List (Nat × (Str × Option Str)) := [(0, ("WordError", none)), (1, ("BadWord", some "value")), (2, ("BadMachine", some "place"))]
def xcl (c : Nat) : Option (Str × Option Str) := lk c xcT
def M : Mdl := ⟨fnm, [("MOST_LETTERS", 4), ("LONGEST_WORD", 2000), ("MOST_STATES", 60)], xcl, 3⟩
def fl : List Nat := [0, 1, 2, 3, 4, 5, 6, 7, 8, 9, 10, 11, 12, 13, 14, 15, 16, 17, 18, 19, 20, 21, 22, 23]
def d_is_whole : He.DefD := ⟨("is_whole", none), "is_whole", "is_whole", defArgs (top 5), defBody (top 5), defScope (top 5), [], []⟩
def d_is_number : He.DefD := ⟨("is_number", none), "is_number", "is_number", defArgs (top 6), defBody (top 6), defScope (top 6), [], []⟩
def d_is_word : He.DefD := ⟨("is_word", none), "is_word", "is_word", defArgs (top 10), defBody (top 10), defScope (top 10), [], []⟩
def d_need_word : He.DefD := ⟨("need_word", none), "need_word", "need_word", defArgs (top 11), defBody (top 11), defScope (top 11), [], []⟩
def d_wrong_steps : He.DefD := ⟨("wrong_steps", none), "wrong_steps", "wrong_steps", defArgs (top 14), defBody (top 14), defScope (top 14), [], []⟩
def d_wrong_lets : He.DefD := ⟨("wrong_lets", none), "wrong_lets", "wrong_lets", defArgs (top 15), defBody (top 15), defScope (top 15), [], []⟩
def d_wrong_machine : He.DefD := ⟨("wrong_machine", none), "wrong_machine", "wrong_machine", defArgs (top 16), defBody (top 16), defScope (top 16), [], []⟩
def d_need_machine : He.DefD := ⟨("need_machine", none), "need_machine", "need_machine", defArgs (top 17), defBody (top 17), defScope (top 17), [], []⟩
def d_end_from : He.DefD := ⟨("end_from", none), "end_from", "end_from", defArgs (top 18), defBody (top 18), defScope (top 18), [], []⟩
def d_lets_so : He.DefD := ⟨("lets_so", none), "lets_so", "lets_so", defArgs (top 19), defBody (top 19), defScope (top 19), [], []⟩
def d_end_of : He.DefD := ⟨("end_of", none), "end_of", "end_of", defArgs (top 20), defBody (top 20), defScope (top 20), [], []⟩
def d_lets : He.DefD := ⟨("lets", none), "lets", "lets", defArgs (top 21), defBody (top 21), defScope (top 21), [], []⟩
def d__law_begin : He.DefD := ⟨("_law_begin", none), "_law_begin", "_law_begin", defArgs (top 23), defBody (top 23), defScope (top 23), [], []⟩
def d__law_mixed : He.DefD := ⟨("_law_mixed", none), "_law_mixed", "_law_mixed", defArgs (top 24), defBody (top 24), defScope (top 24), [], []⟩
def d__law_draw : He.DefD := ⟨("_law_draw", none), "_law_draw", "_law_draw", defArgs (top 25), defBody (top 25), defScope (top 25), [], []⟩
def d__law_of : He.DefD := ⟨("_law_of", none), "_law_of", "_law_of", defArgs (top 26), defBody (top 26), defScope (top 26), [], []⟩
def d__law_machine : He.DefD := ⟨("_law_machine", none), "_law_machine", "_law_machine", defArgs (top 27), defBody (top 27), defScope (top 27), [], []⟩
def d__law_word : He.DefD := ⟨("_law_word", none), "_law_word", "_law_word", defArgs (top 28), defBody (top 28), defScope (top 28), [], []⟩
def d__law_like : He.DefD := ⟨("_law_like", none), "_law_like", "_law_like", defArgs (top 29), defBody (top 29), defScope (top 29), [], []⟩
def d__law_end : He.DefD := ⟨("_law_end", none), "_law_end", "_law_end", defArgs (top 30), defBody (top 30), defScope (top 30), [], []⟩
def d__law_lets : He.DefD := ⟨("_law_lets", none), "_law_lets", "_law_lets", defArgs (top 31), defBody (top 31), defScope (top 31), [], []⟩
def d__law_caught : He.DefD := ⟨("_law_caught", none), "_law_caught", "_law_caught", defArgs (top 32), defBody (top 32), defScope (top 32), [], []⟩
def d__law_odd : He.DefD := ⟨("_law_odd", none), "_law_odd", "_law_odd", defArgs (top 33), defBody (top 33), defScope (top 33), [], []⟩
def d_law : He.DefD := ⟨("law", none), "law", "law", defArgs (top 34), defBody (top 34), defScope (top 34), [], []⟩
def fn : List He.DefD := ([d_is_whole, d_is_number, d_is_word, d_need_word, d_wrong_steps, d_wrong_lets, d_wrong_machine, d_need_machine, d_end_from, d_lets_so, d_end_of, d_lets, d__law_begin, d__law_mixed, d__law_draw, d__law_of, d__law_machine, d__law_word, d__law_like, d__law_end, d__law_lets, d__law_caught, d__law_odd, d_law] : List He.DefD)
def tf : List He.Defn := [("is_word", none), ("law", none)]
def T (K : Frag) : List (Addr × Str) := [((He.cT K ("is_word", none)).2, (envOfC "is_word" (defScope (top 10)) 0 0 .none).qual ++ "<genexpr>"), ((He.cT K ("law", none)).2, (envOfC "law" (defScope (top 34)) 0 0 .none).qual ++ "<lambda>")]
def exK (K : Frag) : Bool := factB prog g M fl K && decide (((T K).map (·.1)).Nodup)
abbrev Rw : PySem.W.OpenRow := PySem.W.OpenLaw.row PySem.Challenge.rw_wordkinds_k00_whole_words_and_machines
abbrev hk : PySem.W.Hook := hookS 5 fn tf exK
def ob (s : PySem.W.SharedT) : He.AlX := obsS 5 fn tf exK (HandSHeadRun.getT s)
theorem ob_eq (s : PySem.W.SharedT) : ob s = hk.obs s.abs := obsS_eq (HandSHeadRun.getT_eq s)
def loose : List Str := (["WordError", "BadWord", "BadMachine", "MOST_LETTERS", "LONGEST_WORD", "MOST_STATES", "is_whole", "is_number", "is_word", "need_word", "wrong_steps", "wrong_lets", "wrong_machine", "need_machine", "end_from", "lets_so", "end_of", "lets", "_law_begin", "_law_mixed", "_law_draw", "_law_of", "_law_machine", "_law_word", "_law_like", "_law_end", "_law_lets", "_law_caught", "_law_odd"] : List Str)
theorem run (w : World) : HandSHeadRun.RunEq Rw (PySem.W.view Rw.prog [34]) hk ob 4000 loose w := by
  intro os
  kernel_rfl
theorem ok_is_whole {K : Frag} {mg : Str → Option Value} {base h : Heap} {w : World} (c : He.SaysX [] fn [] tf exK w h K) (TB : ∀ p ∈ tf.map (He.cT K), LamX.TabB base mg p.1 p.2) (un : ∀ p ∈ T K, ∀ q ∈ T K, p.1 = q.1 → p.2 = q.2) : keepIn K (.ref (He.ga K "is_whole")) = true ∧ (DefOk (rpOf K g M (T K)) g K base mg M F_is_whole (He.ga K "is_whole") ∨ DefOkL (rpOf K g M (T K)) g K M F_is_whole (He.ga K "is_whole")) := by
  obtain ⟨fd, F⟩ := c.t.d.def_ 0 (d := d_is_whole) rfl
  exact ⟨F.kp, .inl (defOk_of (N := ["value"]) (ps := ["value"]) F (C8.fnScope_by (by kernel_rfl)) (fun _ _ _ _ _ _ us hl => match us, hl with | [_], _ => rfl) rfl rfl rfl (fun j h => by cases h) (gen := false) (lam := false) (by kernel_rfl) (fun h => nomatch h) (fun h => nomatch h))⟩
theorem ok_is_number {K : Frag} {mg : Str → Option Value} {base h : Heap} {w : World} (c : He.SaysX [] fn [] tf exK w h K) (TB : ∀ p ∈ tf.map (He.cT K), LamX.TabB base mg p.1 p.2) (un : ∀ p ∈ T K, ∀ q ∈ T K, p.1 = q.1 → p.2 = q.2) : keepIn K (.ref (He.ga K "is_number")) = true ∧ (DefOk (rpOf K g M (T K)) g K base mg M F_is_number (He.ga K "is_number") ∨ DefOkL (rpOf K g M (T K)) g K M F_is_number (He.ga K "is_number")) := by
  obtain ⟨fd, F⟩ := c.t.d.def_ 1 (d := d_is_number) rfl
  exact ⟨F.kp, .inl (defOk_of (N := ["value", "least", "most"]) (ps := ["value", "least", "most"]) F (C8.fnScope_by (by kernel_rfl)) (fun _ _ _ _ _ _ us hl => match us, hl with | [_, _, _], _ => rfl) rfl rfl rfl (fun j h => by cases h) (gen := false) (lam := false) (by kernel_rfl) (fun h => nomatch h) (fun h => nomatch h))⟩
theorem ok_is_word {K : Frag} {mg : Str → Option Value} {base h : Heap} {w : World} (c : He.SaysX [] fn [] tf exK w h K) (TB : ∀ p ∈ tf.map (He.cT K), LamX.TabB base mg p.1 p.2) (un : ∀ p ∈ T K, ∀ q ∈ T K, p.1 = q.1 → p.2 = q.2) : keepIn K (.ref (He.ga K "is_word")) = true ∧ (DefOk (rpOf K g M (T K)) g K base mg M F_is_word (He.ga K "is_word") ∨ DefOkL (rpOf K g M (T K)) g K M F_is_word (He.ga K "is_word")) := by
  obtain ⟨fd, F⟩ := c.t.d.def_ 2 (d := d_is_word) rfl
  exact ⟨F.kp, .inl (defOk_of (N := ["value", "count", "one"]) (ps := ["value", "count"]) F (C8.fnScope_by (by kernel_rfl)) (fun _ _ _ _ _ _ us hl => match us, hl with | [_, _], _ => rfl) rfl rfl rfl (fun j h => by cases h) (gen := true) (lam := false) (by kernel_rfl) (fun _ => ⟨TB _ (List.mem_map_of_mem (.head _)), .head _, fun p hp e => un p hp _ (.head _) e⟩) (fun h => nomatch h))⟩
theorem ok_need_word {K : Frag} {mg : Str → Option Value} {base h : Heap} {w : World} (c : He.SaysX [] fn [] tf exK w h K) (TB : ∀ p ∈ tf.map (He.cT K), LamX.TabB base mg p.1 p.2) (un : ∀ p ∈ T K, ∀ q ∈ T K, p.1 = q.1 → p.2 = q.2) : keepIn K (.ref (He.ga K "need_word")) = true ∧ (DefOk (rpOf K g M (T K)) g K base mg M F_need_word (He.ga K "need_word") ∨ DefOkL (rpOf K g M (T K)) g K M F_need_word (He.ga K "need_word")) := by
  obtain ⟨fd, F⟩ := c.t.d.def_ 3 (d := d_need_word) rfl
  exact ⟨F.kp, .inl (defOk_of (N := ["word", "count"]) (ps := ["word", "count"]) F (C8.fnScope_by (by kernel_rfl)) (fun _ _ _ _ _ _ us hl => match us, hl with | [_, _], _ => rfl) rfl rfl rfl (fun j h => by cases h) (gen := false) (lam := false) (by kernel_rfl) (fun h => nomatch h) (fun h => nomatch h))⟩
theorem ok_wrong_steps {K : Frag} {mg : Str → Option Value} {base h : Heap} {w : World} (c : He.SaysX [] fn [] tf exK w h K) (TB : ∀ p ∈ tf.map (He.cT K), LamX.TabB base mg p.1 p.2) (un : ∀ p ∈ T K, ∀ q ∈ T K, p.1 = q.1 → p.2 = q.2) : keepIn K (.ref (He.ga K "wrong_steps")) = true ∧ (DefOk (rpOf K g M (T K)) g K base mg M F_wrong_steps (He.ga K "wrong_steps") ∨ DefOkL (rpOf K g M (T K)) g K M F_wrong_steps (He.ga K "wrong_steps")) := by
  obtain ⟨fd, F⟩ := c.t.d.def_ 4 (d := d_wrong_steps) rfl
  exact ⟨F.kp, .inl (defOk_of (N := ["value", "count", "spot", "row", "letter", "goal"]) (ps := ["value", "count"]) F (C8.fnScope_by (by kernel_rfl)) (fun _ _ _ _ _ _ us hl => match us, hl with | [_, _], _ => rfl) rfl rfl rfl (fun j h => by cases h) (gen := false) (lam := false) (by kernel_rfl) (fun h => nomatch h) (fun h => nomatch h))⟩
theorem ok_wrong_lets {K : Frag} {mg : Str → Option Value} {base h : Heap} {w : World} (c : He.SaysX [] fn [] tf exK w h K) (TB : ∀ p ∈ tf.map (He.cT K), LamX.TabB base mg p.1 p.2) (un : ∀ p ∈ T K, ∀ q ∈ T K, p.1 = q.1 → p.2 = q.2) : keepIn K (.ref (He.ga K "wrong_lets")) = true ∧ (DefOk (rpOf K g M (T K)) g K base mg M F_wrong_lets (He.ga K "wrong_lets") ∨ DefOkL (rpOf K g M (T K)) g K M F_wrong_lets (He.ga K "wrong_lets")) := by
  obtain ⟨fd, F⟩ := c.t.d.def_ 5 (d := d_wrong_lets) rfl
  exact ⟨F.kp, .inl (defOk_of (N := ["value", "many", "spot", "one"]) (ps := ["value", "many"]) F (C8.fnScope_by (by kernel_rfl)) (fun _ _ _ _ _ _ us hl => match us, hl with | [_, _], _ => rfl) rfl rfl rfl (fun j h => by cases h) (gen := false) (lam := false) (by kernel_rfl) (fun h => nomatch h) (fun h => nomatch h))⟩
theorem ok_wrong_machine {K : Frag} {mg : Str → Option Value} {base h : Heap} {w : World} (c : He.SaysX [] fn [] tf exK w h K) (TB : ∀ p ∈ tf.map (He.cT K), LamX.TabB base mg p.1 p.2) (un : ∀ p ∈ T K, ∀ q ∈ T K, p.1 = q.1 → p.2 = q.2) : keepIn K (.ref (He.ga K "wrong_machine")) = true ∧ (DefOk (rpOf K g M (T K)) g K base mg M F_wrong_machine (He.ga K "wrong_machine") ∨ DefOkL (rpOf K g M (T K)) g K M F_wrong_machine (He.ga K "wrong_machine")) := by
  obtain ⟨fd, F⟩ := c.t.d.def_ 6 (d := d_wrong_machine) rfl
  exact ⟨F.kp, .inl (defOk_of (N := ["value", "wrong"]) (ps := ["value"]) F (C8.fnScope_by (by kernel_rfl)) (fun _ _ _ _ _ _ us hl => match us, hl with | [_], _ => rfl) rfl rfl rfl (fun j h => by cases h) (gen := false) (lam := false) (by kernel_rfl) (fun h => nomatch h) (fun h => nomatch h))⟩
theorem ok_need_machine {K : Frag} {mg : Str → Option Value} {base h : Heap} {w : World} (c : He.SaysX [] fn [] tf exK w h K) (TB : ∀ p ∈ tf.map (He.cT K), LamX.TabB base mg p.1 p.2) (un : ∀ p ∈ T K, ∀ q ∈ T K, p.1 = q.1 → p.2 = q.2) : keepIn K (.ref (He.ga K "need_machine")) = true ∧ (DefOk (rpOf K g M (T K)) g K base mg M F_need_machine (He.ga K "need_machine") ∨ DefOkL (rpOf K g M (T K)) g K M F_need_machine (He.ga K "need_machine")) := by
  obtain ⟨fd, F⟩ := c.t.d.def_ 7 (d := d_need_machine) rfl
  exact ⟨F.kp, .inl (defOk_of (N := ["machine", "wrong"]) (ps := ["machine"]) F (C8.fnScope_by (by kernel_rfl)) (fun _ _ _ _ _ _ us hl => match us, hl with | [_], _ => rfl) rfl rfl rfl (fun j h => by cases h) (gen := false) (lam := false) (by kernel_rfl) (fun h => nomatch h) (fun h => nomatch h))⟩
theorem ok_end_from {K : Frag} {mg : Str → Option Value} {base h : Heap} {w : World} (c : He.SaysX [] fn [] tf exK w h K) (TB : ∀ p ∈ tf.map (He.cT K), LamX.TabB base mg p.1 p.2) (un : ∀ p ∈ T K, ∀ q ∈ T K, p.1 = q.1 → p.2 = q.2) : keepIn K (.ref (He.ga K "end_from")) = true ∧ (DefOk (rpOf K g M (T K)) g K base mg M F_end_from (He.ga K "end_from") ∨ DefOkL (rpOf K g M (T K)) g K M F_end_from (He.ga K "end_from")) := by
  obtain ⟨fd, F⟩ := c.t.d.def_ 8 (d := d_end_from) rfl
  exact ⟨F.kp, .inl (defOk_of (N := ["steps", "state", "word", "letter"]) (ps := ["steps", "state", "word"]) F (C8.fnScope_by (by kernel_rfl)) (fun _ _ _ _ _ _ us hl => match us, hl with | [_, _, _], _ => rfl) rfl rfl rfl (fun j h => by cases h) (gen := false) (lam := false) (by kernel_rfl) (fun h => nomatch h) (fun h => nomatch h))⟩
theorem ok_lets_so {K : Frag} {mg : Str → Option Value} {base h : Heap} {w : World} (c : He.SaysX [] fn [] tf exK w h K) (TB : ∀ p ∈ tf.map (He.cT K), LamX.TabB base mg p.1 p.2) (un : ∀ p ∈ T K, ∀ q ∈ T K, p.1 = q.1 → p.2 = q.2) : keepIn K (.ref (He.ga K "lets_so")) = true ∧ (DefOk (rpOf K g M (T K)) g K base mg M F_lets_so (He.ga K "lets_so") ∨ DefOkL (rpOf K g M (T K)) g K M F_lets_so (He.ga K "lets_so")) := by
  obtain ⟨fd, F⟩ := c.t.d.def_ 9 (d := d_lets_so) rfl
  exact ⟨F.kp, .inl (defOk_of (N := ["machine", "word"]) (ps := ["machine", "word"]) F (C8.fnScope_by (by kernel_rfl)) (fun _ _ _ _ _ _ us hl => match us, hl with | [_, _], _ => rfl) rfl rfl rfl (fun j h => by cases h) (gen := false) (lam := false) (by kernel_rfl) (fun h => nomatch h) (fun h => nomatch h))⟩
theorem ok_end_of {K : Frag} {mg : Str → Option Value} {base h : Heap} {w : World} (c : He.SaysX [] fn [] tf exK w h K) (TB : ∀ p ∈ tf.map (He.cT K), LamX.TabB base mg p.1 p.2) (un : ∀ p ∈ T K, ∀ q ∈ T K, p.1 = q.1 → p.2 = q.2) : keepIn K (.ref (He.ga K "end_of")) = true ∧ (DefOk (rpOf K g M (T K)) g K base mg M F_end_of (He.ga K "end_of") ∨ DefOkL (rpOf K g M (T K)) g K M F_end_of (He.ga K "end_of")) := by
  obtain ⟨fd, F⟩ := c.t.d.def_ 10 (d := d_end_of) rfl
  exact ⟨F.kp, .inl (defOk_of (N := ["machine", "word"]) (ps := ["machine", "word"]) F (C8.fnScope_by (by kernel_rfl)) (fun _ _ _ _ _ _ us hl => match us, hl with | [_, _], _ => rfl) rfl rfl rfl (fun j h => by cases h) (gen := false) (lam := false) (by kernel_rfl) (fun h => nomatch h) (fun h => nomatch h))⟩
theorem ok_lets {K : Frag} {mg : Str → Option Value} {base h : Heap} {w : World} (c : He.SaysX [] fn [] tf exK w h K) (TB : ∀ p ∈ tf.map (He.cT K), LamX.TabB base mg p.1 p.2) (un : ∀ p ∈ T K, ∀ q ∈ T K, p.1 = q.1 → p.2 = q.2) : keepIn K (.ref (He.ga K "lets")) = true ∧ (DefOk (rpOf K g M (T K)) g K base mg M F_lets (He.ga K "lets") ∨ DefOkL (rpOf K g M (T K)) g K M F_lets (He.ga K "lets")) := by
  obtain ⟨fd, F⟩ := c.t.d.def_ 11 (d := d_lets) rfl
  exact ⟨F.kp, .inl (defOk_of (N := ["machine", "word"]) (ps := ["machine", "word"]) F (C8.fnScope_by (by kernel_rfl)) (fun _ _ _ _ _ _ us hl => match us, hl with | [_, _], _ => rfl) rfl rfl rfl (fun j h => by cases h) (gen := false) (lam := false) (by kernel_rfl) (fun h => nomatch h) (fun h => nomatch h))⟩
theorem ok__law_begin {K : Frag} {mg : Str → Option Value} {base h : Heap} {w : World} (c : He.SaysX [] fn [] tf exK w h K) (TB : ∀ p ∈ tf.map (He.cT K), LamX.TabB base mg p.1 p.2) (un : ∀ p ∈ T K, ∀ q ∈ T K, p.1 = q.1 → p.2 = q.2) : keepIn K (.ref (He.ga K "_law_begin")) = true ∧ (DefOk (rpOf K g M (T K)) g K base mg M F__law_begin (He.ga K "_law_begin") ∨ DefOkL (rpOf K g M (T K)) g K M F__law_begin (He.ga K "_law_begin")) := by
  obtain ⟨fd, F⟩ := c.t.d.def_ 12 (d := d__law_begin) rfl
  exact ⟨F.kp, .inl (defOk_of (N := ["script", "cells_so", "cell"]) (ps := ["script"]) F (C8.fnScope_by (by kernel_rfl)) (fun _ _ _ _ _ _ us hl => match us, hl with | [_], _ => rfl) rfl rfl rfl (fun j h => by cases h) (gen := false) (lam := false) (by kernel_rfl) (fun h => nomatch h) (fun h => nomatch h))⟩
theorem ok__law_mixed {K : Frag} {mg : Str → Option Value} {base h : Heap} {w : World} (c : He.SaysX [] fn [] tf exK w h K) (TB : ∀ p ∈ tf.map (He.cT K), LamX.TabB base mg p.1 p.2) (un : ∀ p ∈ T K, ∀ q ∈ T K, p.1 = q.1 → p.2 = q.2) : keepIn K (.ref (He.ga K "_law_mixed")) = true ∧ (DefOk (rpOf K g M (T K)) g K base mg M F__law_mixed (He.ga K "_law_mixed") ∨ DefOkL (rpOf K g M (T K)) g K M F__law_mixed (He.ga K "_law_mixed")) := by
  obtain ⟨fd, F⟩ := c.t.d.def_ 13 (d := d__law_mixed) rfl
  exact ⟨F.kp, .inl (defOk_of (N := ["cell", "k"]) (ps := ["cell", "k"]) F (C8.fnScope_by (by kernel_rfl)) (fun _ _ _ _ _ _ us hl => match us, hl with | [_, _], _ => rfl) rfl rfl rfl (fun j h => by cases h) (gen := false) (lam := false) (by kernel_rfl) (fun h => nomatch h) (fun h => nomatch h))⟩
theorem ok__law_draw {K : Frag} {mg : Str → Option Value} {base h : Heap} {w : World} (c : He.SaysX [] fn [] tf exK w h K) (TB : ∀ p ∈ tf.map (He.cT K), LamX.TabB base mg p.1 p.2) (un : ∀ p ∈ T K, ∀ q ∈ T K, p.1 = q.1 → p.2 = q.2) : keepIn K (.ref (He.ga K "_law_draw")) = true ∧ (DefOk (rpOf K g M (T K)) g K base mg M F__law_draw (He.ga K "_law_draw") ∨ DefOkL (rpOf K g M (T K)) g K M F__law_draw (He.ga K "_law_draw")) := by
  obtain ⟨fd, F⟩ := c.t.d.def_ 14 (d := d__law_draw) rfl
  exact ⟨F.kp, .inl (defOk_of (N := ["state", "limit", "at", "place", "left", "number"]) (ps := ["state", "limit"]) F (C8.fnScope_by (by kernel_rfl)) (fun _ _ _ _ _ _ us hl => match us, hl with | [_, _], _ => rfl) rfl rfl rfl (fun j h => by cases h; decide) (gen := false) (lam := false) (by kernel_rfl) (fun h => nomatch h) (fun h => nomatch h))⟩
theorem ok__law_of {K : Frag} {mg : Str → Option Value} {base h : Heap} {w : World} (c : He.SaysX [] fn [] tf exK w h K) (TB : ∀ p ∈ tf.map (He.cT K), LamX.TabB base mg p.1 p.2) (un : ∀ p ∈ T K, ∀ q ∈ T K, p.1 = q.1 → p.2 = q.2) : keepIn K (.ref (He.ga K "_law_of")) = true ∧ (DefOk (rpOf K g M (T K)) g K base mg M F__law_of (He.ga K "_law_of") ∨ DefOkL (rpOf K g M (T K)) g K M F__law_of (He.ga K "_law_of")) := by
  obtain ⟨fd, F⟩ := c.t.d.def_ 15 (d := d__law_of) rfl
  exact ⟨F.kp, .inl (defOk_of (N := ["state", "some"]) (ps := ["state", "some"]) F (C8.fnScope_by (by kernel_rfl)) (fun _ _ _ _ _ _ us hl => match us, hl with | [_, _], _ => rfl) rfl rfl rfl (fun j h => by cases h; decide) (gen := false) (lam := false) (by kernel_rfl) (fun h => nomatch h) (fun h => nomatch h))⟩
theorem ok__law_machine {K : Frag} {mg : Str → Option Value} {base h : Heap} {w : World} (c : He.SaysX [] fn [] tf exK w h K) (TB : ∀ p ∈ tf.map (He.cT K), LamX.TabB base mg p.1 p.2) (un : ∀ p ∈ T K, ∀ q ∈ T K, p.1 = q.1 → p.2 = q.2) : keepIn K (.ref (He.ga K "_law_machine")) = true ∧ (DefOk (rpOf K g M (T K)) g K base mg M F__law_machine (He.ga K "_law_machine") ∨ DefOkL (rpOf K g M (T K)) g K M F__law_machine (He.ga K "_law_machine")) := by
  obtain ⟨fd, F⟩ := c.t.d.def_ 16 (d := d__law_machine) rfl
  exact ⟨F.kp, .inl (defOk_of (N := ["state", "count", "most", "many", "steps", "one", "letter"]) (ps := ["state", "count", "most"]) F (C8.fnScope_by (by kernel_rfl)) (fun _ _ _ _ _ _ us hl => match us, hl with | [_, _, _], _ => rfl) rfl rfl rfl (fun j h => by cases h; decide) (gen := false) (lam := false) (by kernel_rfl) (fun h => nomatch h) (fun h => nomatch h))⟩
theorem ok__law_word {K : Frag} {mg : Str → Option Value} {base h : Heap} {w : World} (c : He.SaysX [] fn [] tf exK w h K) (TB : ∀ p ∈ tf.map (He.cT K), LamX.TabB base mg p.1 p.2) (un : ∀ p ∈ T K, ∀ q ∈ T K, p.1 = q.1 → p.2 = q.2) : keepIn K (.ref (He.ga K "_law_word")) = true ∧ (DefOk (rpOf K g M (T K)) g K base mg M F__law_word (He.ga K "_law_word") ∨ DefOkL (rpOf K g M (T K)) g K M F__law_word (He.ga K "_law_word")) := by
  obtain ⟨fd, F⟩ := c.t.d.def_ 17 (d := d__law_word) rfl
  exact ⟨F.kp, .inl (defOk_of (N := ["state", "count", "most", "spot"]) (ps := ["state", "count", "most"]) F (C8.fnScope_by (by kernel_rfl)) (fun _ _ _ _ _ _ us hl => match us, hl with | [_, _, _], _ => rfl) rfl rfl rfl (fun j h => by cases h; decide) (gen := false) (lam := false) (by kernel_rfl) (fun h => nomatch h) (fun h => nomatch h))⟩
theorem ok__law_like {K : Frag} {mg : Str → Option Value} {base h : Heap} {w : World} (c : He.SaysX [] fn [] tf exK w h K) (TB : ∀ p ∈ tf.map (He.cT K), LamX.TabB base mg p.1 p.2) (un : ∀ p ∈ T K, ∀ q ∈ T K, p.1 = q.1 → p.2 = q.2) : keepIn K (.ref (He.ga K "_law_like")) = true ∧ (DefOk (rpOf K g M (T K)) g K base mg M F__law_like (He.ga K "_law_like") ∨ DefOkL (rpOf K g M (T K)) g K M F__law_like (He.ga K "_law_like")) := by
  obtain ⟨fd, F⟩ := c.t.d.def_ 18 (d := d__law_like) rfl
  exact ⟨F.kp, .inl (defOk_of (N := ["got", "due"]) (ps := ["got", "due"]) F (C8.fnScope_by (by kernel_rfl)) (fun _ _ _ _ _ _ us hl => match us, hl with | [_, _], _ => rfl) rfl rfl rfl (fun j h => by cases h) (gen := false) (lam := false) (by kernel_rfl) (fun h => nomatch h) (fun h => nomatch h))⟩
theorem ok__law_end {K : Frag} {mg : Str → Option Value} {base h : Heap} {w : World} (c : He.SaysX [] fn [] tf exK w h K) (TB : ∀ p ∈ tf.map (He.cT K), LamX.TabB base mg p.1 p.2) (un : ∀ p ∈ T K, ∀ q ∈ T K, p.1 = q.1 → p.2 = q.2) : keepIn K (.ref (He.ga K "_law_end")) = true ∧ (DefOk (rpOf K g M (T K)) g K base mg M F__law_end (He.ga K "_law_end") ∨ DefOkL (rpOf K g M (T K)) g K M F__law_end (He.ga K "_law_end")) := by
  obtain ⟨fd, F⟩ := c.t.d.def_ 19 (d := d__law_end) rfl
  exact ⟨F.kp, .inl (defOk_of (N := ["machine", "start", "word", "place", "letter"]) (ps := ["machine", "start", "word"]) F (C8.fnScope_by (by kernel_rfl)) (fun _ _ _ _ _ _ us hl => match us, hl with | [_, _, _], _ => rfl) rfl rfl rfl (fun j h => by cases h) (gen := false) (lam := false) (by kernel_rfl) (fun h => nomatch h) (fun h => nomatch h))⟩
theorem ok__law_lets {K : Frag} {mg : Str → Option Value} {base h : Heap} {w : World} (c : He.SaysX [] fn [] tf exK w h K) (TB : ∀ p ∈ tf.map (He.cT K), LamX.TabB base mg p.1 p.2) (un : ∀ p ∈ T K, ∀ q ∈ T K, p.1 = q.1 → p.2 = q.2) : keepIn K (.ref (He.ga K "_law_lets")) = true ∧ (DefOk (rpOf K g M (T K)) g K base mg M F__law_lets (He.ga K "_law_lets") ∨ DefOkL (rpOf K g M (T K)) g K M F__law_lets (He.ga K "_law_lets")) := by
  obtain ⟨fd, F⟩ := c.t.d.def_ 20 (d := d__law_lets) rfl
  exact ⟨F.kp, .inl (defOk_of (N := ["machine", "word"]) (ps := ["machine", "word"]) F (C8.fnScope_by (by kernel_rfl)) (fun _ _ _ _ _ _ us hl => match us, hl with | [_, _], _ => rfl) rfl rfl rfl (fun j h => by cases h) (gen := false) (lam := false) (by kernel_rfl) (fun h => nomatch h) (fun h => nomatch h))⟩
theorem ok__law_caught {K : Frag} {mg : Str → Option Value} {base h : Heap} {w : World} (c : He.SaysX [] fn [] tf exK w h K) (TB : ∀ p ∈ tf.map (He.cT K), LamX.TabB base mg p.1 p.2) (un : ∀ p ∈ T K, ∀ q ∈ T K, p.1 = q.1 → p.2 = q.2) : keepIn K (.ref (He.ga K "_law_caught")) = true ∧ (DefOk (rpOf K g M (T K)) g K base mg M F__law_caught (He.ga K "_law_caught") ∨ DefOkL (rpOf K g M (T K)) g K M F__law_caught (He.ga K "_law_caught")) := by
  obtain ⟨fd, F⟩ := c.t.d.def_ 21 (d := d__law_caught) rfl
  exact ⟨F.kp, .inr (defOkL_of (N := ["call", "told", "error"]) (a := "call") F (C8.fnScope_by (by kernel_rfl)) (fun _ _ _ _ _ _ us hl => match us, hl with | [_], _ => rfl) rfl rfl rfl (by unfold Vis; decide +kernel) rfl rfl (by kernel_rfl))⟩
theorem ok__law_odd {K : Frag} {mg : Str → Option Value} {base h : Heap} {w : World} (c : He.SaysX [] fn [] tf exK w h K) (TB : ∀ p ∈ tf.map (He.cT K), LamX.TabB base mg p.1 p.2) (un : ∀ p ∈ T K, ∀ q ∈ T K, p.1 = q.1 → p.2 = q.2) : keepIn K (.ref (He.ga K "_law_odd")) = true ∧ (DefOk (rpOf K g M (T K)) g K base mg M F__law_odd (He.ga K "_law_odd") ∨ DefOkL (rpOf K g M (T K)) g K M F__law_odd (He.ga K "_law_odd")) := by
  obtain ⟨fd, F⟩ := c.t.d.def_ 22 (d := d__law_odd) rfl
  exact ⟨F.kp, .inl (defOk_of (N := ["state", "machine", "count", "steps", "kept", "many", "spot", "letter", "bad", "row", "lot"]) (ps := ["state", "machine"]) F (C8.fnScope_by (by kernel_rfl)) (fun _ _ _ _ _ _ us hl => match us, hl with | [_, _], _ => rfl) rfl rfl rfl (fun j h => by cases h; decide) (gen := false) (lam := false) (by kernel_rfl) (fun h => nomatch h) (fun h => nomatch h))⟩
theorem ok_law {K : Frag} {mg : Str → Option Value} {base h : Heap} {w : World} (c : He.SaysX [] fn [] tf exK w h K) (TB : ∀ p ∈ tf.map (He.cT K), LamX.TabB base mg p.1 p.2) (un : ∀ p ∈ T K, ∀ q ∈ T K, p.1 = q.1 → p.2 = q.2) : keepIn K (.ref (He.ga K "law")) = true ∧ (DefOk (rpOf K g M (T K)) g K base mg M F_law (He.ga K "law") ∨ DefOkL (rpOf K g M (T K)) g K M F_law (He.ga K "law")) := by
  obtain ⟨fd, F⟩ := c.t.d.def_ 23 (d := d_law) rfl
  exact ⟨F.kp, .inl (defOk_of (N := ["script", "state", "turn", "machine", "step", "word", "got", "odd", "place", "bad", "wide"]) (ps := ["script"]) F (C8.fnScope_by (by kernel_rfl)) (fun _ _ _ _ _ _ us hl => match us, hl with | [_], _ => rfl) rfl rfl rfl (fun j h => by cases h) (gen := false) (lam := true) (by kernel_rfl) (fun h => nomatch h) (fun _ => ⟨TB _ (List.mem_map_of_mem (.tail _ (.head _))), .tail _ (.head _), fun p hp e => un p hp _ (.tail _ (.head _)) e⟩))⟩
theorem tbl {K : Frag} {mg : Str → Option Value} {base h : Heap} {w : World} (c : He.SaysX [] fn [] tf exK w h K) (TB : ∀ p ∈ tf.map (He.cT K), LamX.TabB base mg p.1 p.2) (un : ∀ p ∈ T K, ∀ q ∈ T K, p.1 = q.1 → p.2 = q.2) : ∀ f Fd, g.fns f = some Fd → keepIn K (.ref (He.ga K (M.fnm f))) = true ∧ (DefOk (rpOf K g M (T K)) g K base mg M Fd (He.ga K (M.fnm f)) ∨ DefOkL (rpOf K g M (T K)) g K M Fd (He.ga K (M.fnm f))) := by
  intro f Fd hf
  have hm : (f, Fd) ∈ fT := lk_mem hf
  unfold fT at hm
  rcases List.mem_cons.mp hm with e | hm
  · cases e; exact ok_is_whole c TB un
  rcases List.mem_cons.mp hm with e | hm
  · cases e; exact ok_is_number c TB un
  rcases List.mem_cons.mp hm with e | hm
  · cases e; exact ok_is_word c TB un
  rcases List.mem_cons.mp hm with e | hm
  · cases e; exact ok_need_word c TB un
  rcases List.mem_cons.mp hm with e | hm
  · cases e; exact ok_wrong_steps c TB un
  rcases List.mem_cons.mp hm with e | hm
  · cases e; exact ok_wrong_lets c TB un
  rcases List.mem_cons.mp hm with e | hm
  · cases e; exact ok_wrong_machine c TB un
  rcases List.mem_cons.mp hm with e | hm
  · cases e; exact ok_need_machine c TB un
  rcases List.mem_cons.mp hm with e | hm
  · cases e; exact ok_end_from c TB un
  rcases List.mem_cons.mp hm with e | hm
  · cases e; exact ok_lets_so c TB un
  rcases List.mem_cons.mp hm with e | hm
  · cases e; exact ok_end_of c TB un
  rcases List.mem_cons.mp hm with e | hm
  · cases e; exact ok_lets c TB un
  rcases List.mem_cons.mp hm with e | hm
  · cases e; exact ok__law_begin c TB un
  rcases List.mem_cons.mp hm with e | hm
  · cases e; exact ok__law_mixed c TB un
  rcases List.mem_cons.mp hm with e | hm
  · cases e; exact ok__law_draw c TB un
  rcases List.mem_cons.mp hm with e | hm
  · cases e; exact ok__law_of c TB un
  rcases List.mem_cons.mp hm with e | hm
  · cases e; exact ok__law_machine c TB un
  rcases List.mem_cons.mp hm with e | hm
  · cases e; exact ok__law_word c TB un
  rcases List.mem_cons.mp hm with e | hm
  · cases e; exact ok__law_like c TB un
  rcases List.mem_cons.mp hm with e | hm
  · cases e; exact ok__law_end c TB un
  rcases List.mem_cons.mp hm with e | hm
  · cases e; exact ok__law_lets c TB un
  rcases List.mem_cons.mp hm with e | hm
  · cases e; exact ok__law_caught c TB un
  rcases List.mem_cons.mp hm with e | hm
  · cases e; exact ok__law_odd c TB un
  rcases List.mem_cons.mp hm with e | hm
  · cases e; exact ok_law c TB un
  exact nomatch hm
theorem fns_mem : ∀ f Fd, g.fns f = some Fd → f ∈ fl := fun f Fd hf => List.mem_map_of_mem (f := (·.1)) (lk_mem (l := fT) hf)
theorem cls_lt : ∀ c, c ∈ cls → c < M.ncl ∧ (M.xcl c).isSome = true := by decide
theorem subs_lt : ∀ c k r, g.sub c k = some r → (c < M.ncl ∧ k < M.ncl) ∧ (M.xcl c).isSome = true := fun c k r h => by
  have h : (if c ∈ cls ∧ k ∈ cls then _ else none) = some r := h
  split at h
  · rename_i q; exact ⟨⟨(cls_lt c q.1).1, (cls_lt k q.2).1⟩, (cls_lt c q.1).2⟩
  · cases h
theorem cfT_cls : ∀ p ∈ cfT, p.1 ∈ cls := by decide
theorem cfs_lt : ∀ c f, f ∈ g.cfs c → c < M.ncl ∧ (M.xcl c).isSome = true := fun c f h => by
  have h : f ∈ (lk c cfT).getD [] := h
  cases e : lk c cfT with
  | none => rw [e] at h; cases h
  | some l => exact cls_lt c (cfT_cls (c, l) (lk_mem e))
theorem xcT_cls : ∀ p ∈ xcT, p.1 ∈ cls := by decide
theorem xcl_lt : ∀ c q, M.xcl c = some q → c < M.ncl := fun c q h => (cls_lt c (xcT_cls (c, q) (lk_mem h))).1
end Q
open PySem PySem.W PySem.Calls PyProof.Rows
theorem holdsF (law_true : ∀ ns : List Int, ns.length ≤ 63 → (Q.belowN Q.g 9).call 23 [.lst false (ns.map Q.D.int)] = .ok (.bl true) none) : PySem.Challenge.rw_wordkinds_k00_whole_words_and_machines.Holds := by
  w_on; o_law
  refine HandSHeadRun.head_any (r := OpenLaw.row PySem.Challenge.rw_wordkinds_k00_whole_words_and_machines) (q := view (OpenLaw.row PySem.Challenge.rw_wordkinds_k00_whole_words_and_machines).prog [34]) (H := Q.hk) (ob := Q.ob) (M := 4000) (loose := Q.loose) (d := HandSHeadRun.topDef (OpenLaw.row PySem.Challenge.rw_wordkinds_k00_whole_words_and_machines).prog 34) (kwd := []) Q.ob_eq
    (by kernel_rfl) (fun s => by kernel_rfl) Q.run (by kernel_rfl) (by kernel_rfl) (by kernel_rfl) (by rfl) (by first | assumption | decide +kernel) (by decide +kernel) ⟨rfl, rfl, rfl, rfl, rfl, by decide +kernel⟩ ?hw ?hc
  case hw => w_witness2
  case hc =>
    refine Q.walk_ofQ (l := PySem.Challenge.rw_wordkinds_k00_whole_words_and_machines) (n := 63) rfl (by decide) (by kernel_rfl) ?F
    intro w mg fa h Y G hmg0
    obtain ⟨K, KX, c⟩ := Y
    have hmg : mg ("law" : PySem.Str) = some (.ref fa) := by
      have e : (HandSHeadRun.topDef (OpenLaw.row PySem.Challenge.rw_wordkinds_k00_whole_words_and_machines).prog 34).name = ("law" : PySem.Str) := by kernel_rfl
      rw [← e]
      exact hmg0
    obtain ⟨q1, q2⟩ := Q.b2 c.more
    exact Q.law_F (li := 23) (lv := 9) (fl := Q.fl) (T := Q.T K) KX G c q1 (of_decide_eq_true q2) rfl (by kernel_rfl) Q.subs_lt Q.cfs_lt Q.xcl_lt Q.fns_mem rfl rfl hmg ⟨rfl, by decide, by decide⟩ (fun base TB un => Q.tbl c TB un) law_true

theorem Q.h00 : Q.Run.H00 Q.g := {
  f0 := rfl, f1 := rfl, f2 := rfl, f3 := rfl, f4 := rfl, f5 := rfl, f6 := rfl, f7 := rfl, f8 := rfl, f9 := rfl, f10 := rfl, f11 := rfl, f12 := rfl, f13 := rfl, f14 := rfl, f15 := rfl,
  f16 := rfl, f17 := rfl, f18 := rfl, f19 := rfl, f20 := rfl, f21 := rfl, f22 := rfl, f23 := rfl, s11 := rfl, s12 := rfl, s22 := rfl, c1 := rfl, c2 := rfl }
theorem PySem.Challenge.cw_wordkinds_k00_whole_words_and_machines_holds : PySem.Challenge.rw_wordkinds_k00_whole_words_and_machines.Holds := by
  exact holdsF fun ns h => Q.Run.law_true (n := 1) Q.h00 ns h

