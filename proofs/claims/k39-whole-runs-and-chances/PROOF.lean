import PyProof.Rows.All
import Wide.All
import OpenK.AllK
import Wide.FinOn
import HandS.ForMost
import HandS.Conv
import HandS.Exc
import HandS.Zip
import HandS.IsInst
import HandS.TupAny
import HandS.TupMul
import HandS.Wide
import HandS.Style
import HandS.Deep
import HandS.Star
import HandS.DictComp
import KE.GoesNew
import HandS.Lambda
import HandS.ExcOwn
import PyProof.Rows.ReprR
import PyProof.CallFns
import PyProof.StrLawsRepr
import PyProof.P3In
import PyProof.Rows.RegStrFacts
import HandS.EndTab
import HandS.WordsExc
import HandS.Defaults
import HandS.HeadHook2
import HandS.HeadEnd
import HandS.Head2
import KE.KStateDown
import HandS.Head0
import HandS.Head1
import HandS.HeadHook1
import PySem.Challenge.RW_forehouse_k39_whole_runs_and_chances
set_option Elab.async false
set_option linter.all false
set_option maxRecDepth 100000
set_option maxHeartbeats 0
/-! A pure interpreter: values, store, codes, evaluation. -/
namespace FI
open PySem L2

/-- values of the interpreter: lists and dicts stand in the store -/
inductive PV where
  | non | bl (b : Bool) | int (i : Int) | str (x : Str) | tup (xs : List PV) | lst (i : Nat) | dct (i : Nat) | rep (d : PyData)
  deriving Inhabited

/-- what stands in the store: a list, a list that is only read, a dict with text keys -/
inductive SO where
  | lst (xs : List PV) | rol (xs : List PV) | dct (kvs : List (Key × PV)) | tab (q : Str)

/-- what the interpreter may write -/
def tr : SO → Bool
  | .rol _ => false
  | _ => true
/-- the store: the next number, what stands at numbers -/
structure Sto where
  n : Nat
  os : List (Nat × SO)

def look (i : Nat) : List (Nat × SO) → Option SO
  | [] => none
  | (j, o) :: r => if Nat.beq i j then some o else look i r
def put (i : Nat) (o : SO) : List (Nat × SO) → List (Nat × SO)
  | [] => []
  | (j, u) :: r => if Nat.beq i j then (j, o) :: r else (j, u) :: put i o r
def Sto.new (s : Sto) (o : SO) : Sto := ⟨s.n + 1, (s.n, o) :: s.os⟩
def Sto.getL (s : Sto) (i : Nat) : Option (List PV) := match look i s.os with
  | some (.lst xs) => some xs
  | some (.rol xs) => some xs
  | _ => none

inductive Res (α : Type) where
  | ok (a : α) (s : Sto)
  | exc (c : Nat) (fs : List PV) (s : Sto)
  | bad

def Res.bind {α β : Type} (r : Res α) (f : α → Sto → Res β) : Res β := match r with
  | .ok a s => f a s
  | .exc c fs s => .exc c fs s
  | .bad => .bad

inductive Bop where
  | add | sub | mul | fdiv | mod | pow
inductive Cop where
  | eq | ne | lt | le | gt | ge | isN | notN | inn | notin | isB | notB
inductive Ty where
  | int | bool | tuple | str | list
inductive Blt where
  | len | abs | int | tuple | list | all | any | min2 | maxL | repr
/-- methods -/
inductive Mt where
  | index

/-- codes of expressions, argument lists (nil, cons), targets, iterables, statements -/
inductive E where
  | int (i : Int) | bl (b : Bool) | non | str (x : Str)
  | var (i : Nat)
  | glob (k : Nat)
  | nil | cons (a r : E)
  | tup (a : E) | lst (a : E)
  | bin (o : Bop) (a b : E)
  | cmp (o : Cop) (a b : E)
  | chain (o p : Cop) (a b c : E)
  | neg (a : E) | not (a : E) | and (a b : E) | or (a b : E) | one (a : E) | ife (c a b : E)
  | idx (a b : E) | slice (a lo hi : E) | no
  | isi (t : Ty) (a : E)
  | call (f : Nat) (a : E)
  | blt (b : Blt) (a : E)
  | comp (own : List (Str × Nat)) (tg it : E) (c : E) (elt : E)
  | app (a b : E) | call0 (f : Nat) | meth (m : Mt) (a b : E) | comp2 (own : List (Str × Nat)) (tg it c tg1 it1 c1 elt : E)
  | never | star (a r : E) | dix (a b : E) | ddisp (a : E) | rev (a : E)
  -- targets
  | tn (i : Nat) | tt (a : E) | ts (o i : E)
  -- iterables
  | iseq (a : E) | irng (a : E) | irng2 (a b : E) | ienum (a : E) | izip (a : E) | izip3 (a : E)
  -- statements
  | skip | seq (a r : E)
  | set (g e : E) | ret (e : E) | retN | expr (e : E) | pass | cont | brk
  | sif (c a b : E) | whl (c b : E) | sfor (g it b : E) | raise (c : Nat) (a : E)
  | stl (o i e : E) | std (o i e : E) | setC (i : Nat) (e : E) | par (js : List Nat) (a : E)

/-- slots -/
abbrev Sl := List (Option PV)

/-- what an iteration walks -/
inductive It where
  | l (i : Nat) | t (xs : List PV) | r (lo : Int) (n : Nat) | en (j : It) | zp (a b : It) | zp3 (a b c : It)

/-- what a list or a tuple that is walked holds -/
def It.items : It → Sto → Option (List PV)
  | .l i, s => s.getL i
  | .t xs, _ => some xs
  | _, _ => none
/-- the item at a turn: none: stuck; some none: the end -/
def It.at : It → Nat → Sto → Option (Option PV)
  | .l i, k, s => match s.getL i with | some xs => some xs[k]? | none => none
  | .t xs, k, _ => some xs[k]?
  | .r lo n, k, _ => some (if k < n then some (.int (lo + (k : Int))) else none)
  | .en j, k, s => match j.items s with
    | none => none
    | some xs => match xs[k]? with
      | some v => some (some (.tup [.int (k : Int), v]))
      | none => if Nat.beq k xs.length then some none else none
  | .zp a b, k, s => match a.items s, b.items s with
    | some xs, some ys => (match xs[k]?, ys[k]? with
      | some v, some u => some (some (.tup [v, u]))
      | _, _ => if Nat.beq k (min xs.length ys.length) then some none else none)
    | _, _ => none
  | .zp3 a b c, k, s => match a.items s, b.items s, c.items s with
    | some xs, some ys, some zs => (match xs[k]?, ys[k]?, zs[k]? with
      | some v, some u, some w => some (some (.tup [v, u, w]))
      | _, _, _ => if Nat.beq k (min (min xs.length ys.length) zs.length) then some none else none)
    | _, _, _ => none
/-- how many turns at most -/
def It.most : It → Sto → Nat
  | .l i, s => match s.getL i with | some xs => xs.length | none => 0
  | .t xs, _ => xs.length
  | .r _ n, _ => n
  | .en j, s => j.most s
  | .zp a b, s => min (a.most s) (b.most s)
  | .zp3 a b c, s => min (a.most s) (min (b.most s) (c.most s))


/-! ### what repr shows -/
mutual
def okR : PyData → Bool
  | .none => true
  | .bool _ => true
  | .int i => decide (i.natAbs.log2 < 1920)
  | .str x => x.cps.toList.all fun c => decide (c < 4294967296)
  | .list xs => okRs xs
  | .tuple xs => okRs xs
  | .dict _ => false
def okRs : List PyData → Bool
  | [] => true
  | x :: xs => okR x && okRs xs
end
mutual
/-- at most so long -/
def wid : PyData → Nat
  | .none => 4
  | .bool _ => 5
  | .int _ => 1921
  | .str x => 10 * x.length + 2
  | .list xs => wids xs + 2
  | .tuple xs => wids xs + 4
  | .dict _ => 0
def wids : List PyData → Nat
  | [] => 0
  | x :: xs => wid x + 2 + wids xs
end
mutual
def sameD : PyData → PyData → Bool
  | .none, e => match e with | .none => true | _ => false
  | .bool a, e => match e with | .bool b => decide (a = b) | _ => false
  | .int a, e => match e with | .int b => decide (a = b) | _ => false
  | .str a, e => match e with | .str b => decide (a = b) | _ => false
  | .list a, e => match e with | .list b => sameDs a b | _ => false
  | .tuple a, e => match e with | .tuple b => sameDs a b | _ => false
  | .dict _, _ => false
def sameDs : List PyData → List PyData → Bool
  | [], es => match es with | [] => true | _ => false
  | d :: ds, es => match es with | e :: es => sameD d e && sameDs ds es | [] => false
end
/-! ### evaluation -/
def mapO {α β : Type} (f : α → Option β) : List α → Option (List β)
  | [] => some []
  | x :: r => match f x with
    | none => none
    | some y => match mapO f r with
      | none => none
      | some ys => some (y :: ys)

/-- the data that a value is -/
def toD (s : Sto) : Nat → PV → Option PyData
  | 0, _ => none
  | n + 1, v => match v with
    | .non => some .none
    | .bl b => some (.bool b)
    | .int i => some (.int i)
    | .str x => some (.str x)
    | .tup xs => match mapO (toD s n) xs with | some ds => some (.tuple ds) | none => none
    | .lst i => match s.getL i with
      | some xs => match mapO (toD s n) xs with | some ds => some (.list ds) | none => none
      | none => none
    | .dct _ => none
    | .rep _ => none

def isRep : PV → Option PyData
  | .rep d => some d
  | _ => none
def eqP (s : Sto) (a b : PV) : Option Bool := match isRep a with
  | some d => (match isRep b with | some e => if sameD d e then some true else none | none => none)
  | none => match toD s 60 a, toD s 60 b with
  | some d, some e => if SeqAt.shaped d && SeqAt.shaped e then some (PyData.eqv d e) else none
  | _, _ => none

def cap : Nat := 10000

def getW (s : Sto) (i : Nat) : Option (List PV) := match look i s.os with
  | some (.lst xs) => some xs
  | _ => none

def evBin (o : Bop) (a b : PV) (s : Sto) : Res PV := match o, a, b with
  | .add, .int i, .int j => .ok (.int (i + j)) s
  | .add, .tup xs, .tup ys => if xs.length + ys.length ≤ cap then .ok (.tup (xs ++ ys)) s else .bad
  | .add, .lst i, .lst j => match getW s i, getW s j with
    | some xs, some ys => if xs.length + ys.length ≤ cap then .ok (.lst s.n) (s.new (.lst (xs ++ ys))) else .bad
    | _, _ => .bad
  | .sub, .int i, .int j => .ok (.int (i - j)) s
  | .mul, .int i, .int j => if i.natAbs.log2 + j.natAbs.log2 < 1000000 then .ok (.int (i * j)) s else .bad
  | .mul, .tup xs, .int k => if decide (2 ≤ k) && decide (k ≤ 1000) && decide (xs.length ≤ 1000) && !xs.isEmpty then .ok (.tup (List.replicate k.toNat xs).flatten) s else .bad
  | .fdiv, .int i, .int j => if decide (0 < j) && decide (j.natAbs.log2 < 9000) then .ok (.int (i / j)) s else .bad
  | .mod, .int i, .int j => if 0 < j then .ok (.int (i % j)) s else .bad
  | .pow, .int i, .int j => if decide (0 ≤ j) && decide (j ≤ 1000) && decide (i.natAbs < 18446744073709551616) then .ok (.int (i ^ j.toNat)) s else .bad
  | _, _, _ => .bad

/-- flat things -/
def flatP : PV → Option V
  | .non => some .non | .bl b => some (.bl b) | .int i => some (.int i) | .str x => some (.str x)
  | _ => none
/-- x in a list of data, or in a tuple of flat things -/
def inP (s : Sto) (a b : PV) : Option Bool := match b with
  | .lst _ => match toD s 60 a, toD s 60 b with
    | some d, some (.list ds) => if SeqAt.shaped d && SeqAt.shaped (.list ds) then some (ds.any fun z => PyData.eqv z d) else none
    | _, _ => none
  | .tup xs => match flatP a, mapO flatP xs with
    | some v, some vs => some (inV v vs)
    | _, _ => match toD s 60 a, toD s 60 b with
      | some d, some (.tuple ds) => if SeqAt.shaped d && SeqAt.shaped (.tuple ds) then some (ds.any fun z => PyData.eqv z d) else none
      | _, _ => none
  | _ => none
def isNonP : PV → Bool
  | .non => true
  | _ => false
def evCmp (o : Cop) (a b : PV) (s : Sto) : Res PV := match o with
  | .eq => match eqP s a b with | some k => .ok (.bl k) s | none => .bad
  | .ne => match eqP s a b with | some k => .ok (.bl (!k)) s | none => .bad
  | .lt => match a, b with | .int i, .int j => .ok (.bl (decide (i < j))) s | _, _ => .bad
  | .le => match a, b with | .int i, .int j => .ok (.bl (decide (i ≤ j))) s | _, _ => .bad
  | .gt => match a, b with | .int i, .int j => .ok (.bl (decide (j < i))) s | _, _ => .bad
  | .ge => match a, b with | .int i, .int j => .ok (.bl (decide (j ≤ i))) s | _, _ => .bad
  | .isN => match b with | .non => .ok (.bl (isNonP a)) s | _ => .bad
  | .notN => match b with | .non => .ok (.bl (!isNonP a)) s | _ => .bad
  | .inn => match inP s a b with | some k => .ok (.bl k) s | none => .bad
  | .notin => match inP s a b with | some k => .ok (.bl (!k)) s | none => .bad
  | .isB => match a, b with | .bl i, .bl j => .ok (.bl (decide (i = j))) s | _, _ => .bad
  | .notB => match a, b with | .bl i, .bl j => .ok (.bl (!decide (i = j))) s | _, _ => .bad

def isTy : Ty → PV → Bool
  | .int, .int _ => true
  | .int, .bl _ => true
  | .bool, .bl _ => true
  | .tuple, .tup _ => true
  | .str, .str _ => true
  | .list, .lst _ => true
  | _, _ => false

/-- .. of a value that stands -/
def isTyS (s : Sto) (t : Ty) : PV → Option Bool
  | .lst i => match s.getL i with | some _ => some (isTy t (.lst i)) | none => none
  | .dct _ => none
  | .rep _ => none
  | v => some (isTy t v)

def seqOf (s : Sto) : PV → Option (List PV)
  | .tup xs => some xs
  | .lst i => s.getL i
  | _ => none

def evIdx (a b : PV) (s : Sto) : Res PV := match b with
  | .int i => match seqOf s a with
    | some xs => match atI xs i with | some v => .ok v s | none => .bad
    | none => .bad
  | _ => .bad

def isNo : E → Bool
  | .no => true
  | _ => false
/-- an end of a slice -/
def partOf (c : E) (v : PV) : Option (Option Int) := if isNo c then some none else match v with
  | .int i => some (some i)
  | _ => none

def cutP (xs : List PV) (lo hi : Option Int) : List PV := (xs.drop (HT.sIx xs.length 0 lo)).take (HT.sIx xs.length xs.length hi - HT.sIx xs.length 0 lo)
def evSlice (a : PV) (l h : Option Int) (s : Sto) : Res PV := match a with
  | .tup xs => .ok (.tup (cutP xs l h)) s
  | .lst i => match s.getL i with
    | some xs => .ok (.lst s.n) (s.new (.lst (cutP xs l h)))
    | none => .bad
  | _ => .bad

def bools : List PV → Option (List Bool)
  | [] => some []
  | .bl b :: r => match bools r with | some bs => some (b :: bs) | none => none
  | _ => none

def intsP : List PV → Option (List Int)
  | [] => some []
  | .int i :: r => match intsP r with | some ns => some (i :: ns) | none => none
  | _ => none
def maxI : Int → List Int → Int
  | n, [] => n
  | n, m :: r => maxI (if n < m then m else n) r
def keyOf : PV → Option Key
  | .int i => some (.inl i)
  | .str x => some (.inr x)
  | _ => none
def valP (k : Key) : List (Key × PV) → Option PV
  | [] => none
  | (j, v) :: r => if decide (j = k) then some v else valP k r
def putP (k : Key) (v : PV) (kvs : List (Key × PV)) : List (Key × PV) :=
  if (kvs.any fun kv => decide (kv.1 = k)) = true then kvs.map (fun kv => if kv.1 = k then (kv.1, v) else kv) else kvs ++ [(k, v)]
def getD (s : Sto) (i : Nat) : Option (List (Key × PV)) := match look i s.os with
  | some (.dct kvs) => some kvs
  | _ => none
/-- key, value, key, value .. -/
def pairsP : List PV → Option (List (Key × PV))
  | [] => some []
  | k :: v :: r => match keyOf k, pairsP r with
    | some k, some kvs => some ((k, v) :: kvs)
    | _, _ => none
  | _ => none
def noTwice : List (Key × PV) → Bool
  | [] => true
  | (k, _) :: r => (valP k r).isNone && noTwice r
def evBlt (b : Blt) (as : List PV) (s : Sto) : Res PV := match b, as with
  | .len, [x] => match seqOf s x with | some xs => .ok (.int (xs.length : Int)) s | none => .bad
  | .abs, [.int i] => .ok (.int (if i < 0 then -i else i)) s
  | .int, [.int i] => .ok (.int i) s
  | .int, [.bl k] => .ok (.int (if k then 1 else 0)) s
  | .tuple, [.tup xs] => .ok (.tup xs) s
  | .tuple, [.lst i] => match s.getL i with | some xs => .ok (.tup xs) s | none => .bad
  | .list, [x] => match seqOf s x with | some xs => .ok (.lst s.n) (s.new (.lst xs)) | none => .bad
  | .all, [.lst i] => match s.getL i with
    | some xs => (match bools xs with | some bs => .ok (.bl (bs.all id)) s | none => .bad)
    | none => .bad
  | .any, [.lst i] => match s.getL i with
    | some xs => (match bools xs with | some bs => .ok (.bl (bs.any id)) s | none => .bad)
    | none => .bad
  | .min2, [.int i, .int j] => .ok (.int (if j < i then j else i)) s
  | .repr, [x] => match toD s 60 x with
    | some d => if okR d && decide (wid d ≤ 16000000) && decide (d.depth ≤ 60) then .ok (.rep d) s else .bad
    | none => .bad
  | .maxL, [.lst i] => match s.getL i with
    | some xs => (match intsP xs with | some (n :: ns) => .ok (.int (maxI n ns)) s | _ => .bad)
    | none => .bad
  | _, _ => .bad

/-- what a method is asked of -/
def recv (m : Mt) (x : PV) (s : Sto) : Bool := match m, x with
  | .index, .lst i => (s.getL i).isSome
  | _, _ => false
/-- the first place of an equal one -/
def indexD (d : PyData) : List PyData → Nat → Option Nat
  | [], _ => none
  | z :: zs, k => if PyData.eqv z d then some k else indexD d zs (k + 1)
def evMeth (m : Mt) (x : PV) (as : List PV) (s : Sto) : Res PV := match m, x, as with
  | .index, .lst i, [y] => match toD s 60 (.lst i), toD s 60 y with
    | some (.list ds), some d => if SeqAt.shaped d && SeqAt.shaped (.list ds) then (match indexD d ds 0 with | some j => .ok (.int (j : Int)) s | none => .bad) else .bad
    | _, _ => .bad
  | _, _, _ => .bad
/-- a value laid into a target of names and tuples -/
def lay : E → PV → Sl → Option Sl
  | .tn i, v, σ => some (σ.set i (some v))
  | .tt a, .tup xs, σ => lay a (.tup xs) σ
  | .nil, .tup [], σ => some σ
  | .cons a r, .tup (x :: xs), σ => match lay a x σ with | some σ1 => lay r (.tup xs) σ1 | none => none
  | _, _, _ => none

/-- how a statement ends -/
inductive Fl where
  | nx (σ : Sl) | rt (v : PV) | bk (σ : Sl) | ct (σ : Sl)

/-- a comprehension's turns -/
def turns (j : It) (body : PV → Sto → Res (Option PV)) : Nat → Nat → List PV → Sto → Res (List PV)
  | 0, k, acc, s => match j.at k s with | some none => .ok acc s | _ => .bad
  | m + 1, k, acc, s => match j.at k s with
    | some (some v) => match body v s with
      | .ok (some y) s1 => if acc.length < cap then turns j body m (k + 1) (acc ++ [y]) s1 else .bad
      | .ok none s1 => turns j body m (k + 1) acc s1
      | .exc c fs s1 => .exc c fs s1
      | .bad => .bad
    | some none => .ok acc s
    | none => .bad

/-- turns that only change the store -/
def turnsS (j : It) (body : PV → Sto → Res Unit) : Nat → Nat → Sto → Res Unit
  | 0, k, s => match j.at k s with | some none => .ok () s | _ => .bad
  | m + 1, k, s => match j.at k s with
    | some (some v) => match body v s with
      | .ok _ s1 => turnsS j body m (k + 1) s1
      | _ => .bad
    | some none => .ok () s
    | none => .bad
/-- a value is added to the list with a number -/
def addTo (d : Nat) (z : PV) (s : Sto) : Res Unit := match getW s d with
  | some ys => if ys.length < cap then .ok () ⟨s.n, put d (.lst (ys ++ [z])) s.os⟩ else .bad
  | none => .bad
/-- a turn of the inner clause -/
def stepU (d : Nat) (fc fe : Sl → Sto → Res PV) (o : Option Sl) (s : Sto) : Res Unit := match o with
  | none => .bad
  | some σ2 => match fc σ2 s with
    | .ok (.bl true) s6 => (match fe σ2 s6 with | .ok z s7 => addTo d z s7 | _ => .bad)
    | .ok (.bl false) s6 => .ok () s6
    | _ => .bad
/-- a turn of the outer clause -/
def stepO (fc : Sl → Sto → Res PV) (fi : Sl → Sto → Res It) (fin : Sl → It → Sto → Res Unit) (o : Option Sl) (s : Sto) : Res Unit := match o with
  | none => .bad
  | some σ1 => match fc σ1 s with
    | .ok (.bl true) s3 => (match fi σ1 s3 with | .ok j1 s4 => fin σ1 j1 s4 | _ => .bad)
    | .ok (.bl false) s3 => .ok () s3
    | _ => .bad
def okLst (d : Nat) : Res Unit → Res PV
  | .ok _ s => .ok (.lst d) s
  | _ => .bad
def wipeP (σ : Sl) : List Nat → Sl
  | [] => σ
  | v :: vs => (wipeP σ vs).set v none

/-- a def: how many parameters, how many slots, its body -/
structure Df where
  np : Nat
  ns : Nat
  body : E
  pu : Bool
/-- the slots of a target -/
def slotsT : E → List Nat
  | .tn i => [i]
  | .tt a => slotsT a
  | .cons a r => slotsT a ++ slotsT r
  | _ => []
structure Tab where
  consts : List PV
  cnames : List Str
  fns : List Str
  defs : List Df
  fuel : Nat
  errs : List (Str × Str) := []
/-- an iteration over a list or a tuple -/
def seqIt (s : Sto) : PV → Option It
  | .tup xs => some (.t xs)
  | .lst i => match s.getL i with | some _ => some (.l i) | none => none
  | _ => none
def zip2 (s : Sto) (x y : PV) : Option It := match seqIt s x, seqIt s y with
  | some a, some b => some (.zp a b)
  | _, _ => none
def zip3 (s : Sto) (x y z : PV) : Option It := match seqIt s x, seqIt s y, seqIt s z with
  | some a, some b, some c => some (.zp3 a b c)
  | _, _, _ => none

mutual
def ev (T : Tab) (call : Nat → List PV → Sto → Res PV) : E → Sl → Sto → Res PV
  | .int i, _, s => .ok (.int i) s
  | .bl b, _, s => .ok (.bl b) s
  | .non, _, s => .ok .non s
  | .no, _, s => .ok .non s
  | .str x, _, s => .ok (.str x) s
  | .var i, σ, s => match σ[i]? with | some (some v) => .ok v s | _ => .bad
  | .glob k, _, s => match T.consts[k]? with | some v => .ok v s | none => .bad
  | .nil, _, s => .ok (.tup []) s
  | .cons a r, σ, s => match ev T call a σ s with
    | .ok v s1 => match ev T call r σ s1 with
      | .ok (.tup vs) s2 => .ok (.tup (v :: vs)) s2
      | .ok _ _ => .bad
      | .exc c fs s2 => .exc c fs s2
      | .bad => .bad
    | .exc c fs s1 => .exc c fs s1
    | .bad => .bad
  | .tup a, σ, s => match ev T call a σ s with
    | .ok (.tup vs) s1 => if vs.length ≤ cap then .ok (.tup vs) s1 else .bad
    | .ok _ _ => .bad
    | .exc c fs s1 => .exc c fs s1
    | .bad => .bad
  | .lst a, σ, s => match ev T call a σ s with
    | .ok (.tup vs) s1 => if vs.length ≤ cap then .ok (.lst s1.n) (s1.new (.lst vs)) else .bad
    | .ok _ _ => .bad
    | .exc c fs s1 => .exc c fs s1
    | .bad => .bad
  | .bin o a b, σ, s => (ev T call a σ s).bind fun x s1 => (ev T call b σ s1).bind fun y s2 => evBin o x y s2
  | .cmp o a b, σ, s => (ev T call a σ s).bind fun x s1 => (ev T call b σ s1).bind fun y s2 => evCmp o x y s2
  | .chain o p a b c, σ, s => (ev T call a σ s).bind fun x s1 => (ev T call b σ s1).bind fun y s2 => (evCmp o x y s2).bind fun z s3 => match z with
    | .bl true => (ev T call c σ s3).bind fun u s4 => evCmp p y u s4
    | .bl false => .ok (.bl false) s3
    | _ => .bad
  | .neg a, σ, s => (ev T call a σ s).bind fun x s1 => match x with | .int i => .ok (.int (-i)) s1 | _ => .bad
  | .not a, σ, s => (ev T call a σ s).bind fun x s1 => match x with | .bl b => .ok (.bl (!b)) s1 | _ => .bad
  | .one a, σ, s => ev T call a σ s
  | .and a b, σ, s => (ev T call a σ s).bind fun x s1 => match x with | .bl true => ev T call b σ s1 | .bl false => .ok (.bl false) s1 | _ => .bad
  | .or a b, σ, s => (ev T call a σ s).bind fun x s1 => match x with | .bl true => .ok (.bl true) s1 | .bl false => ev T call b σ s1 | _ => .bad
  | .ife c a b, σ, s => (ev T call c σ s).bind fun x s1 => match x with | .bl true => ev T call a σ s1 | .bl false => ev T call b σ s1 | _ => .bad
  | .idx a b, σ, s => (ev T call a σ s).bind fun x s1 => (ev T call b σ s1).bind fun y s2 => evIdx x y s2
  | .slice a lo hi, σ, s => (ev T call a σ s).bind fun x s1 => (ev T call lo σ s1).bind fun y s2 => match partOf lo y with
    | none => .bad
    | some l => (ev T call hi σ s2).bind fun z s3 => match partOf hi z with
      | none => .bad
      | some h => evSlice x l h s3
  | .isi t a, σ, s => (ev T call a σ s).bind fun x s1 => match isTyS s1 t x with | some b => .ok (.bl b) s1 | none => .bad
  | .call f a, σ, s => (ev T call a σ s).bind fun x s1 => match x with | .tup vs => call f vs s1 | _ => .bad
  | .call0 f, σ, s => call f [] s
  | .blt b a, σ, s => (ev T call a σ s).bind fun x s1 => match x with | .tup vs => evBlt b vs s1 | _ => .bad
  | .meth m a b, σ, s => (ev T call a σ s).bind fun x s1 => if recv m x s1 then (ev T call b σ s1).bind fun y s2 => (match y with | .tup vs => evMeth m x vs s2 | _ => .bad) else .bad
  | .app a b, σ, s => (ev T call a σ s).bind fun x s1 => match x with
    | .lst i => match getW s1 i with
      | some _ => (ev T call b σ s1).bind fun y s2 => match getW s2 i with
        | some xs => if xs.length < cap then .ok .non ⟨s2.n, put i (.lst (xs ++ [y])) s2.os⟩ else .bad
        | none => .bad
      | none => .bad
    | _ => .bad
  | .star a r, σ, s => (ev T call a σ s).bind fun x s1 => match seqOf s1 x with
    | none => .bad
    | some xs => match ev T call r σ s1 with
      | .ok (.tup vs) s2 => .ok (.tup (xs ++ vs)) s2
      | .ok _ _ => .bad
      | .exc c fs s2 => .exc c fs s2
      | .bad => .bad
  | .dix a b, σ, s => (ev T call a σ s).bind fun x s1 => (ev T call b σ s1).bind fun y s2 => match x with
    | .dct i => match getD s2 i, keyOf y with
      | some kvs, some k => match valP k kvs with | some v => .ok v s2 | none => .bad
      | _, _ => .bad
    | _ => .bad
  | .ddisp a, σ, s => (ev T call a σ s).bind fun x s1 => match x with
    | .tup vs => match pairsP vs with
      | some kvs => if noTwice kvs && decide (kvs.length ≤ 15) then .ok (.dct s1.n) (s1.new (.dct kvs)) else .bad
      | none => .bad
    | _ => .bad
  | .rev a, σ, s => (ev T call a σ s).bind fun x s1 => match x with
    | .tup xs => if xs.length ≤ cap then .ok (.tup xs.reverse) s1 else .bad
    | _ => .bad
  | .comp own tg it c elt, σ, s => (evI T call it σ s).bind fun j s1 =>
      let σ0 := wipeP σ (own.map (·.2))
      (turns j (fun x s2 => match lay tg x σ0 with
        | none => .bad
        | some σ1 => match ev T call c σ1 s2 with
          | .ok (.bl true) s3 => match ev T call elt σ1 s3 with
            | .ok y s4 => .ok (some y) s4
            | _ => .bad
          | .ok (.bl false) s3 => .ok none s3
          | _ => .bad) (j.most s1) 0 [] s1).bind fun ys s5 => if ys.length ≤ cap then .ok (.lst s5.n) (s5.new (.lst ys)) else .bad
  | .comp2 own tg it c tg1 it1 c1 elt, σ, s => (evI T call it σ s).bind fun j s1 =>
      okLst s1.n (turnsS j (fun x s2 => stepO (fun σ s => ev T call c σ s) (fun σ s => evI T call it1 σ s)
        (fun σ1 j1 s4 => turnsS j1 (fun y s5 => stepU s1.n (fun σ s => ev T call c1 σ s) (fun σ s => ev T call elt σ s) (lay tg1 y (wipeP σ1 (slotsT tg1))) s5) (j1.most s4) 0 s4)
        (lay tg x (wipeP σ (own.map (·.2)))) s2) (j.most s1) 0 (s1.new (.lst [])))
  | _, _, _ => .bad
def evI (T : Tab) (call : Nat → List PV → Sto → Res PV) : E → Sl → Sto → Res It
  | .iseq a, σ, s => (ev T call a σ s).bind fun x s1 => match x with
    | .tup xs => .ok (.t xs) s1
    | .lst i => match s1.getL i with | some _ => .ok (.l i) s1 | none => .bad
    | _ => .bad
  | .irng a, σ, s => (ev T call a σ s).bind fun x s1 => match x with | .int j => if decide (-1000000 ≤ j) && decide (j ≤ 1000000) then .ok (.r 0 j.toNat) s1 else .bad | _ => .bad
  | .ienum a, σ, s => (ev T call a σ s).bind fun x s1 => match seqIt s1 x with
    | some j => .ok (.en j) s1
    | none => .bad
  | .izip a, σ, s => (ev T call a σ s).bind fun x s1 => match x with
    | .tup [x, y] => match zip2 s1 x y with | some j => .ok j s1 | none => .bad
    | _ => .bad
  | .izip3 a, σ, s => (ev T call a σ s).bind fun x s1 => match x with
    | .tup [x, y, z] => match zip3 s1 x y z with | some j => .ok j s1 | none => .bad
    | _ => .bad
  | _, _, _ => .bad
end

/-! ### statements -/
def layN : List Nat → List PV → Sl → Option Sl
  | [], [], σ => some σ
  | j :: js, v :: vs, σ => layN js vs (σ.set j (some v))
  | _, _, _ => none
/-- turns of a while -/
def whileF (tc : Sl → Sto → Res PV) (tb : Sl → Sto → Res Fl) : Nat → Sl → Sto → Res Fl
  | 0, _, _ => .bad
  | m + 1, σ, s => match tc σ s with
    | .ok (.bl true) s1 => match tb σ s1 with
      | .ok (.nx σ2) s2 => whileF tc tb m σ2 s2
      | .ok (.ct σ2) s2 => whileF tc tb m σ2 s2
      | .ok (.bk σ2) s2 => .ok (.nx σ2) s2
      | .ok (.rt v) s2 => .ok (.rt v) s2
      | .exc c fs s2 => .exc c fs s2
      | .bad => .bad
    | .ok (.bl false) s1 => .ok (.nx σ) s1
    | .ok _ _ => .bad
    | .exc c fs s1 => .exc c fs s1
    | .bad => .bad
/-- turns of a for -/
def forF (j : It) (g : PV → Sl → Option Sl) (tb : Sl → Sto → Res Fl) : Nat → Nat → Sl → Sto → Res Fl
  | 0, k, σ, s => match j.at k s with | some none => .ok (.nx σ) s | _ => .bad
  | m + 1, k, σ, s => match j.at k s with
    | some none => .ok (.nx σ) s
    | none => .bad
    | some (some v) => match g v σ with
      | none => .bad
      | some σ1 => match tb σ1 s with
        | .ok (.nx σ2) s2 => forF j g tb m (k + 1) σ2 s2
        | .ok (.ct σ2) s2 => forF j g tb m (k + 1) σ2 s2
        | .ok (.bk σ2) s2 => .ok (.nx σ2) s2
        | .ok (.rt v) s2 => .ok (.rt v) s2
        | .exc c fs s2 => .exc c fs s2
        | .bad => .bad
def setAt (xs : List PV) (k : Int) (v : PV) : Option (List PV) := match ixN xs.length k with
  | some j => some (xs.set j v)
  | none => none
def ex (T : Tab) (call : Nat → List PV → Sto → Res PV) : E → Sl → Sto → Res Fl
  | .skip, σ, s => .ok (.nx σ) s
  | .seq a r, σ, s => match ex T call a σ s with
    | .ok (.nx σ1) s1 => ex T call r σ1 s1
    | .ok (.rt v) s1 => .ok (.rt v) s1
    | .ok (.bk σ1) s1 => .ok (.bk σ1) s1
    | .ok (.ct σ1) s1 => .ok (.ct σ1) s1
    | .exc c fs s1 => .exc c fs s1
    | .bad => .bad
  | .set g e, σ, s => (ev T call e σ s).bind fun v s1 => match lay g v σ with | some σ1 => .ok (.nx σ1) s1 | none => .bad
  | .setC i e, σ, s => (ev T call e σ s).bind fun v s1 => .ok (.nx (σ.set i (some v))) s1
  | .par js a, σ, s => (ev T call a σ s).bind fun v s1 => match v with
    | .tup vs => match layN js vs σ with | some σ1 => .ok (.nx σ1) s1 | none => .bad
    | _ => .bad
  | .ret e, σ, s => (ev T call e σ s).bind fun v s1 => .ok (.rt v) s1
  | .retN, _, s => .ok (.rt .non) s
  | .expr e, σ, s => (ev T call e σ s).bind fun _ s1 => .ok (.nx σ) s1
  | .pass, σ, s => .ok (.nx σ) s
  | .cont, σ, s => .ok (.ct σ) s
  | .brk, σ, s => .ok (.bk σ) s
  | .sif c a b, σ, s => (ev T call c σ s).bind fun v s1 => match v with
    | .bl true => ex T call a σ s1
    | .bl false => ex T call b σ s1
    | _ => .bad
  | .whl c b, σ, s => whileF (fun σ s => ev T call c σ s) (fun σ s => ex T call b σ s) T.fuel σ s
  | .sfor g it b, σ, s => (evI T call it σ s).bind fun j s1 => forF j (fun v σ => lay g v σ) (fun σ s => ex T call b σ s) (j.most s1) 0 σ s1
  | .stl o i e, σ, s => (ev T call e σ s).bind fun v s1 => (ev T call o σ s1).bind fun x s2 => (ev T call i σ s2).bind fun y s3 => match x, y with
    | .lst n, .int k => match getW s3 n with
      | some xs => match setAt xs k v with
        | some ys => .ok (.nx σ) ⟨s3.n, put n (.lst ys) s3.os⟩
        | none => .bad
      | none => .bad
    | _, _ => .bad
  | .std o i e, σ, s => (ev T call e σ s).bind fun v s1 => (ev T call o σ s1).bind fun x s2 => (ev T call i σ s2).bind fun y s3 => match x with
    | .dct n => match getD s3 n, keyOf y with
      | some kvs, some k => if kvs.length < cap then .ok (.nx σ) ⟨s3.n, put n (.dct (putP k v kvs)) s3.os⟩ else .bad
      | _, _ => .bad
    | _ => .bad
  | .raise c a, σ, s => (ev T call a σ s).bind fun v s1 => match v with
    | .tup vs => (match vs with | [u] => .exc c [u] s1 | _ => .bad)
    | _ => .bad
  | _, _, _ => .bad

mutual
/-- no list, no dict stands in it -/
def pureV : PV → Bool
  | .tup xs => pureVs xs
  | .lst _ => false
  | .dct _ => false
  | .non => true
  | .bl _ => true
  | .int _ => true
  | .str _ => true
  | .rep _ => true
def pureVs : List PV → Bool
  | [] => true
  | x :: xs => pureV x && pureVs xs
end
/-- what a def's body gives -/
def outF : Res Fl → Res PV
  | .ok (.rt v) s => .ok v s
  | .ok (.nx _) s => .ok .non s
  | .ok _ _ => .bad
  | .exc c fs s => .exc c fs s
  | .bad => .bad
/-- out of an empty store back to the caller's -/
def backTo' (s : Sto) : Res PV → Res PV
  | .ok v _ => if pureV v then .ok v s else .bad
  | .exc c fs _ => if pureVs fs then .exc c fs s else .bad
  | .bad => .bad
def sto00 : Sto := ⟨0, []⟩
/-- a def's call; a pure one runs in an empty store -/
def runF (T : Tab) : Nat → Nat → List PV → Sto → Res PV
  | 0, _, _, _ => .bad
  | n + 1, f, vs, s => match T.defs[f]? with
    | none => .bad
    | some d => if Nat.beq vs.length d.np then (if d.pu then (if pureVs vs then backTo' s (outF (ex T (runF T n) d.body (vs.map some ++ List.replicate (d.ns - d.np) none) sto00)) else .bad)
      else outF (ex T (runF T n) d.body (vs.map some ++ List.replicate (d.ns - d.np) none) s)) else .bad
end FI

/-! enumerate and zip over lists and tuples in any mixture -/
namespace PySem
theorem meets_enumerate_new1 {v : Value} {o : Obj} {H : Heap → Prop} (B : Begins v o H) :
    Meets (Builtin.«enumerate.__new__» ⟨[.type "enumerate", v], []⟩) (fun _ R s => H s.heap ∧
      R (.ok (.ret (.ref (s.heap.push o).objs.size))) { s with heap := (s.heap.push o).push { cls := .type "enumerate", data := .fields #[.none, .bool false, .ref s.heap.objs.size, rawInt 0, .none, .none] } }) :=
  .of_wp fun prog w A R s h => by
    obtain ⟨hp, g, d, tk, os⟩ := s; obtain ⟨h1, h⟩ := h
    have hsub := sub_enumerate
    have q1 : ∀ {A' : Around} {E : Value → Shared → Prop} {Q : Value → Shared → Prop}, Q (.ref hp.objs.size) ⟨hp.push o, g, d, tk, os⟩ → wpAny (model prog w) A' (pyIter v) Q E ⟨hp, g, d, tk, os⟩ :=
      fun q => B.iter prog w _ _ ⟨hp, g, d, tk, os⟩ _ h1 q
    wp_walk using q1
    refine wpAny_stack_any fun st => wpAny_pure ?_
    split
    · rename_i c _ _ _ _ _
      cases (c == Value.type "enumerate")
      · wp_walk using q1
        exact ⟨_, rfl, h⟩
      · wp_walk using q1
        exact ⟨_, rfl, h⟩
    · wp_walk using q1
      exact ⟨_, rfl, h⟩
theorem enum_begins1 {prog : Program} {w : World} {A : Around} {E : Value → Shared → Prop} {s : Shared} {v : Value} {o : Obj} {H : Heap → Prop} {Q : Value → Shared → Prop} (B : Begins v o H) (h1 : H s.heap)
    (h : ∀ h', IsEnum h' (s.heap.objs.size + 1) s.heap.objs.size 0 .none → h'.get? s.heap.objs.size = some o → h'.objs.size = s.heap.objs.size + 2 →
      (∀ b o, s.heap.get? b = some o → h'.get? b = some o) → Q (.ref (s.heap.objs.size + 1)) { s with heap := h' }) :
    wpAny (model prog w) A (call (.type "enumerate") [v]) Q E s := by
  refine callType_new F.called_enumerate (by decide) (F.typeCall_enumerate_1 _) (F.newCall_enumerate_1 _) (fun obj => F.args_object_init_2 obj _) F.entry_enumerate_new
    (meets_enumerate_new1 B) ⟨h1, ?_⟩
  have hz : (s.heap.push o).objs.size = s.heap.objs.size + 1 := Heap.size_push ..
  show _ ∧ _
  rw [hz]
  have he : IsEnum ((s.heap.push o).push { cls := .type "enumerate", data := .fields #[.none, .bool false, .ref s.heap.objs.size, rawInt 0, .none, .none] }) (s.heap.objs.size + 1) s.heap.objs.size 0 .none := by
    have := Heap.get?_push_size (s.heap.push o) (o := { cls := .type "enumerate", data := .fields #[.none, .bool false, .ref s.heap.objs.size, rawInt 0, .none, .none] }) rfl
    rw [hz] at this; exact this
  refine ⟨⟨_, he, rfl⟩, h _ he (Heap.get?_push_of_some _ (Heap.get?_push_size _ B.free)) (by rw [Heap.size_push, hz]) fun b o x => Heap.get?_push_of_some _ (Heap.get?_push_of_some _ x)⟩
end PySem
namespace FI
open PySem PySem.Spec PyProof.Rows L2

/-- a list (true) or a tuple: its iterator, its object, what is read -/
def ItAt (h : Heap) : Bool → Addr → Addr → Nat → Prop
  | true, it, a, i => h.IsListIter it a i
  | false, it, a, i => h.IsTupleIter it a i
def IsSeqK (h : Heap) : Bool → Addr → Array Value → Prop
  | true, a, xs => h.IsList a xs
  | false, a, xs => h.IsTuple a xs
def SqK (K : PySem.W.Frag) (H : Hp) : Bool → Addr → List V → Prop
  | true, a, xs => SqL K H a xs
  | false, a, xs => SqT K H a xs
def itObj : Bool → Addr → Obj
  | true, a => { cls := .type "list_iterator", data := .fields #[.ref a, .int 0 0] }
  | false, a => { cls := .type "tuple_iterator", data := .fields #[.ref a, .int 0 0] }
theorem itAt_obj {h : Heap} {b : Bool} {it a : Addr} {i : Nat} (x : ItAt h b it a i) : ∃ o, h.get? it = some o ∧ ∀ v, o.data ≠ .cell v := by
  cases b with
  | true => obtain ⟨o, e, _, d⟩ := x; exact ⟨o, e, fun v q => by rw [d] at q; cases q⟩
  | false => obtain ⟨o, e, _, d⟩ := x; exact ⟨o, e, fun v q => by rw [d] at q; cases q⟩
theorem itAt_keep {h h' : Heap} {b : Bool} {it a : Addr} {i : Nat} (x : ItAt h b it a i) (k : ∀ o, h.get? it = some o → h'.get? it = some o) : ItAt h' b it a i := by
  cases b with
  | true => exact (show h.IsListIter it a i from x).at fun o q => k o q
  | false => exact (show h.IsTupleIter it a i from x).at fun o q => k o q
theorem itAt_new {h : Heap} {b : Bool} {it a : Addr} (x : h.get? it = some (itObj b a)) : ItAt h b it a 0 := by
  cases b with
  | true => exact ⟨_, x, rfl, rfl⟩
  | false => exact ⟨_, x, rfl, rfl⟩
theorem begins_k (b : Bool) (a : Addr) (xs : Array Value) : Begins (.ref a) (itObj b a) fun h => IsSeqK h b a xs := by
  cases b with
  | true => exact begins_list a xs
  | false => exact begins_tuple a xs
theorem draws_k {prog : Program} {w : World} {A : Around} (hh : A.handled = none) (b : Bool) (it a : Addr) (hne : a ≠ it) (xs : Array Value) :
    Draws prog w A it [it, a] xs.size (fun i v => xs[i]? = some v) (fun i h => ItAt h b it a i ∧ IsSeqK h b a xs) := by
  cases b with
  | true => exact Draws.list hh it a hne xs
  | false => exact Draws.tuple hh it a hne xs
section
variable {X : Cx} {pins : List (Addr × Obj)} {σ : L2.St} {H : Hp} {s : Shared}
theorem inv_seq (I : Inv X pins σ H s) {b : Bool} {a : Addr} {xs : List V} (h : SqK X.K H b a xs) : ∃ its : List Value, Vals xs its ∧ IsSeqK s.heap b a its.toArray ∧ a < s.heap.objs.size := by
  cases b with
  | true =>
    obtain ⟨its, r, p, _⟩ := I.list h
    exact ⟨its, r, p.isList, p.lt⟩
  | false =>
    obtain ⟨its, r, p, _⟩ := I.tuple h
    obtain ⟨o, e, q⟩ := id p
    exact ⟨its, r, p, Heap.lt_size e⟩
theorem inv_seq_inj (I : Inv X pins σ H s) {b : Bool} {a : Addr} {xs ys : List V} (h : SqK X.K H b a xs) (h' : SqK X.K H b a ys) : ys = xs := by
  cases b with
  | true => exact I.list_inj h' h
  | false => exact I.tuple_inj h' h
end
/-! ### enumerate -/
def IteK (K : PySem.W.Frag) (b : Bool) (a : Addr) : L2.It :=
  ⟨fun i H => ∃ (xs : List V) (x : V), SqK K H b a xs ∧ xs[i]? = some x,
    fun i H v H' => ∃ T x, v = .ref T ∧ H T = none ∧ H' = upd H T (.tup [.int ((i : Nat) : Int), x]) ∧ ∀ xs, SqK K H b a xs → xs[i]? = some x,
    fun i H => ∃ xs : List V, SqK K H b a xs ∧ i = xs.length⟩
theorem turn_enumK {P : Program} {w : World} {K : PySem.W.Frag} {elts : List Expr} {kk : Nat} {tpos : Pos} (b : Bool) (a e it : Addr) (hae : a ≠ e) (hai : a ≠ it) (hei : e ≠ it) :
    Turn P w K (.Tuple elts kk tpos) (IteK K b a) [e, it] e (fun i h => (∃ old, IsEnum h e it ((0 : Int) + (i : Int)) old) ∧ ItAt h b it a i) where
  mem := by simp
  obj := fun i h st c hc => by
    obtain ⟨⟨old, he⟩, hi⟩ := st
    have e' : c = e ∨ c = it := by simpa using hc
    rcases e' with z | z
    · rw [z]; exact ⟨_, he, fun v q => nomatch q⟩
    · rw [z]; exact itAt_obj hi
  keep := fun i h h' st k => let ⟨⟨old, he⟩, hi⟩ := st; ⟨⟨old, k e (by simp) _ he⟩, itAt_keep hi fun o q => k it (by simp) o q⟩
  item := by
    intro X hP hw hK hc i pins s σ H E I hf st hg
    subst hP hw hK
    obtain ⟨⟨old, he⟩, hit⟩ := st
    obtain ⟨xs, x, hq, hx⟩ := hg
    obtain ⟨its, rv, p, hlt⟩ := inv_seq I hq
    obtain ⟨u, hu, ru⟩ := rv.get hx
    have hil : i < its.toArray.size := by rw [List.size_toArray]; exact (List.getElem?_eq_some_iff.mp hu).1
    have G := GoesN.enumFrom (prog := X.prog) (w := X.w) (A := X.A) (elts := elts) (x1 := kk) (pos := tpos) 0 (draws_k (prog := X.prog) (w := X.w) (A := X.A.in1) (I.ok.hd hc) b it a hai its.toArray) e hei (by simp [hei, Ne.symm hae]) (by simp)
    refine G.goes i s _ E hil ⟨⟨old, he⟩, hit, p⟩ fun v h' tk hY st' hk htk => ?_
    obtain ⟨T, t, y, rfl, hT, hy, hTup⟩ := hY
    have hy : its.toArray[i]? = some y := hy
    have : y = u := by
      rw [List.getElem?_toArray, hu] at hy
      exact (Option.some.inj hy).symm
    subst this
    have new : ObjOk X.prog X.w (upd H T (.tup [.int ((i : Nat) : Int), x])) h' T (.tup [.int ((i : Nat) : Int), x]) :=
      ⟨by show 2 ≤ sizeLine; decide, [.int ((0 : Int) + (i : Int)) t, y], .cons ⟨_, by rw [Int.zero_add]⟩ (.cons ru .nil), hTup⟩
    have I1 := I.turnedNew (t' := tk) (ch := [e, it]) hk hf hT new
    refine ⟨.ref T, _, I1, rfl, ⟨T, x, rfl, I.hok.fresh hT, rfl, fun ys hy => by rw [inv_seq_inj I hq hy]; exact hx⟩, ⟨st'.1, st'.2.1⟩, fun c hc => ?_⟩
    have hlt' : c < s.heap.objs.size := by
      have e' : c = e ∨ c = it := by simpa using hc
      rcases e' with z | z
      · rw [z]; exact Heap.lt_size he
      · rw [z]; obtain ⟨o, q, _⟩ := itAt_obj hit; exact Heap.lt_size q
    rw [upd_ne (Nat.ne_of_lt (Nat.lt_of_lt_of_le hlt' hT))]
    exact (hf c hc).1
  done := by
    intro X hP hw hK hc i pins s σ H E I hf st hg
    subst hP hw hK
    obtain ⟨⟨old, he⟩, hit⟩ := st
    obtain ⟨xs, hq, hx⟩ := hg
    obtain ⟨its, rv, p, hlt⟩ := inv_seq I hq
    have hn : its.toArray.size = i := by rw [List.size_toArray, ← rv.length]; exact hx.symm
    have G := GoesN.enumFrom (prog := X.prog) (w := X.w) (A := X.A) (elts := elts) (x1 := kk) (pos := tpos) 0 (draws_k (prog := X.prog) (w := X.w) (A := X.A.in1) (I.ok.hd hc) b it a hai its.toArray) e hei (by simp [hei, Ne.symm hae]) (by simp)
    refine G.stops s (fun s1 => Inv X pins σ H s1) E (by rw [hn]; exact ⟨⟨old, he⟩, hit, p⟩) fun h' tk hk htk => I.turnedL (t' := tk) (ch := [e, it]) hk hf
  self := fun A i s Q E st h => let ⟨⟨_, he⟩, _⟩ := st; wpAny_pyIter_enum he h
/-! ### zip of two, of three -/
def Itz2K (K : PySem.W.Frag) (b1 b2 : Bool) (a1 a2 : Addr) : L2.It :=
  ⟨fun i H => ∃ (xs ys : List V) (x y : V), SqK K H b1 a1 xs ∧ SqK K H b2 a2 ys ∧ xs[i]? = some x ∧ ys[i]? = some y,
    fun i H v H' => ∃ T x y, v = .ref T ∧ H T = none ∧ H' = upd H T (.tup [x, y]) ∧ (∀ xs, SqK K H b1 a1 xs → xs[i]? = some x) ∧ ∀ ys, SqK K H b2 a2 ys → ys[i]? = some y,
    fun i H => ∃ xs ys : List V, SqK K H b1 a1 xs ∧ SqK K H b2 a2 ys ∧ i = min xs.length ys.length⟩
theorem turn_zip2K {P : Program} {w : World} {K : PySem.W.Frag} {elts : List Expr} {kk : Nat} {tpos : Pos} (N : Nat) (b1 b2 : Bool) (a1 a2 : Addr) (h1 : a1 < N) (h2 : a2 < N) :
    Turn P w K (.Tuple elts kk tpos) (Itz2K K b1 b2 a1 a2) [N + 4, N + 2, N + 3, N, N + 1] (N + 4) (fun i h => IsZip h (N + 4) (N + 2) (N + 3) .none ∧ IsTupOf2 h (N + 2) (.ref N) (.ref (N + 1)) ∧ (∃ x y, IsTupOf2 h (N + 3) x y) ∧ ItAt h b1 N a1 i ∧ ItAt h b2 (N + 1) a2 i) where
  mem := by simp
  obj := fun i h st c hc => by
    obtain ⟨hz, hTI, ⟨x, y, hTO⟩, hi1, hi2⟩ := st
    have e' : c = N + 4 ∨ c = N + 2 ∨ c = N + 3 ∨ c = N ∨ c = N + 1 := by simpa using hc
    rcases e' with q | q | q | q | q
    · rw [q]; exact ⟨_, hz, fun v q => nomatch q⟩
    · rw [q]; exact ⟨_, hTI, fun v q => nomatch q⟩
    · rw [q]; exact ⟨_, hTO, fun v q => nomatch q⟩
    · rw [q]; exact itAt_obj hi1
    · rw [q]; exact itAt_obj hi2
  keep := fun i h h' st k => by
    obtain ⟨hz, hTI, ⟨x, y, hTO⟩, hi1, hi2⟩ := st
    exact ⟨k _ (by simp) _ hz, k _ (by simp) _ hTI, ⟨x, y, k _ (by simp) _ hTO⟩, itAt_keep hi1 fun o q => k _ (by simp) o q, itAt_keep hi2 fun o q => k _ (by simp) o q⟩
  item := by
    intro X hP hw hK hc i pins s σ H E I hf st hg
    subst hP hw hK
    obtain ⟨hz, hTI, hTO, hi1, hi2⟩ := st
    obtain ⟨xs, ys, x, y, hqx, hqy, hx, hy⟩ := hg
    obtain ⟨is1, r1, p1, _⟩ := inv_seq I hqx
    obtain ⟨is2, r2, p2, _⟩ := inv_seq I hqy
    obtain ⟨u1, hu1, ru1⟩ := r1.get hx
    obtain ⟨u2, hu2, ru2⟩ := r2.get hy
    have hil : i < min is1.toArray.size is2.toArray.size := by
      rw [List.size_toArray, List.size_toArray]
      exact Nat.lt_min.mpr ⟨(List.getElem?_eq_some_iff.mp hu1).1, (List.getElem?_eq_some_iff.mp hu2).1⟩
    have G := GoesN.zip2 (prog := X.prog) (w := X.w) (A := X.A) (elts := elts) (x1 := kk) (pos := tpos) (zip_sep2 (N := N) (fp1 := [a1]) (fp2 := [a2]) (by simpa using h1) (by simpa using h2))
      (draws_k (prog := X.prog) (w := X.w) (A := X.A.in1) (I.ok.hd hc) b1 N a1 (Nat.ne_of_lt h1) is1.toArray) (draws_k (prog := X.prog) (w := X.w) (A := X.A.in1) (I.ok.hd hc) b2 (N + 1) a2 (Nat.ne_of_lt (Nat.lt_succ_of_lt h2)) is2.toArray)
    refine G.goes i s _ E hil ⟨hz, hTI, hTO, ⟨hi1, p1⟩, hi2, p2⟩ fun v h' tk hY st' hk htk => ?_
    obtain ⟨T, y1, y2, rfl, hT, hy1, hy2, hTup⟩ := hY
    have hy1 : is1.toArray[i]? = some y1 := hy1
    have hy2 : is2.toArray[i]? = some y2 := hy2
    have : y1 = u1 := by rw [List.getElem?_toArray, hu1] at hy1; exact (Option.some.inj hy1).symm
    subst this
    have : y2 = u2 := by rw [List.getElem?_toArray, hu2] at hy2; exact (Option.some.inj hy2).symm
    subst this
    have new : ObjOk X.prog X.w (upd H T (.tup [x, y])) h' T (.tup [x, y]) := ⟨by show 2 ≤ sizeLine; decide, [y1, y2], .cons ru1 (.cons ru2 .nil), hTup⟩
    have I1 := I.turnedNew (t' := tk) (ch := [N + 4, N + 2, N + 3, N, N + 1]) (fun c o hcn q => hk c o (fun z => hcn (by simp at z ⊢; rcases z with z | z | z | z <;> simp [z])) q) hf hT new
    obtain ⟨g1, g2, g3, g4, g5⟩ := st'
    refine ⟨.ref T, _, I1, rfl, ⟨T, x, y, rfl, I.hok.fresh hT, rfl, fun l hl => by rw [inv_seq_inj I hqx hl]; exact hx, fun l hl => by rw [inv_seq_inj I hqy hl]; exact hy⟩, ⟨g1, g2, g3, g4.1, g5.1⟩, fun c hcm => ?_⟩
    have hlt' : c < s.heap.objs.size := by
      obtain ⟨x0, y0, hTO⟩ := hTO
      have e' : c = N + 4 ∨ c = N + 2 ∨ c = N + 3 ∨ c = N ∨ c = N + 1 := by simpa using hcm
      have hz' : N + 4 < s.heap.objs.size := Heap.lt_size hz
      rcases e' with q | q | q | q | q <;> (rw [q]; first | exact hz' | exact Nat.lt_trans (by omega) hz')
    rw [upd_ne (Nat.ne_of_lt (Nat.lt_of_lt_of_le hlt' hT))]
    exact (hf c hcm).1
  done := by
    intro X hP hw hK hc i pins s σ H E I hf st hg
    subst hP hw hK
    obtain ⟨hz, hTI, hTO, hi1, hi2⟩ := st
    obtain ⟨xs, ys, hqx, hqy, hend⟩ := hg
    obtain ⟨is1, r1, p1, _⟩ := inv_seq I hqx
    obtain ⟨is2, r2, p2, _⟩ := inv_seq I hqy
    have hn : min is1.toArray.size is2.toArray.size = i := by rw [List.size_toArray, List.size_toArray, ← r1.length, ← r2.length]; exact hend.symm
    have G := GoesN.zip2 (prog := X.prog) (w := X.w) (A := X.A) (elts := elts) (x1 := kk) (pos := tpos) (zip_sep2 (N := N) (fp1 := [a1]) (fp2 := [a2]) (by simpa using h1) (by simpa using h2))
      (draws_k (prog := X.prog) (w := X.w) (A := X.A.in1) (I.ok.hd hc) b1 N a1 (Nat.ne_of_lt h1) is1.toArray) (draws_k (prog := X.prog) (w := X.w) (A := X.A.in1) (I.ok.hd hc) b2 (N + 1) a2 (Nat.ne_of_lt (Nat.lt_succ_of_lt h2)) is2.toArray)
    refine G.stops s (fun s1 => Inv X pins σ H s1) E (by rw [hn]; exact ⟨hz, hTI, hTO, ⟨hi1, p1⟩, hi2, p2⟩) fun h' tk hk htk => I.turnedL (t' := tk) (ch := [N + 4, N + 2, N + 3, N, N + 1]) (fun c o hcn q => hk c o (fun z => hcn (by simp at z ⊢; rcases z with z | z | z | z <;> simp [z])) q) hf
  self := fun A i s Q E st h => wpAny_pyIter_zip st.1 h
def Itz3K (K : PySem.W.Frag) (b1 b2 b3 : Bool) (a1 a2 a3 : Addr) : L2.It :=
  ⟨fun i H => ∃ (xs ys zs : List V) (x y z : V), SqK K H b1 a1 xs ∧ SqK K H b2 a2 ys ∧ SqK K H b3 a3 zs ∧ xs[i]? = some x ∧ ys[i]? = some y ∧ zs[i]? = some z,
    fun i H v H' => ∃ T x y z, v = .ref T ∧ H T = none ∧ H' = upd H T (.tup [x, y, z]) ∧ (∀ xs, SqK K H b1 a1 xs → xs[i]? = some x) ∧ (∀ ys, SqK K H b2 a2 ys → ys[i]? = some y) ∧ ∀ zs, SqK K H b3 a3 zs → zs[i]? = some z,
    fun i H => ∃ xs ys zs : List V, SqK K H b1 a1 xs ∧ SqK K H b2 a2 ys ∧ SqK K H b3 a3 zs ∧ i = min (min xs.length ys.length) zs.length⟩
theorem turn_zip3K {P : Program} {w : World} {K : PySem.W.Frag} {elts : List Expr} {kk : Nat} {tpos : Pos} (N : Nat) (b1 b2 b3 : Bool) (a1 a2 a3 : Addr) (h1 : a1 < N) (h2 : a2 < N) (h3 : a3 < N) :
    Turn P w K (.Tuple elts kk tpos) (Itz3K K b1 b2 b3 a1 a2 a3) [N + 5, N + 3, N + 4, N, N + 1, N + 2] (N + 5) (fun i h => IsZip h (N + 5) (N + 3) (N + 4) .none ∧ IsTupOf3 h (N + 3) (.ref N) (.ref (N + 1)) (.ref (N + 2)) ∧ (∃ x y z, IsTupOf3 h (N + 4) x y z) ∧ ItAt h b1 N a1 i ∧ ItAt h b2 (N + 1) a2 i ∧ ItAt h b3 (N + 2) a3 i) where
  mem := by simp
  obj := fun i h st c hc => by
    obtain ⟨hz, hTI, ⟨x, y, z, hTO⟩, hi1, hi2, hi3⟩ := st
    have e' : c = N + 5 ∨ c = N + 3 ∨ c = N + 4 ∨ c = N ∨ c = N + 1 ∨ c = N + 2 := by simpa using hc
    rcases e' with q | q | q | q | q | q
    · rw [q]; exact ⟨_, hz, fun v q => nomatch q⟩
    · rw [q]; exact ⟨_, hTI, fun v q => nomatch q⟩
    · rw [q]; exact ⟨_, hTO, fun v q => nomatch q⟩
    · rw [q]; exact itAt_obj hi1
    · rw [q]; exact itAt_obj hi2
    · rw [q]; exact itAt_obj hi3
  keep := fun i h h' st k => by
    obtain ⟨hz, hTI, ⟨x, y, z, hTO⟩, hi1, hi2, hi3⟩ := st
    exact ⟨k _ (by simp) _ hz, k _ (by simp) _ hTI, ⟨x, y, z, k _ (by simp) _ hTO⟩, itAt_keep hi1 fun o q => k _ (by simp) o q, itAt_keep hi2 fun o q => k _ (by simp) o q, itAt_keep hi3 fun o q => k _ (by simp) o q⟩
  item := by
    intro X hP hw hK hc i pins s σ H E I hf st hg
    subst hP hw hK
    obtain ⟨hz, hTI, hTO, hi1, hi2, hi3⟩ := st
    obtain ⟨xs, ys, zs, x, y, z, hqx, hqy, hqz, hx, hy, hzz⟩ := hg
    obtain ⟨is1, r1, p1, _⟩ := inv_seq I hqx
    obtain ⟨is2, r2, p2, _⟩ := inv_seq I hqy
    obtain ⟨is3, r3, p3, _⟩ := inv_seq I hqz
    obtain ⟨u1, hu1, ru1⟩ := r1.get hx
    obtain ⟨u2, hu2, ru2⟩ := r2.get hy
    obtain ⟨u3, hu3, ru3⟩ := r3.get hzz
    have hil : i < min (min is1.toArray.size is2.toArray.size) is3.toArray.size := by
      rw [List.size_toArray, List.size_toArray, List.size_toArray]
      exact Nat.lt_min.mpr ⟨Nat.lt_min.mpr ⟨(List.getElem?_eq_some_iff.mp hu1).1, (List.getElem?_eq_some_iff.mp hu2).1⟩, (List.getElem?_eq_some_iff.mp hu3).1⟩
    have G := GoesN.zip3 (prog := X.prog) (w := X.w) (A := X.A) (elts := elts) (x1 := kk) (pos := tpos) (zip_sep3 (N := N) (fp1 := [a1]) (fp2 := [a2]) (fp3 := [a3]) (by simpa using h1) (by simpa using h2) (by simpa using h3))
      (draws_k (prog := X.prog) (w := X.w) (A := X.A.in1) (I.ok.hd hc) b1 N a1 (Nat.ne_of_lt h1) is1.toArray) (draws_k (prog := X.prog) (w := X.w) (A := X.A.in1) (I.ok.hd hc) b2 (N + 1) a2 (Nat.ne_of_lt (Nat.lt_succ_of_lt h2)) is2.toArray)
      (draws_k (prog := X.prog) (w := X.w) (A := X.A.in1) (I.ok.hd hc) b3 (N + 2) a3 (Nat.ne_of_lt (Nat.lt_succ_of_lt (Nat.lt_succ_of_lt h3))) is3.toArray)
    refine G.goes i s _ E hil ⟨hz, hTI, hTO, ⟨hi1, p1⟩, ⟨hi2, p2⟩, hi3, p3⟩ fun v h' tk hY st' hk htk => ?_
    obtain ⟨T, y1, y2, y3, rfl, hT, hy1, hy2, hy3, hTup⟩ := hY
    have hy1 : is1.toArray[i]? = some y1 := hy1
    have hy2 : is2.toArray[i]? = some y2 := hy2
    have hy3 : is3.toArray[i]? = some y3 := hy3
    have : y1 = u1 := by rw [List.getElem?_toArray, hu1] at hy1; exact (Option.some.inj hy1).symm
    subst this
    have : y2 = u2 := by rw [List.getElem?_toArray, hu2] at hy2; exact (Option.some.inj hy2).symm
    subst this
    have : y3 = u3 := by rw [List.getElem?_toArray, hu3] at hy3; exact (Option.some.inj hy3).symm
    subst this
    have new : ObjOk X.prog X.w (upd H T (.tup [x, y, z])) h' T (.tup [x, y, z]) := ⟨by show 3 ≤ sizeLine; decide, [y1, y2, y3], .cons ru1 (.cons ru2 (.cons ru3 .nil)), hTup⟩
    have I1 := I.turnedNew (t' := tk) (ch := [N + 5, N + 3, N + 4, N, N + 1, N + 2]) (fun c o hcn q => hk c o (fun z => hcn (by simp at z ⊢; rcases z with z | z | z | z | z <;> simp [z])) q) hf hT new
    obtain ⟨g1, g2, g3, g4, g5, g6⟩ := st'
    refine ⟨.ref T, _, I1, rfl, ⟨T, x, y, z, rfl, I.hok.fresh hT, rfl, fun l hl => by rw [inv_seq_inj I hqx hl]; exact hx, fun l hl => by rw [inv_seq_inj I hqy hl]; exact hy, fun l hl => by rw [inv_seq_inj I hqz hl]; exact hzz⟩, ⟨g1, g2, g3, g4.1, g5.1, g6.1⟩, fun c hcm => ?_⟩
    have hlt' : c < s.heap.objs.size := by
      have e' : c = N + 5 ∨ c = N + 3 ∨ c = N + 4 ∨ c = N ∨ c = N + 1 ∨ c = N + 2 := by simpa using hcm
      have hz' : N + 5 < s.heap.objs.size := Heap.lt_size hz
      rcases e' with q | q | q | q | q | q <;> (rw [q]; first | exact hz' | exact Nat.lt_trans (by omega) hz')
    rw [upd_ne (Nat.ne_of_lt (Nat.lt_of_lt_of_le hlt' hT))]
    exact (hf c hcm).1
  done := by
    intro X hP hw hK hc i pins s σ H E I hf st hg
    subst hP hw hK
    obtain ⟨hz, hTI, hTO, hi1, hi2, hi3⟩ := st
    obtain ⟨xs, ys, zs, hqx, hqy, hqz, hend⟩ := hg
    obtain ⟨is1, r1, p1, _⟩ := inv_seq I hqx
    obtain ⟨is2, r2, p2, _⟩ := inv_seq I hqy
    obtain ⟨is3, r3, p3, _⟩ := inv_seq I hqz
    have hn : min (min is1.toArray.size is2.toArray.size) is3.toArray.size = i := by rw [List.size_toArray, List.size_toArray, List.size_toArray, ← r1.length, ← r2.length, ← r3.length]; exact hend.symm
    have G := GoesN.zip3 (prog := X.prog) (w := X.w) (A := X.A) (elts := elts) (x1 := kk) (pos := tpos) (zip_sep3 (N := N) (fp1 := [a1]) (fp2 := [a2]) (fp3 := [a3]) (by simpa using h1) (by simpa using h2) (by simpa using h3))
      (draws_k (prog := X.prog) (w := X.w) (A := X.A.in1) (I.ok.hd hc) b1 N a1 (Nat.ne_of_lt h1) is1.toArray) (draws_k (prog := X.prog) (w := X.w) (A := X.A.in1) (I.ok.hd hc) b2 (N + 1) a2 (Nat.ne_of_lt (Nat.lt_succ_of_lt h2)) is2.toArray)
      (draws_k (prog := X.prog) (w := X.w) (A := X.A.in1) (I.ok.hd hc) b3 (N + 2) a3 (Nat.ne_of_lt (Nat.lt_succ_of_lt (Nat.lt_succ_of_lt h3))) is3.toArray)
    refine G.stops s (fun s1 => Inv X pins σ H s1) E (by rw [hn]; exact ⟨hz, hTI, hTO, ⟨hi1, p1⟩, ⟨hi2, p2⟩, hi3, p3⟩) fun h' tk hk htk => I.turnedL (t' := tk) (ch := [N + 5, N + 3, N + 4, N, N + 1, N + 2]) (fun c o hcn q => hk c o (fun z => hcn (by simp at z ⊢; rcases z with z | z | z | z | z <;> simp [z])) q) hf
  self := fun A i s Q E st h => wpAny_pyIter_zip st.1 h
/-! ### the walked things -/
section
variable {X : Cx}
def iEnumK (K : PySem.W.Frag) (ta : TA) : TI := fun σ H R => ta σ H fun vs H1 => ∃ b a xs, vs = [.ref a] ∧ SqK K H1 b a xs ∧ R (IteK K b a) H1
theorem pi_enumK {e : Expr} {ta : TA} {p pos tpos : Pos} {elts : List Expr} {kk : Nat} (hg : Gl X "enumerate") (hm : X.mg "enumerate" = none) (ha : PA X [e] ta) (hs : starEach [e] X.env = [(false, eval e X.env)]) :
    PI X (.Tuple elts kk tpos) (.Call (.Name "enumerate" p) [e] [] pos) (iEnumK X.K ta) := by
  refine ⟨fun pins s σ H R I h => ?_⟩
  refine Call_ (ld_blt I hg hm boot_enumerate (PyProof.Rows.callWith_type1 (thn (ha.run pos pins s σ H _ I h) fun us s1 ⟨vs, H1, I1, r1, q1⟩ => ?_) hs rfl))
  obtain ⟨b, a, xs, ex, hq, q⟩ := q1
  subst ex
  cases r1 with
  | cons r rr =>
    cases rr
    cases r
    obtain ⟨its, rv, p', hlt⟩ := inv_seq I1 hq
    refine enum_begins1 (begins_k b a its.toArray) p' fun h' he hit hsz hk => wpAny_pyIter_enum he ?_
    have I2 : Inv X pins σ H1 { s1 with heap := h' } := I1.kept (t' := s1.toks) hk
    refine ⟨s1.heap.objs.size + 1, [s1.heap.objs.size + 1, s1.heap.objs.size], _, _, H1, rfl, I2, turn_enumK b a (s1.heap.objs.size + 1) s1.heap.objs.size (Nat.ne_of_lt (Nat.lt_succ_of_lt hlt)) (Nat.ne_of_lt hlt) (Nat.succ_ne_self _), ⟨⟨.none, he⟩, itAt_new hit⟩, fun c hb => ?_, q⟩
    have e' : c = s1.heap.objs.size + 1 ∨ c = s1.heap.objs.size := by simpa using hb
    have hle : s1.heap.objs.size ≤ c := by
      rcases e' with z | z
      · rw [z]; exact Nat.le_add_right _ _
      · rw [z]; exact Nat.le_refl _
    exact I1.fpOk hle (I1.hok.fresh hle)
def iZip2K (K : PySem.W.Frag) (ta : TA) : TI := fun σ H R => ta σ H fun vs H1 => ∃ b1 b2 a1 a2 xs ys, vs = [.ref a1, .ref a2] ∧ SqK K H1 b1 a1 xs ∧ SqK K H1 b2 a2 ys ∧ R (Itz2K K b1 b2 a1 a2) H1
theorem pi_zip2K {e e2 : Expr} {ta : TA} {p pos tpos : Pos} {elts : List Expr} {kk : Nat} (hg : Gl X "zip") (hm : X.mg "zip" = none) (ha : PA X [e, e2] ta)
    (hs : starEach [e, e2] X.env = (false, eval e X.env) :: starEach [e2] X.env) (hpl : (backTo pos (starEach [e2] X.env)).any (·.1) = false) :
    PI X (.Tuple elts kk tpos) (.Call (.Name "zip" p) [e, e2] [] pos) (iZip2K X.K ta) := by
  refine ⟨fun pins s σ H R I h => ?_⟩
  refine Call_ (ld_blt I hg hm PyProof.Rows.boot_zip (PyProof.Rows.callWith_type1 (thn (ha.run pos pins s σ H _ I h) fun us s1 ⟨vs, H1, I1, r1, q1⟩ => ?_) hs hpl))
  obtain ⟨b1, b2, a1, a2, xs, ys, ex, hqx, hqy, q⟩ := q1
  subst ex
  cases r1 with
  | cons r rr =>
    cases rr with
    | cons r' rr =>
      cases rr
      cases r
      cases r'
      obtain ⟨is1, rv1, p1, l1⟩ := inv_seq I1 hqx
      obtain ⟨is2, rv2, p2, l2⟩ := inv_seq I1 hqy
      refine zip_begins2 (begins_k b1 a1 is1.toArray) (begins_k b2 a2 is2.toArray) p1 p2 fun h' hz hTI hTO g1 g2 hsz hk => wpAny_pyIter_zip hz ?_
      have I2 : Inv X pins σ H1 { s1 with heap := h' } := I1.kept (t' := s1.toks) hk
      refine ⟨s1.heap.objs.size + 4, [s1.heap.objs.size + 4, s1.heap.objs.size + 2, s1.heap.objs.size + 3, s1.heap.objs.size, s1.heap.objs.size + 1], _, _, H1, rfl, I2, turn_zip2K s1.heap.objs.size b1 b2 a1 a2 l1 l2, ⟨hz, hTI, ⟨_, _, hTO⟩, itAt_new g1, itAt_new g2⟩, fun c hb => ?_, q⟩
      have hle : s1.heap.objs.size ≤ c := by
        have e' : c = s1.heap.objs.size + 4 ∨ c = s1.heap.objs.size + 2 ∨ c = s1.heap.objs.size + 3 ∨ c = s1.heap.objs.size ∨ c = s1.heap.objs.size + 1 := by simpa using hb
        rcases e' with z | z | z | z | z <;> (rw [z]; first | exact Nat.le_refl _ | exact Nat.le_add_right _ _)
      exact I1.fpOk hle (I1.hok.fresh hle)
def iZip3K (K : PySem.W.Frag) (ta : TA) : TI := fun σ H R => ta σ H fun vs H1 => ∃ b1 b2 b3 a1 a2 a3 xs ys zs, vs = [.ref a1, .ref a2, .ref a3] ∧ SqK K H1 b1 a1 xs ∧ SqK K H1 b2 a2 ys ∧ SqK K H1 b3 a3 zs ∧ R (Itz3K K b1 b2 b3 a1 a2 a3) H1
theorem pi_zip3K {e e2 e3 : Expr} {ta : TA} {p pos tpos : Pos} {elts : List Expr} {kk : Nat} (hg : Gl X "zip") (hm : X.mg "zip" = none) (ha : PA X [e, e2, e3] ta)
    (hs : starEach [e, e2, e3] X.env = (false, eval e X.env) :: starEach [e2, e3] X.env) (hpl : (backTo pos (starEach [e2, e3] X.env)).any (·.1) = false) :
    PI X (.Tuple elts kk tpos) (.Call (.Name "zip" p) [e, e2, e3] [] pos) (iZip3K X.K ta) := by
  refine ⟨fun pins s σ H R I h => ?_⟩
  refine Call_ (ld_blt I hg hm PyProof.Rows.boot_zip (PyProof.Rows.callWith_type1 (thn (ha.run pos pins s σ H _ I h) fun us s1 ⟨vs, H1, I1, r1, q1⟩ => ?_) hs hpl))
  obtain ⟨b1, b2, b3, a1, a2, a3, xs, ys, zs, ex, hqx, hqy, hqz, q⟩ := q1
  subst ex
  cases r1 with
  | cons r rr =>
    cases rr with
    | cons r' rr =>
      cases rr with
      | cons r'' rr =>
        cases rr
        cases r
        cases r'
        cases r''
        obtain ⟨is1, rv1, p1, l1⟩ := inv_seq I1 hqx
        obtain ⟨is2, rv2, p2, l2⟩ := inv_seq I1 hqy
        obtain ⟨is3, rv3, p3, l3⟩ := inv_seq I1 hqz
        refine zip_begins3 (begins_k b1 a1 is1.toArray) (begins_k b2 a2 is2.toArray) (begins_k b3 a3 is3.toArray) p1 p2 p3 fun h' hz hTI hTO g1 g2 g3 hsz hk => wpAny_pyIter_zip hz ?_
        have I2 : Inv X pins σ H1 { s1 with heap := h' } := I1.kept (t' := s1.toks) hk
        refine ⟨s1.heap.objs.size + 5, [s1.heap.objs.size + 5, s1.heap.objs.size + 3, s1.heap.objs.size + 4, s1.heap.objs.size, s1.heap.objs.size + 1, s1.heap.objs.size + 2], _, _, H1, rfl, I2, turn_zip3K s1.heap.objs.size b1 b2 b3 a1 a2 a3 l1 l2 l3, ⟨hz, hTI, ⟨_, _, _, hTO⟩, itAt_new g1, itAt_new g2, itAt_new g3⟩, fun c hb => ?_, q⟩
        have hle : s1.heap.objs.size ≤ c := by
          have e' : c = s1.heap.objs.size + 5 ∨ c = s1.heap.objs.size + 3 ∨ c = s1.heap.objs.size + 4 ∨ c = s1.heap.objs.size ∨ c = s1.heap.objs.size + 1 ∨ c = s1.heap.objs.size + 2 := by simpa using hb
          rcases e' with z | z | z | z | z | z <;> (rw [z]; first | exact Nat.le_refl _ | exact Nat.le_add_right _ _)
        exact I1.fpOk hle (I1.hok.fresh hle)
end
end FI

/-! What the interpreter says, the model does. -/
namespace FI
open PySem PySem.Spec PyProof.Rows L2

/-- the written part, the program, the world -/
structure KW where
  K : PySem.W.Frag
  P : Program
  w : World
instance : Coe KW PySem.W.Frag := ⟨KW.K⟩
end FI
abbrev L2.Cx.kw (X : L2.Cx) : FI.KW := ⟨X.K, X.prog, X.w⟩
namespace FI
open PySem PySem.Spec PyProof.Rows L2
section
variable (K : KW) (n : Nat) (rho : Nat → Addr) (H : Hp)
mutual
def VR : PV → V → Prop
  | .non, v => v = .non
  | .bl b, v => v = .bl b
  | .int i, v => v = .int i
  | .str x, v => v = .str x
  | .tup xs, v => ∃ a vs, v = .ref a ∧ SqT K H a vs ∧ VRs xs vs
  | .lst i, v => i < n ∧ v = .ref (rho i)
  | .dct i, v => i < n ∧ v = .ref (rho i)
  | .rep d, v => v = .str d.shown
def VRs : List PV → List V → Prop
  | [], vs => vs = []
  | x :: xs, vs => ∃ v r, vs = v :: r ∧ VR x v ∧ VRs xs r
end

/-- a list that is only read: locked, or of the written part -/
def RoL (a : Addr) (vs : List V) : Prop := (∃ o, H a = some (.frz o (.lst vs))) ∨ (∀ H' : Hp, SqL K H' a vs)
def SOk (i : Nat) : SO → Prop
  | .lst xs => ∃ vs, H (rho i) = some (.lst vs) ∧ VRs K n rho H xs vs
  | .rol xs => ∃ vs, RoL K H (rho i) vs ∧ VRs K n rho H xs vs
  | .tab q => LamX.TabS H (rho i) q
  | .dct kvs => ∃ ws, H (rho i) = some (.dK ws) ∧ ws.map (·.1) = kvs.map (·.1) ∧ VRs K n rho H (kvs.map (·.2)) (ws.map (·.2))
end

structure RSt (K : KW) (rho : Nat → Addr) (H : Hp) (s : Sto) : Prop where
  ok : ∀ i o, look i s.os = some o → SOk K s.n rho H i o
  lt : ∀ i o, look i s.os = some o → i < s.n
  inj : ∀ i j o u, look i s.os = some o → look j s.os = some u → tr o = true → tr u = true → rho i = rho j → i = j

/-- from one state to a later one -/
structure Ext (s : Sto) (rho rho' : Nat → Addr) (H H' : Hp) (s' : Sto) : Prop where
  le : s.n ≤ s'.n
  eq : ∀ i, i < s.n → rho' i = rho i
  fr : ∀ b o, H b = some o → (∀ i u, look i s.os = some u → tr u = true → rho i ≠ b) → H' b = some o
  st : ∀ i o, look i s.os = some o → ∃ u, look i s'.os = some u ∧ tr u = tr o
  nw : ∀ j u, look j s'.os = some u → (∃ o, look j s.os = some o ∧ tr o = tr u) ∨ (s.n ≤ j ∧ H (rho' j) = none)

section
variable {K : KW} {n n' : Nat} {rho rho' rho2 : Nat → Addr} {H H' H2 : Hp} {s s' s2 : Sto}

theorem Ext.refl : Ext s rho rho H H s := ⟨Nat.le_refl _, fun _ _ => rfl, fun _ _ h _ => h, fun _ o h => ⟨o, h, rfl⟩, fun _ u h => .inl ⟨u, h, rfl⟩⟩

theorem SOk.there {i : Nat} {o : SO} (h : SOk K n rho H i o) (ht : tr o = true) : ∃ u, H (rho i) = some u ∧ (∀ xs, u ≠ .tup xs) ∧ (∀ q xs, u ≠ .frz q xs) := by
  cases o with
  | lst xs =>
    obtain ⟨vs, e, _⟩ := h
    exact ⟨_, e, (by intro _ z; cases z), (by intro _ _ z; cases z)⟩
  | rol xs => cases ht
  | tab q =>
    obtain ⟨ps, e, _⟩ := h
    exact ⟨_, e, (by intro _ z; cases z), (by intro _ _ z; cases z)⟩
  | dct kvs =>
    obtain ⟨ws, e, _⟩ := h
    exact ⟨_, e, (by intro _ z; cases z), (by intro _ _ z; cases z)⟩

/-- tuples stay -/
theorem Ext.tup (x : Ext s rho rho' H H' s') (r : RSt K rho H s) {a : Addr} {vs : List V} (h : SqT K H a vs) : SqT K H' a vs := by
  have ne : ∀ u, H a = some u → (∃ xs, u = .tup xs) ∨ (∃ q xs, u = .frz q (.tup xs)) → H' a = some u := fun u e k => x.fr a u e fun i o hi ht z => by
    obtain ⟨w, e2, n1, n2⟩ := (r.ok i o hi).there ht
    rw [z, e] at e2
    cases e2
    rcases k with ⟨xs, rfl⟩ | ⟨q, xs, rfl⟩
    · exact n1 xs rfl
    · exact n2 q _ rfl
  rcases h with h | h
  · rcases h with h | ⟨o, h⟩
    · exact .inl (.inl (ne _ h (.inl ⟨_, rfl⟩)))
    · exact .inl (.inr ⟨o, ne _ h (.inr ⟨_, _, rfl⟩)⟩)
  · exact .inr h

mutual
theorem VR.mono (le : n ≤ n') (eq : ∀ i, i < n → rho' i = rho i) (tu : ∀ a vs, SqT K H a vs → SqT K H' a vs) : ∀ (p : PV) (v : V), VR K n rho H p v → VR K n' rho' H' p v
  | .non, v, h => by simpa only [VR] using h
  | .bl b, v, h => by simpa only [VR] using h
  | .int i, v, h => by simpa only [VR] using h
  | .str x, v, h => by simpa only [VR] using h
  | .rep x, v, h => by simpa only [VR] using h
  | .tup xs, v, h => by
    simp only [VR] at h ⊢
    obtain ⟨a, vs, e, t, r⟩ := h
    exact ⟨a, vs, e, tu a vs t, VRs.mono le eq tu xs vs r⟩
  | .lst i, v, h => by
    simp only [VR] at h ⊢
    exact ⟨Nat.lt_of_lt_of_le h.1 le, by rw [eq i h.1]; exact h.2⟩
  | .dct i, v, h => by
    simp only [VR] at h ⊢
    exact ⟨Nat.lt_of_lt_of_le h.1 le, by rw [eq i h.1]; exact h.2⟩
theorem VRs.mono (le : n ≤ n') (eq : ∀ i, i < n → rho' i = rho i) (tu : ∀ a vs, SqT K H a vs → SqT K H' a vs) : ∀ (ps : List PV) (vs : List V), VRs K n rho H ps vs → VRs K n' rho' H' ps vs
  | [], vs, h => by simpa only [VRs] using h
  | p :: ps, vs, h => by
    simp only [VRs] at h ⊢
    obtain ⟨v, r, e, h1, h2⟩ := h
    exact ⟨v, r, e, VR.mono le eq tu p v h1, VRs.mono le eq tu ps r h2⟩
end
theorem Ext.vr (x : Ext s rho rho' H H' s') (r : RSt K rho H s) {p : PV} {v : V} (h : VR K s.n rho H p v) : VR K s'.n rho' H' p v :=
  VR.mono x.le x.eq (fun _ _ t => x.tup r t) p v h
theorem Ext.vrs (x : Ext s rho rho' H H' s') (r : RSt K rho H s) {p : List PV} {v : List V} (h : VRs K s.n rho H p v) : VRs K s'.n rho' H' p v :=
  VRs.mono x.le x.eq (fun _ _ t => x.tup r t) p v h
theorem Ext.trans (x : Ext s rho rho' H H' s') (y : Ext s' rho' rho2 H' H2 s2) (r : RSt K rho H s) (r' : RSt K rho' H' s') : Ext s rho rho2 H H2 s2 where
  le := Nat.le_trans x.le y.le
  eq := fun i h => (y.eq i (Nat.lt_of_lt_of_le h x.le)).trans (x.eq i h)
  fr := fun b o e nb => y.fr b o (x.fr b o e nb) fun j u hj ht z => by
    rcases x.nw j u hj with ⟨w, hw, hwt⟩ | ⟨_, hn⟩
    · exact nb j w hw (by rw [hwt]; exact ht) (by rw [← x.eq j (r.lt j w hw)]; exact z)
    · rw [z, e] at hn; cases hn
  st := fun i o h => let ⟨u, hu, hut⟩ := x.st i o h; let ⟨v, hv, hvt⟩ := y.st i u hu; ⟨v, hv, hvt.trans hut⟩
  nw := fun j u hj => by
    rcases y.nw j u hj with ⟨w, hw, hwt⟩ | ⟨hl, hn⟩
    · rcases x.nw j w hw with ⟨z, hz, hzt⟩ | ⟨z1, z2⟩
      · exact .inl ⟨z, hz, hzt.trans hwt⟩
      · exact .inr ⟨z1, by rw [y.eq j (r'.lt j w hw)]; exact z2⟩
    · refine .inr ⟨Nat.le_trans x.le hl, ?_⟩
      cases e : H (rho2 j) with
      | none => rfl
      | some o =>
        exfalso
        by_cases k : ∃ i u, look i s.os = some u ∧ tr u = true ∧ rho i = rho2 j
        · obtain ⟨i, u, hi, ht, z⟩ := k
          obtain ⟨u', hu', ht'⟩ := x.st i u hi
          obtain ⟨q, e2, _⟩ := (r'.ok i u' hu').there (by rw [ht']; exact ht)
          rw [x.eq i (r.lt i u hi), z, hn] at e2
          cases e2
        · have z := x.fr _ o e fun i u hi ht z => k ⟨i, u, hi, ht, z⟩
          rw [hn] at z; cases z
end
end FI

namespace FI
open PySem PySem.Spec PyProof.Rows L2

/-- the own exception classes: where one stands, its fields -/
abbrev Cls0 := Nat → Option (Addr × List Str)

section
variable {K : KW} {n n' : Nat} {rho rho' : Nat → Addr} {H H' : Hp} {s s' : Sto} {a : Addr} {o : HO}
theorem sqT_upd {b : Addr} {vs : List V} (hn : H a = none) (h : SqT K H b vs) : SqT K (upd H a o) b vs := by
  rcases h with h | h
  · rcases h with h | ⟨q, h⟩
    · exact .inl (.inl (by rw [upd_ne (ne_of_none h hn)]; exact h))
    · exact .inl (.inr ⟨q, by rw [upd_ne (ne_of_none h hn)]; exact h⟩)
  · exact .inr h
theorem vr_upd {p : PV} {v : V} (hn : H a = none) (h : VR K n rho H p v) : VR K n rho (upd H a o) p v := VR.mono (Nat.le_refl _) (fun _ _ => rfl) (fun _ _ => sqT_upd hn) p v h
theorem vrs_upd {p : List PV} {v : List V} (hn : H a = none) (h : VRs K n rho H p v) : VRs K n rho (upd H a o) p v := VRs.mono (Nat.le_refl _) (fun _ _ => rfl) (fun _ _ => sqT_upd hn) p v h
theorem sok_mono {i : Nat} {u : SO} (le : n ≤ n') (eq : ∀ i, i < n → rho' i = rho i) (tu : ∀ a vs, SqT K H a vs → SqT K H' a vs) (cd : ∀ c q, H c = some (LamX.CodeO c q) → H' c = some (LamX.CodeO c q)) (hi : i < n) (hh : ∀ w, H (rho i) = some w → (tr u = true ∨ ∃ q x, w = .frz q x) → H' (rho i) = some w) (h : SOk K n rho H i u) : SOk K n' rho' H' i u := by
  cases u with
  | lst xs =>
    obtain ⟨vs, e, r⟩ := h
    exact ⟨vs, by rw [eq i hi]; exact hh _ e (.inl rfl), VRs.mono le eq tu _ _ r⟩
  | rol xs =>
    obtain ⟨vs, e, r⟩ := h
    refine ⟨vs, ?_, VRs.mono le eq tu _ _ r⟩
    rw [eq i hi]
    rcases e with ⟨q, e⟩ | e
    · exact .inl ⟨q, hh _ e (.inr ⟨_, _, rfl⟩)⟩
    · exact .inr e
  | dct kvs =>
    obtain ⟨ws, e, k, r⟩ := h
    exact ⟨ws, by rw [eq i hi]; exact hh _ e (.inl rfl), k, VRs.mono le eq tu _ _ r⟩
  | tab q =>
    obtain ⟨ps, e, t, k⟩ := h
    refine ⟨ps, by rw [eq i hi]; exact hh _ e (.inl rfl), t, fun pos cv hc => ?_⟩
    obtain ⟨c, e1, e2⟩ := k pos cv hc
    exact ⟨c, e1, cd c q e2⟩
theorem RSt.upd (r : RSt K rho H s) (hn : H a = none) : RSt K rho (L2.upd H a o) s where
  ok := fun i u hi => sok_mono (Nat.le_refl _) (fun _ _ => rfl) (fun _ _ => sqT_upd hn) (fun c q e => by rw [upd_ne (ne_of_none e hn)]; exact e) (r.lt i u hi) (fun w e _ => by rw [upd_ne (ne_of_none e hn)]; exact e) (r.ok i u hi)
  lt := r.lt
  inj := r.inj
theorem Ext.upd (hn : H a = none) : Ext s rho rho H (L2.upd H a o) s :=
  ⟨Nat.le_refl _, fun _ _ => rfl, fun b u e _ => by rw [upd_ne (ne_of_none e hn)]; exact e, fun _ u h => ⟨u, h, rfl⟩, fun _ u h => .inl ⟨u, h, rfl⟩⟩

theorem look_new {i : Nat} {u w : SO} (h : look i (s.new u).os = some w) : (i = s.n ∧ w = u) ∨ (i ≠ s.n ∧ look i s.os = some w) := by
  unfold Sto.new at h
  simp only [look] at h
  split at h
  · rename_i e
    exact .inl ⟨Nat.eq_of_beq_eq_true e, (Option.some.inj h).symm⟩
  · rename_i e
    exact .inr ⟨fun z => e (by rw [z]; exact Nat.beq_refl _), h⟩
theorem look_new_old {i : Nat} {u w : SO} (hi : i ≠ s.n) (h : look i s.os = some w) : look i (s.new u).os = some w := by
  unfold Sto.new
  simp only [look]
  rw [if_neg fun z => hi (Nat.eq_of_beq_eq_true z)]
  exact h
def rhoNew (rho : Nat → Addr) (n : Nat) (a : Addr) : Nat → Addr := fun i => if i = n then a else rho i
theorem rhoNew_lt {i : Nat} (h : i < n) : rhoNew rho n a i = rho i := by unfold rhoNew; rw [if_neg (by omega)]
theorem rhoNew_at : rhoNew rho n a n = a := by unfold rhoNew; rw [if_pos rfl]

/-- a new object of the store -/
theorem new_obj {u : SO} (r : RSt K rho H s) (hn : H a = none) (hu : SOk K (s.n + 1) (rhoNew rho s.n a) (upd H a o) s.n u) :
    Ext s rho (rhoNew rho s.n a) H (upd H a o) (s.new u) ∧ RSt K (rhoNew rho s.n a) (upd H a o) (s.new u) := by
  have some_ne : ∀ i w, look i s.os = some w → tr w = true → rho i ≠ a := fun i w hi ht z => by
    obtain ⟨q, e, _⟩ := (r.ok i w hi).there ht
    rw [z, hn] at e; cases e
  refine ⟨⟨Nat.le_succ _, fun i h => rhoNew_lt h, fun b w e _ => by rw [upd_ne (ne_of_none e hn)]; exact e, fun i w h => ⟨w, look_new_old (Nat.ne_of_lt (r.lt i w h)) h, rfl⟩, fun j w h => ?_⟩, ⟨fun i w h => ?_, fun i w h => ?_, fun i j w w' h h' t1 t2 e => ?_⟩⟩
  · rcases look_new h with ⟨z, _⟩ | ⟨_, z⟩
    · exact .inr ⟨by rw [z]; exact Nat.le_refl _, by rw [z, rhoNew_at]; exact hn⟩
    · exact .inl ⟨w, z, rfl⟩
  · rcases look_new h with ⟨z, z2⟩ | ⟨_, z⟩
    · subst z; subst z2; exact hu
    · exact sok_mono (Nat.le_succ _) (fun i h => rhoNew_lt h) (fun _ _ => sqT_upd hn) (fun c q e => by rw [upd_ne (ne_of_none e hn)]; exact e) (r.lt i w z) (fun q e _ => by rw [upd_ne (ne_of_none e hn)]; exact e) (r.ok i w z)
  · rcases look_new h with ⟨z, _⟩ | ⟨_, z⟩
    · rw [z]; exact Nat.lt_succ_self _
    · exact Nat.lt_succ_of_lt (r.lt i w z)
  · rcases look_new h with ⟨z, _⟩ | ⟨_, z⟩
    · rcases look_new h' with ⟨z', _⟩ | ⟨_, z'⟩
      · rw [z, z']
      · rw [z, rhoNew_at, rhoNew_lt (r.lt j w' z')] at e
        exact absurd e.symm (some_ne j w' z' t2)
    · rcases look_new h' with ⟨z', _⟩ | ⟨_, z'⟩
      · rw [z', rhoNew_at, rhoNew_lt (r.lt i w z)] at e
        exact absurd e (some_ne i w z t1)
      · rw [rhoNew_lt (r.lt i w z), rhoNew_lt (r.lt j w' z')] at e
        exact r.inj i j w w' z z' t1 t2 e
end

/-- what is wanted of an answer of the interpreter -/
def Post (K : KW) (cl : Cls0) (W : WX) (σ : L2.St) (rho : Nat → Addr) (s : Sto) (H : Hp) (r : Res PV) (Q : VK) : Prop := match r with
  | .ok p s' => ∀ rho' H' v, Ext s rho rho' H H' s' → RSt K rho' H' s' → VR K s'.n rho' H' p v → Q v H'
  | .exc c fs s' => ∃ C names, cl c = some (C, names) ∧ ∀ rho' H' d vs, Ext s rho rho' H H' s' → RSt K rho' H' s' → H' d = some (.xd (names.zip vs)) → VRs K s'.n rho' H' fs vs → W (.ref C) (some d) σ H'
  | .bad => False

def SlR (K : KW) (n : Nat) (rho : Nat → Addr) (H : Hp) (sl : Sl) (σ : L2.St) : Prop := sl.length = σ.length ∧ ∀ (i : Nat) p, sl[i]? = some (some p) → ∃ v, σ[i]? = some (some v) ∧ VR K n rho H p v

section
variable {K : KW} {cl : Cls0} {W : WX} {σ : L2.St} {rho rho' : Nat → Addr} {s s' : Sto} {H H' : Hp} {Q : VK} {a : Addr} {sl : Sl}
theorem SlR.mono (h : SlR K s.n rho H sl σ) (x : Ext s rho rho' H H' s') (r : RSt K rho H s) : SlR K s'.n rho' H' sl σ :=
  ⟨h.1, fun i p e => let ⟨v, e1, e2⟩ := h.2 i p e; ⟨v, e1, x.vr r e2⟩⟩
theorem Post.later {r : Res PV} (h : Post K cl W σ rho s H r Q) (x : Ext s rho rho' H H' s') (R : RSt K rho H s) (R' : RSt K rho' H' s') : Post K cl W σ rho' s' H' r Q := by
  cases r with
  | ok p s2 => exact fun rho2 H2 v y r2 vr => h rho2 H2 v (x.trans y R R') r2 vr
  | exc c fs s2 =>
    obtain ⟨C, names, e, h⟩ := h
    exact ⟨C, names, e, fun rho2 H2 d vs y r2 => h rho2 H2 d vs (x.trans y R R') r2⟩
  | bad => exact h
/-- the value stands already -/
theorem Post.same {p : PV} {v : V} (h : Post K cl W σ rho s H (.ok p s) Q) (R : RSt K rho H s) (e : VR K s.n rho H p v) : Q v H := h rho H v .refl R e
/-- a new tuple -/
theorem Post.tup {ps : List PV} {vs : List V} (h : Post K cl W σ rho s H (.ok (.tup ps) s) Q) (R : RSt K rho H s) (e : VRs K s.n rho H ps vs) (hn : H a = none) : Q (.ref a) (upd H a (.tup vs)) :=
  h rho (upd H a (.tup vs)) (.ref a) (.upd hn) (R.upd hn) (by simp only [VR]; exact ⟨a, vs, rfl, .inl (.inl upd_same), vrs_upd hn e⟩)
/-- a new list -/
theorem Post.lst {ps : List PV} {vs : List V} (h : Post K cl W σ rho s H (.ok (.lst s.n) (s.new (.lst ps))) Q) (R : RSt K rho H s) (e : VRs K s.n rho H ps vs) (hn : H a = none) : Q (.ref a) (upd H a (.lst vs)) := by
  obtain ⟨x, r⟩ := new_obj (o := .lst vs) (u := .lst ps) R hn ⟨vs, by rw [rhoNew_at, upd_same], VRs.mono (Nat.le_succ _) (fun i h => rhoNew_lt h) (fun _ _ => sqT_upd hn) _ _ e⟩
  exact h _ _ _ x r (by simp only [VR]; exact ⟨Nat.lt_succ_self _, by rw [rhoNew_at]⟩)

variable {T : Tab} {call : Nat → List PV → Sto → Res PV}
/-- the interpreter's reading of an expression -/
def tI (K : KW) (cl : Cls0) (W : WX) (T : Tab) (call : Nat → List PV → Sto → Res PV) (c : E) : TE := fun σ H Q =>
  ∃ rho s sl, RSt K rho H s ∧ SlR K s.n rho H sl σ ∧ Post K cl W σ rho s H (ev T call c sl s) Q
/-- one part, then the rest -/
theorem tI_seq {c : E} {f : PV → Sto → Res PV} (R : RSt K rho H s) (S : SlR K s.n rho H sl σ) (h : Post K cl W σ rho s H ((ev T call c sl s).bind f) Q) :
    tI K cl W T call c σ H (fun v H1 => ∃ rho1 s1 p, Ext s rho rho1 H H1 s1 ∧ RSt K rho1 H1 s1 ∧ SlR K s1.n rho1 H1 sl σ ∧ VR K s1.n rho1 H1 p v ∧ Post K cl W σ rho1 s1 H1 (f p s1) Q) := by
  refine ⟨rho, s, sl, R, S, ?_⟩
  cases e : ev T call c sl s with
  | ok p s1 =>
    rw [e] at h
    exact fun rho1 H1 v x r vr => ⟨rho1, s1, p, x, r, S.mono x R, vr, h.later x R r⟩
  | exc d fs s1 => rw [e] at h; exact h
  | bad => rw [e] at h; exact h
/-- an argument list's reading -/
def tIA (K : KW) (cl : Cls0) (W : WX) (T : Tab) (call : Nat → List PV → Sto → Res PV) (c : E) : TA := fun σ H Q =>
  ∃ rho s sl, RSt K rho H s ∧ SlR K s.n rho H sl σ ∧ match ev T call c sl s with
    | .ok (.tup ps) s' => ∀ rho' H' vs, Ext s rho rho' H H' s' → RSt K rho' H' s' → VRs K s'.n rho' H' ps vs → Q vs H'
    | .ok _ _ => False
    | .exc c fs s' => Post K cl W σ rho s H (.exc c fs s') (fun _ _ => False)
    | .bad => False
theorem tIA_seq {c : E} {f : List PV → Sto → Res PV} (R : RSt K rho H s) (S : SlR K s.n rho H sl σ) (h : Post K cl W σ rho s H ((ev T call c sl s).bind fun x s1 => match x with | .tup vs => f vs s1 | _ => .bad) Q) :
    tIA K cl W T call c σ H (fun vs H1 => ∃ rho1 s1 ps, Ext s rho rho1 H H1 s1 ∧ RSt K rho1 H1 s1 ∧ SlR K s1.n rho1 H1 sl σ ∧ VRs K s1.n rho1 H1 ps vs ∧ Post K cl W σ rho1 s1 H1 (f ps s1) Q) := by
  refine ⟨rho, s, sl, R, S, ?_⟩
  cases e : ev T call c sl s with
  | ok p s1 =>
    rw [e] at h
    cases p with
    | tup ps => exact fun rho1 H1 vs x r vr => ⟨rho1, s1, ps, x, r, S.mono x R, vr, Post.later (s' := s1) h x R r⟩
    | _ => exact h
  | exc d fs s1 => rw [e] at h; exact h
  | bad => rw [e] at h; exact h
end
theorem PE_imp {X : Cx} {e : Expr} {t t' : TE} (h : PE X e t) (i : ∀ σ H Q, t' σ H Q → t σ H Q) : PE X e t' := ⟨fun pins s σ H Q I q => h.run pins s σ H Q I (i σ H Q q)⟩
theorem PT_imp {X : Cx} {e : Expr} {t t' : TT} (h : PT X e t) (i : ∀ σ H Q, t' σ H Q → t σ H Q) : PT X e t' := ⟨fun pins s σ H Q I q => h.run pins s σ H Q I (i σ H Q q)⟩
theorem PA_imp {X : Cx} {e : List Expr} {t t' : TA} (h : PA X e t) (i : ∀ σ H Q, t' σ H Q → t σ H Q) : PA X e t' := ⟨fun pos pins s σ H Q I q => h.run pos pins s σ H Q I (i σ H Q q)⟩
end FI

namespace FI
open PySem PySem.Spec PyProof.Rows L2

section
variable {K : KW} {n : Nat} {rho : Nat → Addr} {H : Hp}
theorem VRs.len : ∀ {ps : List PV} {vs : List V}, VRs K n rho H ps vs → ps.length = vs.length
  | [], vs, h => by simp only [VRs] at h; rw [h]; rfl
  | p :: ps, vs, h => by
    simp only [VRs] at h
    obtain ⟨v, r, rfl, _, h2⟩ := h
    rw [List.length_cons, List.length_cons, VRs.len h2]
theorem VRs.app : ∀ {ps qs : List PV} {vs us : List V}, VRs K n rho H ps vs → VRs K n rho H qs us → VRs K n rho H (ps ++ qs) (vs ++ us)
  | [], qs, vs, us, h, h' => by simp only [VRs] at h; subst h; exact h'
  | p :: ps, qs, vs, us, h, h' => by
    simp only [VRs] at h
    obtain ⟨v, r, rfl, h1, h2⟩ := h
    simp only [List.cons_append, VRs]
    exact ⟨v, r ++ us, rfl, h1, VRs.app h2 h'⟩
theorem VRs.get : ∀ {ps : List PV} {vs : List V} {i : Nat} {p : PV}, VRs K n rho H ps vs → ps[i]? = some p → ∃ v, vs[i]? = some v ∧ VR K n rho H p v
  | [], vs, i, p, h, e => by simp at e
  | q :: ps, vs, 0, p, h, e => by
    simp only [VRs] at h
    obtain ⟨v, r, rfl, h1, h2⟩ := h
    simp at e
    subst e
    exact ⟨v, rfl, h1⟩
  | q :: ps, vs, i + 1, p, h, e => by
    simp only [VRs] at h
    obtain ⟨v, r, rfl, h1, h2⟩ := h
    obtain ⟨w, e1, e2⟩ := VRs.get (i := i) (p := p) h2 (by simpa using e)
    exact ⟨w, by simpa using e1, e2⟩
theorem VRs.take : ∀ {ps : List PV} {vs : List V} (k : Nat), VRs K n rho H ps vs → VRs K n rho H (ps.take k) (vs.take k)
  | ps, vs, 0, h => by simp [VRs]
  | [], vs, k + 1, h => by simp only [VRs] at h; subst h; simp [VRs]
  | p :: ps, vs, k + 1, h => by
    simp only [VRs] at h
    obtain ⟨v, r, rfl, h1, h2⟩ := h
    simp only [List.take_succ_cons, VRs]
    exact ⟨v, r.take k, rfl, h1, VRs.take k h2⟩
theorem VRs.drop : ∀ {ps : List PV} {vs : List V} (k : Nat), VRs K n rho H ps vs → VRs K n rho H (ps.drop k) (vs.drop k)
  | ps, vs, 0, h => by simpa using h
  | [], vs, k + 1, h => by simp only [VRs] at h; subst h; simp [VRs]
  | p :: ps, vs, k + 1, h => by
    simp only [VRs] at h
    obtain ⟨v, r, rfl, h1, h2⟩ := h
    simpa using VRs.drop k h2
theorem VRs.rep {ps : List PV} {vs : List V} (h : VRs K n rho H ps vs) : ∀ k : Nat, VRs K n rho H (List.replicate k ps).flatten (List.replicate k vs).flatten
  | 0 => by simp [VRs]
  | k + 1 => by
    simp only [List.replicate_succ, List.flatten_cons]
    exact VRs.app h (VRs.rep h k)
theorem VRs.nil_iff {ps : List PV} {vs : List V} (h : VRs K n rho H ps vs) : ps = [] ↔ vs = [] := by
  have := h.len
  constructor <;> intro z <;> subst z
  · exact List.length_eq_zero_iff.mp (by simpa using this.symm)
  · exact List.length_eq_zero_iff.mp (by simpa using this)
end
theorem cap_line {k : Nat} (h : k ≤ cap) : k ≤ sizeLine := Nat.le_trans h (by rw [sizeLine_eq]; decide)

def opOf : Bop → Operator
  | .add => .Add | .sub => .Sub | .mul => .Mult | .fdiv => .FloorDiv | .mod => .Mod | .pow => .Pow
def rBin (K : KW) : Bop → R2
  | .add => fun x y H Q => rI0 (fun i j => .int (i + j)) x y H Q ∨ (rCatA K x y H Q ∨ rCat x y H Q)
  | .sub => rI0 fun i j => .int (i - j)
  | .mul => fun x y H Q => rI CMulW (fun i j => .int (i * j)) x y H Q ∨ rRepT K x y H Q
  | .fdiv => rI CDivW fun i j => .int (i / j)
  | .mod => rI (fun _ j => 0 < j) fun i j => .int (i % j)
  | .pow => rI CPow fun i j => .int (i ^ j.toNat)
theorem op_bin {X : Cx} (o : Bop) : OpR X (binaryOp (opOf o)) (rBin X.kw o) := by
  cases o with
  | add => exact op_add.or (op_catA.or op_cat)
  | sub => exact op_sub
  | mul => exact op_mulW.or op_repT
  | fdiv => exact op_fdivW
  | mod => exact op_mod
  | pow => exact op_pow

section
variable {K : KW} {cl : Cls0} {W : WX} {σ : L2.St} {rho : Nat → Addr} {s : Sto} {H : Hp} {Q : VK} {p q : PV} {x y : V}
theorem getW_ok {i : Nat} {xs : List PV} (R : RSt K rho H s) (h : getW s i = some xs) : ∃ vs, H (rho i) = some (.lst vs) ∧ VRs K s.n rho H xs vs := by
  unfold getW at h
  split at h
  · rename_i ys e
    cases h
    exact R.ok _ _ e
  · cases h
theorem getL_ok {i : Nat} {xs : List PV} (R : RSt K rho H s) (h : s.getL i = some xs) : ∃ vs, SqL K H (rho i) vs ∧ VRs K s.n rho H xs vs := by
  unfold Sto.getL at h
  split at h
  · rename_i ys e
    cases h
    obtain ⟨vs, e1, e2⟩ := R.ok _ _ e
    exact ⟨vs, .inl (.inl e1), e2⟩
  · rename_i ys e
    cases h
    obtain ⟨vs, e1, e2⟩ := R.ok _ _ e
    rcases e1 with ⟨o, e1⟩ | e1
    · exact ⟨vs, .inl (.inr ⟨o, e1⟩), e2⟩
    · exact ⟨vs, e1 H, e2⟩
  · cases h
theorem bin_ok (o : Bop) (h : Post K cl W σ rho s H (evBin o p q s) Q) (R : RSt K rho H s) (hp : VR K s.n rho H p x) (hq : VR K s.n rho H q y) : rBin K o x y H Q := by
  unfold evBin at h
  split at h
  · simp only [VR] at hp hq
    subst hp; subst hq
    exact .inl ⟨_, _, rfl, rfl, h.same R (by simp only [VR])⟩
  · rename_i xs ys
    simp only [VR] at hp hq
    obtain ⟨a, vs, rfl, ta, ra⟩ := hp
    obtain ⟨b, us, rfl, tb, rb⟩ := hq
    split at h
    · rename_i hl
      refine .inr (.inl ⟨a, b, vs, us, rfl, rfl, ta, tb, ?_, fun z => ?_, fun z z2 => ?_, fun z z2 c hc => ?_⟩)
      · rw [← ra.len, ← rb.len]; exact cap_line hl
      · have e : xs = [] := ra.nil_iff.mpr z
        subst e
        exact h.same R (by simp only [VR]; exact ⟨b, us, rfl, tb, rb⟩)
      · have e : ys = [] := rb.nil_iff.mpr z2
        subst e
        exact h.same R (by simp only [VR, List.append_nil]; exact ⟨a, vs, rfl, ta, ra⟩)
      · exact h.tup R (ra.app rb) hc
    · exact h.elim
  · rename_i i j
    simp only [VR] at hp hq
    obtain ⟨_, rfl⟩ := hp
    obtain ⟨_, rfl⟩ := hq
    split at h
    · rename_i xs ys e1 e2
      obtain ⟨vs, h1, r1⟩ := getW_ok R e1
      obtain ⟨us, h2, r2⟩ := getW_ok R e2
      split at h
      · rename_i hl
        exact .inr (.inr ⟨_, _, vs, us, rfl, rfl, h1, h2, by rw [← r1.len, ← r2.len]; exact cap_line hl, fun c hc => h.lst R (r1.app r2) hc⟩)
      · exact h.elim
    · exact h.elim
  · simp only [VR] at hp hq
    subst hp; subst hq
    exact ⟨_, _, rfl, rfl, h.same R (by simp only [VR])⟩
  · simp only [VR] at hp hq
    subst hp; subst hq
    split at h
    · rename_i hl
      exact .inl ⟨_, _, rfl, rfl, hl, h.same R (by simp only [VR])⟩
    · exact h.elim
  · rename_i xs k
    simp only [VR] at hp hq
    obtain ⟨a, vs, rfl, ta, ra⟩ := hp
    subst hq
    split at h
    · rename_i hl
      simp only [Bool.and_eq_true, decide_eq_true_eq, Bool.not_eq_true'] at hl
      obtain ⟨⟨⟨h1, h2⟩, h3⟩, h4⟩ := hl
      refine .inr ⟨a, k, vs, rfl, rfl, ta, fun z => ?_, h1, h2, by rw [← ra.len]; exact h3, fun c hc => h.tup R (ra.rep k.toNat) hc⟩
      rw [ra.nil_iff.mpr z] at h4
      cases h4
    · exact h.elim
  · simp only [VR] at hp hq
    subst hp; subst hq
    split at h
    · rename_i hl
      simp only [Bool.and_eq_true, decide_eq_true_eq] at hl
      exact ⟨_, _, rfl, rfl, hl, h.same R (by simp only [VR])⟩
    · exact h.elim
  · simp only [VR] at hp hq
    subst hp; subst hq
    split at h
    · rename_i hl
      exact ⟨_, _, rfl, rfl, hl, h.same R (by simp only [VR])⟩
    · exact h.elim
  · simp only [VR] at hp hq
    subst hp; subst hq
    split at h
    · rename_i hl
      simp only [Bool.and_eq_true, decide_eq_true_eq] at hl
      exact ⟨_, _, rfl, rfl, ⟨hl.1.1, by omega, hl.2⟩, h.same R (by simp only [VR])⟩
    · exact h.elim
  · exact h.elim
end
end FI

namespace FI
open PySem PySem.Spec PyProof.Rows L2
/-! ### what repr shows -/
theorem listText_le (ts : List Str) : (listText ts).length ≤ piled ts + 2 := by
  unfold listText
  have h2 : ∀ (ts : List Str) (k : Nat) (acc : Str), (textFrom k acc ts).length ≤ acc.length + piled ts := by
    intro ts
    induction ts with
    | nil => intro k acc; simp [textFrom, piled]
    | cons t ts ih =>
      intro k acc
      refine Nat.le_trans (ih (k + 1) _) ?_
      rw [strLen_append, strLen_append, piled_cons]
      have : ((if k > 0 then ", " else "" : String) : Str).length ≤ 2 := by split <;> decide
      omega
  rw [strLen_append]
  have e1 : ((("[" : String) : Str)).length = 1 := rfl
  have e2 : ((("]" : String) : Str)).length = 1 := rfl
  have := h2 ts 0 ("[" : String)
  omega
theorem tupleText_le (ts : List Str) : (tupleText ts).length ≤ piled ts + 4 := by
  unfold tupleText
  rw [strLen_append, strLen_append]
  have e1 : ((("(" : String) : Str)).length = 1 := rfl
  have e2 : ((if ts.length == 1 then ",)" else ")" : String) : Str).length ≤ 2 := by split <;> decide
  have e3 : (Str.join ", " ts).length ≤ piled ts := by
    cases ts with
    | nil => simp [Str.join, piled]; rfl
    | cons t r =>
      have := join_length_add (t :: r) (by simp)
      omega
  have e1' : ((("(" : Str))).length = 1 := rfl
  omega
mutual
theorem shown_le : ∀ d : PyData, okR d = true → d.shown.length ≤ wid d
  | .none, _ => by simp only [PyData.shown, wid]; decide
  | .bool b, _ => by cases b <;> (simp only [PyData.shown, wid]; decide)
  | .int i, h => by
    simp only [okR, decide_eq_true_eq] at h
    simp only [PyData.shown, wid]
    exact int_text_len_1921 h
  | .str x, h => by
    simp only [okR, List.all_eq_true, decide_eq_true_eq] at h
    simp only [PyData.shown, wid]
    exact StrLaws.reprText_len x fun c hc => Nat.lt_of_lt_of_le (h c hc) (by decide)
  | .list xs, h => by
    simp only [okR] at h
    simp only [PyData.shown, wid]
    have := listText_le (PyData.shownAll xs)
    have := shown_les xs h
    omega
  | .tuple xs, h => by
    simp only [okR] at h
    simp only [PyData.shown, wid]
    have := tupleText_le (PyData.shownAll xs)
    have := shown_les xs h
    omega
  | .dict _, h => by simp [okR] at h
theorem shown_les : ∀ xs : List PyData, okRs xs = true → piled (PyData.shownAll xs) ≤ wids xs
  | [], _ => by simp [PyData.shownAll, piled, wids]
  | x :: xs, h => by
    simp only [okRs, Bool.and_eq_true] at h
    simp only [PyData.shownAll, piled_cons, wids]
    have := shown_le x h.1
    have := shown_les xs h.2
    omega
end
mutual
theorem okR_show : ∀ d : PyData, okR d = true → d.showable = true ∧ d.hasDict = false
  | .none, _ => ⟨by simp [PyData.showable], by simp [PyData.hasDict]⟩
  | .bool b, _ => ⟨by simp [PyData.showable], by simp [PyData.hasDict]⟩
  | .int i, h => ⟨by simpa [PyData.showable, okR] using h, by simp [PyData.hasDict]⟩
  | .str x, _ => ⟨by simp [PyData.showable], by simp [PyData.hasDict]⟩
  | .list xs, h => by
    simp only [okR] at h
    simpa only [PyData.showable, PyData.hasDict] using okR_shows xs h
  | .tuple xs, h => by
    simp only [okR] at h
    simpa only [PyData.showable, PyData.hasDict] using okR_shows xs h
  | .dict _, h => by simp [okR] at h
theorem okR_shows : ∀ xs : List PyData, okRs xs = true → PyData.showableAll xs = true ∧ PyData.hasDictAll xs = false
  | [], _ => ⟨by simp [PyData.showableAll], by simp [PyData.hasDictAll]⟩
  | x :: xs, h => by
    simp only [okRs, Bool.and_eq_true] at h
    obtain ⟨a, b⟩ := okR_show x h.1
    obtain ⟨c, d⟩ := okR_shows xs h.2
    exact ⟨by simp [PyData.showableAll, a, c], by simp [PyData.hasDictAll, b, d]⟩
end
mutual
theorem sameD_eq : ∀ d e : PyData, sameD d e = true → d = e
  | .none, e, h => by cases e <;> first | rfl | (simp [sameD] at h)
  | .bool a, e, h => by cases e <;> first | (simp [sameD] at h; done) | (simp only [sameD, decide_eq_true_eq] at h; rw [h])
  | .int a, e, h => by cases e <;> first | (simp [sameD] at h; done) | (simp only [sameD, decide_eq_true_eq] at h; rw [h])
  | .str a, e, h => by cases e <;> first | (simp [sameD] at h; done) | (simp only [sameD, decide_eq_true_eq] at h; rw [h])
  | .list a, e, h => by cases e <;> first | (simp [sameD] at h; done) | (simp only [sameD] at h; rw [sameDs_eq _ _ h])
  | .tuple a, e, h => by cases e <;> first | (simp [sameD] at h; done) | (simp only [sameD] at h; rw [sameDs_eq _ _ h])
  | .dict _, e, h => by simp [sameD] at h
theorem sameDs_eq : ∀ d e : List PyData, sameDs d e = true → d = e
  | [], e, h => by cases e <;> first | rfl | (simp [sameDs] at h)
  | d :: ds, e, h => by
    cases e with
    | nil => simp [sameDs] at h
    | cons e es =>
      simp only [sameDs, Bool.and_eq_true] at h
      rw [sameD_eq d e h.1, sameDs_eq ds es h.2]
end
mutual
theorem sameD_refl : ∀ d : PyData, okR d = true → sameD d d = true
  | .none, _ => by simp [sameD]
  | .bool a, _ => by simp [sameD]
  | .int a, _ => by simp [sameD]
  | .str a, _ => by simp [sameD]
  | .list a, h => by simp only [okR] at h; simpa [sameD] using sameDs_refl a h
  | .tuple a, h => by simp only [okR] at h; simpa [sameD] using sameDs_refl a h
  | .dict _, h => by simp [okR] at h
theorem sameDs_refl : ∀ d : List PyData, okRs d = true → sameDs d d = true
  | [], _ => by simp [sameDs]
  | d :: ds, h => by
    simp only [okRs, Bool.and_eq_true] at h
    simp [sameDs, sameD_refl d h.1, sameDs_refl ds h.2]
end
/-- repr(x) -/
def rRepr (K : PySem.W.Frag) : List V → Hp → VK → Prop := fun xs H Q => ∃ v d, xs = [v] ∧ Dp K H v d ∧ okR d = true ∧ wid d ≤ 16000000 ∧ d.depth ≤ 60 ∧ Q (.str d.shown) H
theorem call_repr {X : Cx} (hg : X.A.guards = some []) (hu : X.A.units + 64 < cLine) : CallR X (.builtin "repr") (rRepr X.K) := by
  intro pins s σ H xs us Q I r h
  obtain ⟨v, d, rfl, hd, h1, h2, h3, q⟩ := h
  obtain ⟨u, rfl, ru⟩ := vals1 r
  obtain ⟨as, rd⟩ := Dp.reads I d v u hd ru
  have hsz : d.shown.length ≤ sizeLine := Nat.le_trans (shown_le d h1) (Nat.le_trans h2 (by rw [sizeLine_eq]; decide))
  obtain ⟨hs, hn⟩ := okR_show d h1
  have fin : ∀ (h' : Heap) (t : Tok) (tk : Nat), (∀ b o, s.heap.get? b = some o → h'.get? b = some o) → EP X pins σ Q (.str d.shown t) { s with heap := h', toks := tk } := fun h' t tk k => ⟨.str d.shown, H, I.kept k, ⟨t, rfl⟩, q⟩
  cases rd with
  | none => exact P.repr_of_none (fin s.heap _ _ fun _ _ e => e)
  | bool b => exact P.repr_of_bool (by cases b <;> exact (fin s.heap _ _ fun _ _ e => e))
  | int i t => exact P.repr_of_int (by simpa [okR] using h1) (fin s.heap _ _ fun _ _ e => e)
  | str x t => exact P.repr_of_str (fin s.heap _ _ fun _ _ e => e) (by simpa [PyData.shown] using hsz)
  | list a1 a2 a3 a4 => exact repr_of_reads' (Reads.list a1 a2 a3 a4) hs (PyData.noDict_hsm hn) hg (by omega) (fun _ _ e => e) (fun h' u tk k => fin h' u tk k) hsz
  | tuple a1 a2 a3 a4 => exact repr_of_reads' (Reads.tuple a1 a2 a3 a4) hs (PyData.noDict_hsm hn) hg (by omega) (fun _ _ e => e) (fun h' u tk k => fin h' u tk k) hsz
  | dict a1 a2 a3 a4 a5 => simp [okR] at h1
/-! ### x in a tuple of things of any depth -/
def rInT (K : PySem.W.Frag) (neg : Bool) : R2 := fun x y H Q => ∃ d ds, Dp K H x d ∧ Dp K H y (.tuple ds) ∧ SeqAt.shaped d = true ∧ SeqAt.shaped (.tuple ds) = true ∧ Q (.bl (neg ^^ (ds.any fun z => PyData.eqv z d))) H
theorem op_inT {X : Cx} (hu : X.A.units + 65 < cLine) : OpR X (compareOp .In) (rInT X.K false) := by
  intro pins s σ H x y v u Q I rx ry h
  obtain ⟨d, ds, hd, he, sd, se, q⟩ := h
  obtain ⟨as, r1⟩ := Dp.reads I d x v hd rx
  obtain ⟨bs, r2⟩ := Dp.reads I (.tuple ds) y u he ry
  exact SeqAt.in_tuple_reads r2 r1 (SeqAt.canLay_of_shaped se) (SeqAt.canLay_of_shaped sd) (room_in_shaped sd hu) ⟨.bl _, H, I, rfl, by simpa using q⟩
theorem op_notInT {X : Cx} (hu : X.A.units + 65 < cLine) : OpR X (compareOp .NotIn) (rInT X.K true) := by
  intro pins s σ H x y v u Q I rx ry h
  obtain ⟨d, ds, hd, he, sd, se, q⟩ := h
  obtain ⟨as, r1⟩ := Dp.reads I d x v hd rx
  obtain ⟨bs, r2⟩ := Dp.reads I (.tuple ds) y u he ry
  exact SeqAt.notIn_tuple_reads r2 r1 (SeqAt.canLay_of_shaped se) (SeqAt.canLay_of_shaped sd) (room_in_shaped sd hu) ⟨.bl _, H, I, rfl, by simpa using q⟩
end FI

namespace FI
open PySem PySem.Spec PyProof.Rows L2

section
variable {K : KW} {cl : Cls0} {W : WX} {σ : L2.St} {rho : Nat → Addr} {s : Sto} {H : Hp} {Q : VK} {p q : PV} {x y : V}

theorem dpAll_of {f : PV → Option PyData} (hf : ∀ p v d, f p = some d → VR K s.n rho H p v → Dp K H v d) : ∀ (ps : List PV) (vs : List V) (ds : List PyData), mapO f ps = some ds → VRs K s.n rho H ps vs → DpAll K H vs ds
  | [], vs, ds, e, h => by
    simp only [mapO] at e
    simp only [VRs] at h
    cases e; subst h
    exact .nil
  | p :: ps, vs, ds, e, h => by
    simp only [mapO] at e
    simp only [VRs] at h
    obtain ⟨v, r, rfl, h1, h2⟩ := h
    split at e
    · cases e
    · rename_i d hd
      split at e
      · cases e
      · rename_i ds' hds
        cases e
        exact .cons (hf p v d hd h1) (dpAll_of hf ps r ds' hds h2)
theorem toD_ok (R : RSt K rho H s) : ∀ (k : Nat) (p : PV) (v : V) (d : PyData), toD s k p = some d → VR K s.n rho H p v → Dp K H v d
  | 0, p, v, d, e, h => by simp [toD] at e
  | k + 1, p, v, d, e, h => by
    cases p with
    | non => simp only [toD] at e; simp only [VR] at h; cases e; subst h; exact .non
    | bl b => simp only [toD] at e; simp only [VR] at h; cases e; subst h; exact .bl b
    | int b => simp only [toD] at e; simp only [VR] at h; cases e; subst h; exact .int b
    | str b => simp only [toD] at e; simp only [VR] at h; cases e; subst h; exact .str b
    | tup xs =>
      simp only [toD] at e
      simp only [VR] at h
      obtain ⟨a, vs, rfl, t, r⟩ := h
      split at e
      · rename_i ds hds
        cases e
        exact .tup t (dpAll_of (toD_ok R k) xs vs ds hds r)
      · cases e
    | lst i =>
      simp only [toD] at e
      simp only [VR] at h
      obtain ⟨_, rfl⟩ := h
      split at e
      · rename_i xs hxs
        obtain ⟨vs, t, r⟩ := getL_ok R hxs
        split at e
        · rename_i ds hds
          cases e
          exact .lst t (dpAll_of (toD_ok R k) xs vs ds hds r)
        · cases e
      · cases e
    | dct i => simp [toD] at e
    | rep i => simp [toD] at e
theorem eqP_ok {b : Bool} (R : RSt K rho H s) (e : eqP s p q = some b) (hp : VR K s.n rho H p x) (hq : VR K s.n rho H q y) : (∃ d d', Dp K H x d ∧ Dp K H y d' ∧ SeqAt.shaped d = true ∧ SeqAt.shaped d' = true ∧ b = PyData.eqv d d') ∨ (∃ z, x = .str z ∧ y = .str z ∧ b = true) := by
  unfold eqP at e
  split at e
  · rename_i d h1
    split at e
    · rename_i d' h2
      split at e
      · rename_i hs
        cases e
        have := sameD_eq d d' hs
        subst this
        have e1 : p = .rep d := by cases p <;> first | (simp [isRep] at h1; done) | (simp only [isRep] at h1; cases h1; rfl)
        have e2 : q = .rep d := by cases q <;> first | (simp [isRep] at h2; done) | (simp only [isRep] at h2; cases h2; rfl)
        subst e1; subst e2
        simp only [VR] at hp hq
        subst hp; subst hq
        exact .inr ⟨_, rfl, rfl, rfl⟩
      · cases e
    · cases e
  · split at e
    · rename_i d d' h1 h2
      split at e
      · rename_i hs
        simp only [Bool.and_eq_true] at hs
        cases e
        exact .inl ⟨d, d', toD_ok R _ _ _ _ h1 hp, toD_ok R _ _ _ _ h2 hq, hs.1, hs.2, rfl⟩
      · cases e
    · cases e

def copOf : Cop → CmpOp
  | .eq => .Eq | .ne => .NotEq | .lt => .Lt | .le => .LtE | .gt => .Gt | .ge => .GtE | .isN => .Is | .notN => .IsNot | .inn => .In | .notin => .NotIn | .isB => .Is | .notB => .IsNot
def rCmp (K : KW) : Cop → R2
  | .eq => fun x y H Q => rEqD K x y H Q ∨ rEq x y H Q
  | .ne => fun x y H Q => rNeD K x y H Q ∨ rNe x y H Q
  | .lt => rI0 fun i j => .bl (decide (i < j))
  | .le => rI0 fun i j => .bl (decide (i ≤ j))
  | .gt => rI0 fun i j => .bl (decide (j < i))
  | .ge => rI0 fun i j => .bl (decide (j ≤ i))
  | .isN => fun x y H Q => y = .non ∧ Q (.bl (decide (x = .non))) H
  | .notN => fun x y H Q => y = .non ∧ Q (.bl (!decide (x = .non))) H
  | .inn => fun x y H Q => rInD K x y H Q ∨ (rIn K false x y H Q ∨ rInT K false x y H Q)
  | .notin => fun x y H Q => rNotInD K x y H Q ∨ (rIn K true x y H Q ∨ rInT K true x y H Q)
  | .isB => rIsB
  | .notB => rNotB
theorem OpR_false {X : Cx} {f : Value → Value → Sem Value} : OpR X f (fun _ _ _ _ => False) := fun _ _ _ _ _ _ _ _ _ _ _ _ h => h.elim
theorem op_cmp {X : Cx} {k : Nat} (hr : Room k X.A) (o : Cop) : OpR X (compareOp (copOf o)) (rCmp X.kw o) := by
  cases o with
  | eq => exact (op_eqD hr.units).or op_eq
  | ne => exact (op_neD hr.units).or op_ne
  | lt => exact op_lt
  | le => exact op_le
  | gt => exact op_gt
  | ge => exact op_ge
  | isN => exact op_isN
  | notN => exact op_notN
  | inn => exact (op_inD (by have := hr.un; omega)).or (op_in_seq.or (op_inT (by have := hr.un; omega)))
  | notin => exact (op_notInD (by have := hr.un; omega)).or (op_notIn_seq.or (op_notInT (by have := hr.un; omega)))
  | isB => exact op_isBl
  | notB => exact op_notBl
theorem vr_non (hp : VR K s.n rho H p x) : isNonP p = decide (x = .non) := by
  cases p with
  | non => simp only [VR] at hp; subst hp; rfl
  | bl b => simp only [VR] at hp; subst hp; rfl
  | int b => simp only [VR] at hp; subst hp; rfl
  | str b => simp only [VR] at hp; subst hp; rfl
  | tup b => simp only [VR] at hp; obtain ⟨a, _, rfl, _⟩ := hp; rfl
  | lst b => simp only [VR] at hp; obtain ⟨_, rfl⟩ := hp; rfl
  | dct b => simp only [VR] at hp; obtain ⟨_, rfl⟩ := hp; rfl
  | rep b => simp only [VR] at hp; subst hp; rfl
theorem cmp_int {g : Int → Int → Bool} (h : Post K cl W σ rho s H (match p, q with | .int i, .int j => .ok (.bl (g i j)) s | _, _ => .bad) Q) (R : RSt K rho H s) (hp : VR K s.n rho H p x) (hq : VR K s.n rho H q y) : rI0 (fun i j => .bl (g i j)) x y H Q := by
  split at h
  · simp only [VR] at hp hq
    subst hp; subst hq
    exact ⟨_, _, rfl, rfl, h.same R (by simp only [VR])⟩
  · exact h.elim
theorem flatP_ok {v : V} (e : flatP p = some v) (hp : VR K s.n rho H p x) : x = v ∧ flatV v = true := by
  cases p with
  | non => simp only [flatP] at e; cases e; simp only [VR] at hp; exact ⟨hp, rfl⟩
  | bl b => simp only [flatP] at e; cases e; simp only [VR] at hp; exact ⟨hp, rfl⟩
  | int b => simp only [flatP] at e; cases e; simp only [VR] at hp; exact ⟨hp, rfl⟩
  | str b => simp only [flatP] at e; cases e; simp only [VR] at hp; exact ⟨hp, rfl⟩
  | _ => simp [flatP] at e
theorem flatPs_ok : ∀ (ps : List PV) (vs us : List V), mapO flatP ps = some vs → VRs K s.n rho H ps us → us = vs ∧ vs.all flatV = true
  | [], vs, us, e, h => by
    simp only [mapO] at e
    simp only [VRs] at h
    cases e; exact ⟨h, rfl⟩
  | p :: ps, vs, us, e, h => by
    simp only [mapO] at e
    simp only [VRs] at h
    obtain ⟨v, r, rfl, h1, h2⟩ := h
    split at e
    · cases e
    · rename_i d hd
      split at e
      · cases e
      · rename_i ds' hds
        cases e
        obtain ⟨e1, f1⟩ := flatP_ok hd h1
        obtain ⟨e2, f2⟩ := flatPs_ok ps ds' r hds h2
        subst e1; subst e2
        exact ⟨rfl, by rw [List.all_cons, f1, f2]; rfl⟩
theorem inP_ok {b : Bool} (R : RSt K rho H s) (e : inP s p q = some b) (hp : VR K s.n rho H p x) (hq : VR K s.n rho H q y) :
    (∃ d ds, Dp K H x d ∧ Dp K H y (.list ds) ∧ SeqAt.shaped d = true ∧ SeqAt.shaped (.list ds) = true ∧ b = ds.any fun z => PyData.eqv z d) ∨
    ((∃ a xs, y = .ref a ∧ (SqL K H a xs ∨ SqT K H a xs) ∧ flatV x = true ∧ xs.all flatV = true ∧ b = inV x xs) ∨
    (∃ d ds, Dp K H x d ∧ Dp K H y (.tuple ds) ∧ SeqAt.shaped d = true ∧ SeqAt.shaped (.tuple ds) = true ∧ b = ds.any fun z => PyData.eqv z d)) := by
  unfold inP at e
  split at e
  · split at e
    · rename_i d ds h1 h2
      split at e
      · rename_i hs
        simp only [Bool.and_eq_true] at hs
        cases e
        exact .inl ⟨d, ds, toD_ok R _ _ _ _ h1 hp, toD_ok R _ _ _ _ h2 hq, hs.1, hs.2, rfl⟩
      · cases e
    · cases e
  · rename_i xs
    split at e
    · rename_i v vs h1 h2
      cases e
      obtain ⟨rfl, f1⟩ := flatP_ok h1 hp
      simp only [VR] at hq
      obtain ⟨a, us, rfl, t, r⟩ := hq
      obtain ⟨rfl, f2⟩ := flatPs_ok xs vs us h2 r
      exact .inr (.inl ⟨a, _, rfl, .inr t, f1, f2, rfl⟩)
    · split at e
      · rename_i d ds h1 h2
        split at e
        · rename_i hs
          simp only [Bool.and_eq_true] at hs
          cases e
          exact .inr (.inr ⟨d, ds, toD_ok R _ _ _ _ h1 hp, toD_ok R _ _ _ _ h2 hq, hs.1, hs.2, rfl⟩)
        · cases e
      · cases e
  · cases e
theorem cmp_ok (o : Cop) (h : Post K cl W σ rho s H (evCmp o p q s) Q) (R : RSt K rho H s) (hp : VR K s.n rho H p x) (hq : VR K s.n rho H q y) : rCmp K o x y H Q := by
  cases o with
  | eq =>
    simp only [evCmp] at h
    split at h
    · rename_i b e
      rcases eqP_ok R e hp hq with ⟨d, d', h1, h2, h3, h4, rfl⟩ | ⟨z, rfl, rfl, rfl⟩
      · exact .inl ⟨d, d', h1, h2, h3, h4, h.same R (by simp only [VR])⟩
      · exact .inr ⟨rfl, h.same R (by simp [VR])⟩
    · exact h.elim
  | ne =>
    simp only [evCmp] at h
    split at h
    · rename_i b e
      rcases eqP_ok R e hp hq with ⟨d, d', h1, h2, h3, h4, rfl⟩ | ⟨z, rfl, rfl, rfl⟩
      · exact .inl ⟨d, d', h1, h2, h3, h4, h.same R (by simp only [VR])⟩
      · exact .inr ⟨rfl, h.same R (by simp [VR])⟩
    · exact h.elim
  | lt => exact cmp_int (g := fun i j => decide (i < j)) h R hp hq
  | le => exact cmp_int (g := fun i j => decide (i ≤ j)) h R hp hq
  | gt => exact cmp_int (g := fun i j => decide (j < i)) h R hp hq
  | ge => exact cmp_int (g := fun i j => decide (j ≤ i)) h R hp hq
  | isN =>
    simp only [evCmp] at h
    split at h
    · simp only [VR] at hq
      subst hq
      refine ⟨rfl, ?_⟩
      rw [← vr_non hp]
      exact h.same R (by simp only [VR])
    · exact h.elim
  | notN =>
    simp only [evCmp] at h
    split at h
    · simp only [VR] at hq
      subst hq
      refine ⟨rfl, ?_⟩
      rw [← vr_non hp]
      exact h.same R (by simp only [VR])
    · exact h.elim
  | inn =>
    simp only [evCmp] at h
    split at h
    · rename_i b e
      rcases inP_ok R e hp hq with ⟨d, ds, h1, h2, h3, h4, rfl⟩ | ⟨a, xs, rfl, h1, h2, h3, rfl⟩ | ⟨d, ds, h1, h2, h3, h4, rfl⟩
      · exact .inl ⟨d, ds, h1, h2, h3, h4, h.same R (by simp only [VR])⟩
      · exact .inr (.inl ⟨a, xs, rfl, h1, h2, h3, h.same R (by simp only [VR]; rfl)⟩)
      · exact .inr (.inr ⟨d, ds, h1, h2, h3, h4, h.same R (by simp [VR])⟩)
    · exact h.elim
  | notin =>
    simp only [evCmp] at h
    split at h
    · rename_i b e
      rcases inP_ok R e hp hq with ⟨d, ds, h1, h2, h3, h4, rfl⟩ | ⟨a, xs, rfl, h1, h2, h3, rfl⟩ | ⟨d, ds, h1, h2, h3, h4, rfl⟩
      · exact .inl ⟨d, ds, h1, h2, h3, h4, h.same R (by simp only [VR])⟩
      · exact .inr (.inl ⟨a, xs, rfl, h1, h2, h3, h.same R (by simp only [VR]; rfl)⟩)
      · exact .inr (.inr ⟨d, ds, h1, h2, h3, h4, h.same R (by simp [VR])⟩)
    · exact h.elim
  | isB =>
    simp only [evCmp] at h
    split at h
    · simp only [VR] at hp hq
      subst hp; subst hq
      exact ⟨_, _, rfl, rfl, h.same R (by simp only [VR])⟩
    · exact h.elim
  | notB =>
    simp only [evCmp] at h
    split at h
    · simp only [VR] at hp hq
      subst hp; subst hq
      exact ⟨_, _, rfl, rfl, h.same R (by simp only [VR])⟩
    · exact h.elim

theorem seqOf_ok {xs : List PV} (R : RSt K rho H s) (e : seqOf s p = some xs) (hp : VR K s.n rho H p x) : ∃ a vs, x = .ref a ∧ (SqL K H a vs ∨ SqT K H a vs) ∧ VRs K s.n rho H xs vs := by
  unfold seqOf at e
  split at e
  · cases e
    simp only [VR] at hp
    obtain ⟨a, vs, rfl, t, r⟩ := hp
    exact ⟨a, vs, rfl, .inr t, r⟩
  · rename_i i
    simp only [VR] at hp
    obtain ⟨_, rfl⟩ := hp
    obtain ⟨vs, t, r⟩ := getL_ok R e
    exact ⟨_, vs, rfl, .inl t, r⟩
  · cases e
theorem atI_vr {xs : List PV} {vs : List V} {i : Int} (r : VRs K s.n rho H xs vs) (e : atI xs i = some p) : ∃ v, atI vs i = some v ∧ VR K s.n rho H p v := by
  unfold atI at e ⊢
  rw [← r.len]
  cases h : ixN xs.length i with
  | none => rw [h] at e; cases e
  | some j =>
    rw [h] at e
    exact r.get e
theorem idx_ok (h : Post K cl W σ rho s H (evIdx p q s) Q) (R : RSt K rho H s) (hp : VR K s.n rho H p x) (hq : VR K s.n rho H q y) : rIx K x y H Q := by
  unfold evIdx at h
  split at h
  · rename_i i
    simp only [VR] at hq
    subst hq
    split at h
    · rename_i xs e
      obtain ⟨a, vs, rfl, t, r⟩ := seqOf_ok R e hp
      split at h
      · rename_i v ev
        obtain ⟨w, e1, e2⟩ := atI_vr r ev
        rcases t with t | t
        · exact .inl ⟨a, vs, i, w, rfl, rfl, t, e1, h.same R e2⟩
        · exact .inr (.inl ⟨a, vs, i, w, rfl, rfl, t, e1, h.same R e2⟩)
      · exact h.elim
    · exact h.elim
  · exact h.elim
theorem cut_vr {xs : List PV} {vs : List V} {lo hi : Option Int} (r : VRs K s.n rho H xs vs) : VRs K s.n rho H (cutP xs lo hi) (cutV vs lo hi) := by
  unfold cutP cutV
  rw [r.len]
  exact (r.drop _).take _
def rSlc (K : KW) : V → Option Int → Option Int → Hp → VK → Prop := fun x lo hi H Q => rSlL K x lo hi H Q ∨ rSlA K x lo hi H Q
theorem cut_all {α : Type} {xs : List α} {lo hi : Option Int} (h : HT.sIx xs.length 0 lo = 0 ∧ HT.sIx xs.length xs.length hi = xs.length) : (xs.drop (HT.sIx xs.length 0 lo)).take (HT.sIx xs.length xs.length hi - HT.sIx xs.length 0 lo) = xs := by
  rw [h.1, h.2, List.drop_zero, Nat.sub_zero, List.take_length]
theorem slice_ok {lo hi : Option Int} (h : Post K cl W σ rho s H (evSlice p lo hi s) Q) (R : RSt K rho H s) (hp : VR K s.n rho H p x) : rSlc K x lo hi H Q := by
  unfold evSlice at h
  split at h
  · rename_i xs
    simp only [VR] at hp
    obtain ⟨a, vs, rfl, t, r⟩ := hp
    refine .inr ⟨a, vs, rfl, t, fun z => ?_, fun z c hc => h.tup R (cut_vr r) hc⟩
    have e : cutP xs lo hi = xs := by
      unfold cutP
      rw [← r.len] at z
      exact cut_all z
    rw [e] at h
    exact h.same R (by simp only [VR]; exact ⟨a, vs, rfl, t, r⟩)
  · rename_i i
    simp only [VR] at hp
    obtain ⟨_, rfl⟩ := hp
    split at h
    · rename_i xs e
      obtain ⟨vs, t, r⟩ := getL_ok R e
      exact .inl ⟨_, vs, rfl, t, fun c hc => h.lst R (cut_vr r) hc⟩
    · exact h.elim
  · exact h.elim

def tyName : Ty → String
  | .int => "int" | .bool => "bool" | .tuple => "tuple" | .str => "str" | .list => "list"
theorem tyX_list {a : Addr} {vs : List V} (h : SqL K H a vs) : TyX K H (.ref a) (.type "list") := by
  rcases h with (h | ⟨o, h⟩) | ⟨o, its, n, hk, hc, _⟩
  · exact .base (.lst h)
  · exact .base (.frz h)
  · exact .kList hk hc
theorem tyX_tup {a : Addr} {vs : List V} (h : SqT K H a vs) : TyX K H (.ref a) (.type "tuple") := by
  rcases h with (h | ⟨o, h⟩) | ⟨o, its, n, hk, hc, _⟩
  · exact .base (.tup h)
  · exact .fTuple h
  · exact .kTuple hk hc
theorem isi_ok {t : Ty} {b : Bool} (R : RSt K rho H s) (e : isTyS s t p = some b) (hp : VR K s.n rho H p x) : ∃ u : Value, TyX K H x u ∧ PySem.W.kitOne K u (.type (tyName t)) = some b := by
  cases p with
  | non =>
    simp only [VR] at hp; subst hp
    simp only [isTyS] at e
    refine ⟨_, .base .non, kit_ty ?_⟩
    cases t <;> (cases e; first | (show kitB _ _ = some true; decide +kernel) | (show kitB _ _ = some false; decide +kernel))
  | bl k =>
    simp only [VR] at hp; subst hp
    simp only [isTyS] at e
    refine ⟨_, .base (.bl k), kit_ty ?_⟩
    cases t <;> (cases e; first | (show kitB _ _ = some true; decide +kernel) | (show kitB _ _ = some false; decide +kernel))
  | int i =>
    simp only [VR] at hp; subst hp
    simp only [isTyS] at e
    refine ⟨_, .base (.int i), kit_ty ?_⟩
    cases t <;> (cases e; first | (show kitB _ _ = some true; decide +kernel) | (show kitB _ _ = some false; decide +kernel))
  | str i =>
    simp only [VR] at hp; subst hp
    simp only [isTyS] at e
    refine ⟨_, .base (.str i), kit_ty ?_⟩
    cases t <;> (cases e; first | (show kitB _ _ = some true; decide +kernel) | (show kitB _ _ = some false; decide +kernel))
  | tup xs =>
    simp only [VR] at hp
    obtain ⟨a, vs, rfl, tt, r⟩ := hp
    simp only [isTyS] at e
    refine ⟨_, tyX_tup tt, kit_ty ?_⟩
    cases t <;> (cases e; first | (show kitB _ _ = some true; decide +kernel) | (show kitB _ _ = some false; decide +kernel))
  | lst i =>
    simp only [VR] at hp
    obtain ⟨_, rfl⟩ := hp
    simp only [isTyS] at e
    split at e
    · rename_i xs g
      obtain ⟨vs, tt, r⟩ := getL_ok R g
      refine ⟨_, tyX_list tt, kit_ty ?_⟩
      cases t <;> (cases e; first | (show kitB _ _ = some true; decide +kernel) | (show kitB _ _ = some false; decide +kernel))
    · cases e
  | dct i => simp [isTyS] at e
  | rep i => simp [isTyS] at e
end
end FI

namespace FI
open PySem PySem.Spec PyProof.Rows L2

/-! ### built-in functions -/
def bltName : Blt → Str
  | .len => "len" | .abs => "abs" | .int => "int" | .tuple => "tuple" | .list => "list" | .all => "all" | .any => "any" | .min2 => "min" | .maxL => "max" | .repr => "repr"
def bltVal : Blt → Value
  | .len => .builtin "len" | .abs => .builtin "abs" | .int => .type "int" | .tuple => .type "tuple" | .list => .type "list" | .all => .builtin "all" | .any => .builtin "any" | .min2 => .builtin "min" | .maxL => .builtin "max" | .repr => .builtin "repr"
def rBlt (K : KW) : Blt → List V → Hp → VK → Prop
  | .len => fun xs H Q => ∃ p ys, xs = [.ref p] ∧ (SqL K H p ys ∨ SqT K H p ys) ∧ Q (.int ys.length) H
  | .abs => fun xs H Q => ∃ i, xs = [.int i] ∧ Q (.int (if i < 0 then -i else i)) H
  | .int => fun xs H Q => (∃ i, xs = [.int i] ∧ Q (.int i) H) ∨ ∃ k, xs = [.bl k] ∧ Q (.int (if k then 1 else 0)) H
  | .tuple => fun xs H Q => ∃ x, xs = [x] ∧ kTup K x H Q
  | .list => fun xs H Q => ∃ p ys, xs = [.ref p] ∧ (SqL K H p ys ∨ SqT K H p ys) ∧ ∀ l, H l = none → Q (.ref l) (upd H l (.lst ys))
  | .all => rAll K
  | .any => rAny K
  | .min2 => fun xs H Q => ∃ i j, xs = [.int i, .int j] ∧ Q (.int (if j < i then j else i)) H
  | .maxL => rMax K
  | .repr => rRepr K
theorem call_blt {X : Cx} (hc : X.calm = true) (hg : X.A.guards = some []) (hu : X.A.units + 64 < cLine) (b : Blt) : CallR X (bltVal b) (rBlt X.kw b) := by
  cases b with
  | len => exact call_len_seq
  | abs => exact call_abs
  | int => exact call_int1
  | tuple =>
    intro pins s σ H xs us Q I r h
    obtain ⟨x, rfl, h⟩ := h
    obtain ⟨u, rfl, ru⟩ := vals1 r
    exact rl_tuple pins s σ H x u Q I ru h
  | list => exact call_list_of
  | all => exact cr_all hc
  | any => exact cr_any hc
  | min2 => exact call_min2 hc
  | maxL => exact cr_max hc
  | repr => exact call_repr hg hu

section
variable {K : KW} {cl : Cls0} {W : WX} {σ : L2.St} {rho : Nat → Addr} {s : Sto} {H : Hp} {Q : VK}
theorem bools_ok : ∀ {ps : List PV} {bs : List Bool} {vs : List V}, bools ps = some bs → VRs K s.n rho H ps vs → vs = bs.map V.bl
  | [], bs, vs, e, h => by
    simp only [bools] at e
    simp only [VRs] at h
    cases e; exact h
  | p :: ps, bs, vs, e, h => by
    cases p <;> simp only [bools] at e <;> try cases e
    rename_i b
    simp only [VRs, VR] at h
    obtain ⟨v, r, rfl, rfl, h2⟩ := h
    split at e
    · rename_i cs hc
      cases e
      rw [bools_ok hc h2]
      rfl
    · cases e
theorem one_vr {p : PV} {vs : List V} (h : VRs K s.n rho H [p] vs) : ∃ v, vs = [v] ∧ VR K s.n rho H p v := by
  simp only [VRs] at h
  obtain ⟨v, r, rfl, h1, rfl⟩ := h
  exact ⟨v, rfl, h1⟩
theorem ints_ok : ∀ {ps : List PV} {bs : List Int} {vs : List V}, intsP ps = some bs → VRs K s.n rho H ps vs → vs = bs.map V.int
  | [], bs, vs, e, h => by
    simp only [intsP] at e
    simp only [VRs] at h
    cases e; exact h
  | p :: ps, bs, vs, e, h => by
    cases p <;> simp only [intsP] at e <;> try cases e
    rename_i b
    simp only [VRs, VR] at h
    obtain ⟨v, r, rfl, rfl, h2⟩ := h
    split at e
    · rename_i cs hc
      cases e
      rw [ints_ok hc h2]
      rfl
    · cases e
theorem maxI_ge : ∀ (ns : List Int) (n : Int), n ≤ maxI n ns ∧ (∀ y ∈ ns, y ≤ maxI n ns) ∧ (maxI n ns = n ∨ maxI n ns ∈ ns)
  | [], n => ⟨Int.le_refl _, fun _ h => (nomatch h), .inl rfl⟩
  | m :: r, n => by
    simp only [maxI]
    obtain ⟨h1, h2, h3⟩ := maxI_ge r (if n < m then m else n)
    by_cases e : n < m
    · rw [if_pos e] at h1 h2 h3 ⊢
      refine ⟨by omega, fun y hy => ?_, .inr ?_⟩
      · rcases List.mem_cons.mp hy with z | z
        · subst z; exact h1
        · exact h2 y z
      · rcases h3 with z | z
        · rw [z]; exact List.mem_cons_self
        · exact List.mem_cons_of_mem _ z
    · rw [if_neg e] at h1 h2 h3 ⊢
      refine ⟨h1, fun y hy => ?_, ?_⟩
      · rcases List.mem_cons.mp hy with z | z
        · subst z; omega
        · exact h2 y z
      · rcases h3 with z | z
        · exact .inl z
        · exact .inr (List.mem_cons_of_mem _ z)
theorem max_one {n m : Int} {ns : List Int} (h1 : m ∈ n :: ns) (h2 : ∀ y, y ∈ n :: ns → y ≤ m) : m = maxI n ns := by
  obtain ⟨g1, g2, g3⟩ := maxI_ge ns n
  have a : maxI n ns ≤ m := by
    rcases g3 with z | z
    · rw [z]; exact h2 n List.mem_cons_self
    · exact h2 _ (List.mem_cons_of_mem _ z)
  have b : m ≤ maxI n ns := by
    rcases List.mem_cons.mp h1 with z | z
    · rw [z]; exact g1
    · exact g2 _ z
  omega
theorem blt_ok (b : Blt) {ps : List PV} {vs : List V} (h : Post K cl W σ rho s H (evBlt b ps s) Q) (R : RSt K rho H s) (hp : VRs K s.n rho H ps vs) : rBlt K b vs H Q := by
  unfold evBlt at h
  split at h
  · obtain ⟨v, rfl, hv⟩ := one_vr hp
    split at h
    · rename_i xs e
      obtain ⟨a, us, rfl, t, r⟩ := seqOf_ok R e hv
      refine ⟨a, us, rfl, t, ?_⟩
      rw [← r.len]
      exact h.same R (by simp only [VR])
    · exact h.elim
  · obtain ⟨v, rfl, hv⟩ := one_vr hp
    simp only [VR] at hv; subst hv
    exact ⟨_, rfl, h.same R (by simp only [VR])⟩
  · obtain ⟨v, rfl, hv⟩ := one_vr hp
    simp only [VR] at hv; subst hv
    exact .inl ⟨_, rfl, h.same R (by simp only [VR])⟩
  · obtain ⟨v, rfl, hv⟩ := one_vr hp
    simp only [VR] at hv; subst hv
    exact .inr ⟨_, rfl, h.same R (by simp only [VR])⟩
  · obtain ⟨v, rfl, hv⟩ := one_vr hp
    have hv' := hv
    simp only [VR] at hv
    obtain ⟨a, us, rfl, t, r⟩ := hv
    exact ⟨_, rfl, .inr ⟨a, us, rfl, t, h.same R hv'⟩⟩
  · obtain ⟨v, rfl, hv⟩ := one_vr hp
    simp only [VR] at hv
    obtain ⟨_, rfl⟩ := hv
    split at h
    · rename_i xs e
      obtain ⟨us, t, r⟩ := getL_ok R e
      exact ⟨_, rfl, .inl ⟨_, us, rfl, t, fun c hc => h.tup R r hc⟩⟩
    · exact h.elim
  · obtain ⟨v, rfl, hv⟩ := one_vr hp
    split at h
    · rename_i xs e
      obtain ⟨a, us, rfl, t, r⟩ := seqOf_ok R e hv
      exact ⟨a, us, rfl, t, fun c hc => h.lst R r hc⟩
    · exact h.elim
  · obtain ⟨v, rfl, hv⟩ := one_vr hp
    simp only [VR] at hv
    obtain ⟨_, rfl⟩ := hv
    split at h
    · rename_i xs e
      obtain ⟨us, t, r⟩ := getL_ok R e
      split at h
      · rename_i bs hb
        have e2 := bools_ok hb r
        subst e2
        exact ⟨_, bs, rfl, t, h.same R (by simp only [VR])⟩
      · exact h.elim
    · exact h.elim
  · obtain ⟨v, rfl, hv⟩ := one_vr hp
    simp only [VR] at hv
    obtain ⟨_, rfl⟩ := hv
    split at h
    · rename_i xs e
      obtain ⟨us, t, r⟩ := getL_ok R e
      split at h
      · rename_i bs hb
        have e2 := bools_ok hb r
        subst e2
        exact ⟨_, bs, rfl, t, h.same R (by simp only [VR])⟩
      · exact h.elim
    · exact h.elim
  · simp only [VRs, VR] at hp
    obtain ⟨v, r, rfl, rfl, w, r2, rfl, rfl, rfl⟩ := hp
    exact ⟨_, _, rfl, h.same R (by simp only [VR])⟩
  · obtain ⟨v, rfl, hv⟩ := one_vr hp
    split at h
    · rename_i d e
      split at h
      · rename_i hs
        simp only [Bool.and_eq_true, decide_eq_true_eq] at hs
        exact ⟨v, d, rfl, toD_ok R _ _ _ _ e hv, hs.1.1, hs.1.2, hs.2, h.same R (by simp only [VR])⟩
      · exact h.elim
    · exact h.elim
  · obtain ⟨v, rfl, hv⟩ := one_vr hp
    simp only [VR] at hv
    obtain ⟨_, rfl⟩ := hv
    split at h
    · rename_i xs e
      obtain ⟨us, t, r⟩ := getL_ok R e
      split at h
      · rename_i n ns hb
        have e2 := ints_ok hb r
        subst e2
        refine ⟨_, n :: ns, rfl, t, Nat.zero_lt_succ _, fun m h1 h2 => ?_⟩
        rw [max_one h1 h2]
        exact h.same R (by simp only [VR])
      · exact h.elim
    · exact h.elim
  · exact h.elim
end

/-! ### what the text must be -/
def visB (sc : Scope) (x : Str) : Bool := match sc.names.lookup x with | some .local => true | some .cell => true | some .free => true | _ => false
def locB (sc : Scope) (x : Str) : Bool := match sc.names.lookup x with | some .local => true | _ => false
def glB (sc : Scope) (x : Str) : Bool := (match sc.names.lookup x with | some .globalImplicit => true | _ => false) && !(x == ("__debug__" : Str)) && !(x == ("__classdict__" : Str))
theorem visB_ok {sc : Scope} {x : Str} (h : visB sc x = true) : Vis sc x := by
  unfold visB at h
  split at h <;> rename_i e
  · exact .inl e
  · exact .inr (.inl e)
  · exact .inr (.inr e)
  · cases h
def nostar : Expr → Bool
  | .Starred .. => false
  | _ => true
theorem nostar_ok {e : Expr} {es : List Expr} {env : Env} (h : nostar e = true) : starEach (e :: es) env = (false, eval e env) :: starEach es env := by
  cases e <;> first | rfl | cases h
theorem nostar_all {pos : Pos} {env : Env} : ∀ {es : List Expr}, es.all nostar = true → (backTo pos (starEach es env)).any (·.1) = false
  | [], _ => rfl
  | e :: es, h => by
    simp only [List.all_cons, Bool.and_eq_true] at h
    rw [nostar_ok h.1]
    have := nostar_all (pos := pos) (env := env) h.2
    unfold backTo at this ⊢
    rw [List.map_cons, List.any_cons, this]
    rfl
def plainIx : Expr → Bool
  | .Slice .. => false
  | _ => true
theorem plainIx_ok {e : Expr} (h : plainIx e = true) : PlainIx e := by
  intro o i
  cases e <;> first | rfl | cases h
end FI

namespace FI
open PySem PySem.Spec PyProof.Rows L2
/-! A def's promise where no text is being shown (so that repr may be called). -/
structure FnG (P : Program) (w : World) (K : PySem.W.Frag) (mg : Str → Option Value) (base : Heap) (CX : CXT) (k : Nat) (f : Addr) (fd : FuncData) (ps : List Str) (sp : Sp) : Prop where
  len : ∀ vs H Q Ex, sp vs H Q Ex → vs.length = ps.length
  run : ∀ (A : Around) (out : List Env) (s : Shared) (H : Hp) (as : Args) (us : List Value) (vs : List V) (Q : VK) (Ex : XK), Room k A → A.guards = some [] →
    Env0 P w K mg base A out s H → BindsTo s fd as (ps.zip us) → Vals vs us → sp vs H Q Ex → codeAny (model P w) A (.call (.ref f) as) (CR CX out P w H s Q Ex) s
section
variable {X : Cx} {CX : CXT} {k : Nat} {f : Addr} {fd : FuncData} {ps : List Str} {sp : Sp} {Ex : L2.St → XK} {x : Str} {p pos : Pos} {e : Expr} {es : List Expr} {t : TA}
theorem runG {pins : List (Addr × Obj)} {σ : L2.St} {H : Hp} {s : Shared} {Q : VK} {us : List Value} {vs : List V} (F : FnG X.prog X.w X.K X.mg X.base CX k f fd ps sp) (hr : Room k X.A) (hg : X.A.guards = some []) (hb : Binds X.K fd ps []) (hx : PassesAt CX X σ (Ex σ))
    (I : Inv X pins σ H s) (r : Vals vs us) (h : sp vs H Q (Ex σ)) : wpAny (model X.prog X.w) X.A (call (.ref f) us) (EP X pins σ Q) X.xe s := by
  have hl : (us ++ ([] : List Value)).length = ps.length := by rw [List.append_nil, ← r.length]; exact F.len _ _ _ _ h
  have b := hb s us I.kIn hl
  rw [List.append_nil] at b
  have c := F.run X.A X.stack s H ⟨us, []⟩ us vs Q (Ex σ) hr hg I.env0 b r h
  refine wpAny_call (codeAny_mono c ?_)
  intro res s' q
  match res, q with
  | .error er, q => exact hx pins H s er s' I q
  | .ok (.ret u), q => exact I.after q
theorem pe_callG (F : FnG X.prog X.w X.K X.mg X.base CX k f fd ps sp) (hr : Room k X.A) (hg : X.A.guards = some []) (gl : Gl X x) (hm : X.mg x = some (.ref f)) (hk : PySem.W.keepIn X.K (.ref f) = true) (hb : Binds X.K fd ps []) (hx : ∀ σ, PassesAt CX X σ (Ex σ))
    (ha : PA X (e :: es) t) (hd : (x == ("__debug__" : Str)) = false) (he : starEach (e :: es) X.env = (false, eval e X.env) :: starEach es X.env) (hp : (backTo pos (starEach es X.env)).any (·.1) = false) : PE X (.Call (.Name x p) (e :: es) [] pos) (tCallS sp Ex t) := by
  constructor
  intro pins s σ H Q I h
  apply wpAny_Call_Name_kw
  apply ld_glob I gl hm _ hd
  apply PySem.W.callWith_K (h₀ := X.base) I.ok.mod.kin hk _ he hp
  apply thn (ha.run pos pins s σ H _ I h)
  rintro us s1 ⟨vs, H1, I1, r, q⟩
  exact ⟨I1.kIn, runG F hr hg hb (hx σ) I1 r q⟩
theorem pe_callG0 (F : FnG X.prog X.w X.K X.mg X.base CX k f fd ps sp) (hr : Room k X.A) (hg : X.A.guards = some []) (gl : Gl X x) (hm : X.mg x = some (.ref f)) (hk : PySem.W.keepIn X.K (.ref f) = true) (hb : Binds X.K fd ps []) (hx : ∀ σ, PassesAt CX X σ (Ex σ))
    (hd : (x == ("__debug__" : Str)) = false) : PE X (.Call (.Name x p) [] [] pos) (tCallS sp Ex tNil) := by
  constructor
  intro pins s σ H Q I h
  apply wpAny_Call_Name_kw
  apply ld_glob I gl hm _ hd
  exact PySem.W.callWith_K0 I.kIn hk (runG (us := []) F hr hg hb (hx σ) I .nil h)
end
/-! ### the start: the script, and empty tables of code objects -/
/-- what the heap behind the top has for the law's call -/
structure Start (K : PySem.W.Frag) (mg : Str → Option Value) (cs : List (Addr × Addr)) (a : Addr) (us : List Value) (s : Shared) : Prop where
  kin : K.In s.heap
  glo : s.heap.Ns mainGlobals mg
  blt : ∃ mb, s.heap.Ns builtinsNs mb ∧ ∀ x : Str, x ≠ "__name__" → mb x = bootBuiltins x
  lim : s.heap.NoLimit
  gens : s.gens = #[]
  scr : s.heap.get? a = some { cls := .type "list", data := .seq us.toArray }
  tab : ∀ c ∈ cs, s.heap.get? c.2 = some { cls := .none, data := .fields #[] }
  tabK : ∀ c ∈ cs, K.lookup c.2 = none
  cod : ∀ c ∈ cs, PySem.W.CodeHd s.heap c.1 c.2
  bmo : cs ≠ [] → ∃ (bm : Addr) (ob : Obj), mg "__builtins__" = some (.ref bm) ∧ bm ≠ builtinsNs ∧ s.heap.get? bm = some ob ∧ ob.cls = .type "module" ∧ ob.dict = some builtinsNs ∧ ob.data = .plain
/-- the abstract heap at the start -/
def Hp0 (K : PySem.W.Frag) (cs : List (Addr × Addr)) (a : Addr) (us : List Value) (ns : List Int) : Hp := fun b =>
  if b ∈ cs.map (·.2) then some (.tbl #[]) else if b = a ∧ K.lookup a = none then some (.frz { cls := .type "list", data := .seq us.toArray } (.lst (ns.map V.int))) else none
section
variable {P : Program} {w : World} {K : PySem.W.Frag} {mg : Str → Option Value} {cs : List (Addr × Addr)} {a : Addr} {us : List Value} {ns : List Int} {s : Shared}
theorem Start.noTab (S : Start K mg cs a us s) : a ∉ cs.map (·.2) := fun z => by
  obtain ⟨c, hc, rfl⟩ := List.mem_map.mp z
  have h := S.tab c hc
  rw [S.scr] at h
  cases h
theorem Hp0.cases (S : Start K mg cs a us s) {b : Addr} {o : HO} (h : Hp0 K cs a us ns b = some o) :
    (b ∈ cs.map (·.2) ∧ o = .tbl #[] ∧ s.heap.get? b = some { cls := .none, data := .fields #[] }) ∨ (b ∉ cs.map (·.2) ∧ b = a ∧ K.lookup a = none ∧ o = .frz { cls := .type "list", data := .seq us.toArray } (.lst (ns.map V.int))) := by
  unfold Hp0 at h
  split at h
  · rename_i hb
    cases h
    obtain ⟨c, hc, rfl⟩ := List.mem_map.mp hb
    exact .inl ⟨hb, rfl, S.tab c hc⟩
  · rename_i hb
    split at h
    · rename_i ha
      cases h
      exact .inr ⟨hb, ha.1, ha.2, rfl⟩
    · cases h
theorem Hp0.hok (S : Start K mg cs a us s) (hi : IntsAre us ns) (hl : ns.length ≤ sizeLine) : HOk P w (Hp0 K cs a us ns) s.heap := fun b o h => by
  rcases Hp0.cases S h with ⟨_, rfl, e⟩ | ⟨_, rfl, _, rfl⟩
  · exact e
  · exact ⟨S.scr, by rw [List.length_map]; exact hl, us, _, vals_ints hi, S.scr⟩
/-- what is neither a list nor an empty record is not tracked -/
theorem Hp0.none (S : Start K mg cs a us s) {b : Addr} {o : Obj} (e : s.heap.get? b = some o) (h1 : ∀ vs n, o.data ≠ .seq vs n) (h2 : o.data ≠ .fields #[]) : Hp0 K cs a us ns b = .none := by
  cases q : Hp0 K cs a us ns b with
  | none => rfl
  | some u =>
    exfalso
    rcases Hp0.cases S q with ⟨_, _, e'⟩ | ⟨_, rfl, _, _⟩
    · rw [e] at e'; cases e'; exact h2 rfl
    · have e' := S.scr
      rw [e] at e'; cases e'; exact h1 _ _ rfl
theorem Hp0.seq (S : Start K mg cs a us s) (hi : IntsAre us ns) (hl : ns.length ≤ sizeLine) : SqL K (Hp0 K cs a us ns) a (ns.map V.int) := by
  cases hk : K.lookup a with
  | none => exact .inl (.inr ⟨_, by unfold Hp0; rw [if_neg S.noTab, if_pos ⟨rfl, hk⟩]⟩)
  | some o =>
    have e := S.kin a o hk
    rw [S.scr] at e
    cases e
    exact .inr ⟨_, us.toArray, _, hk, rfl, rfl, rfl, by rw [List.size_toArray, hi.length]; exact hl, by simpa using vals_ints hi⟩
theorem law_callG {CX : CXT} {k : Nat} {fa : Addr} {fd : FuncData} {x : Str} {sp : Sp} (S : Start K mg cs a us s) (hi : IntsAre us ns) (hl : ns.length ≤ sizeLine) (hr : Room k callerA)
    (F : ∀ base : Heap, (∀ c ∈ cs, LamX.TabB base mg c.1 c.2) → FnG P w K mg base CX k fa fd [x] sp) (hb : ∀ (s : Shared) (u : Value), BindsTo s fd ⟨[u], []⟩ [(x, u)])
    (hs : sp [.ref a] (Hp0 K cs a us ns) (fun v _ => v = .bl true) fun _ _ _ => False) (hCX : ∀ e s', CX [] (Hp0 K cs a us ns) s (fun _ _ _ => False) e s' → False) :
    codeAny (model P w) callerA (.call (.ref fa) ⟨[.ref a], []⟩) (fun r s' => r = .ok (.ret (.bool true)) ∧ OldK s.heap s'.heap ∧ s'.os = s.os ∧ AllBare s'.gens) s := by
  let H := Hp0 K cs a us ns
  let B := hidT s.heap H
  have ok : HOk P w H s.heap := Hp0.hok S hi hl
  have un : ∀ {b : Addr} {o : Obj}, s.heap.get? b = some o → (∀ vs n, o.data ≠ .seq vs n) → o.data ≠ .fields #[] → B.get? b = some o := fun e h1 h2 => hidT_get e (Hp0.none S e h1 h2)
  have nsp : ∀ {b : Addr} {m : Str → Option Value}, s.heap.Ns b m → B.Ns b m := by
    rintro b m ⟨o, es, ep, e, d, r⟩
    exact ⟨o, es, ep, un e (fun vs n z => by rw [d] at z; cases z) (fun z => by rw [d] at z; cases z), d, r⟩
  have kin : K.In B := fun b o e => hidT_get (S.kin b o e) (by
    cases q : H b with
    | none => rfl
    | some u =>
      exfalso
      rcases Hp0.cases S q with ⟨hm, _, _⟩ | ⟨_, rfl, hk, _⟩
      · obtain ⟨c, hc, rfl⟩ := List.mem_map.mp hm
        rw [S.tabK c hc] at e; cases e
      · rw [hk] at e; cases e)
  have md : L2.Mod K mg B := by
    obtain ⟨mb, h1, h2⟩ := S.blt
    obtain ⟨mc, h3, h4⟩ := S.lim
    exact ⟨kin, nsp S.glo, ⟨mb, nsp h1, h2⟩, ⟨mc, nsp h3, h4⟩⟩
  have tb : ∀ c ∈ cs, LamX.TabB B mg c.1 c.2 := fun c hc => by
    have e := S.tab c hc
    obtain ⟨bm, ob, b1, b2, b3, b4, b5, b6⟩ := S.bmo (fun z => by rw [z] at hc; cases hc)
    obtain ⟨og, es, ep, g1, g2, _⟩ := S.glo
    obtain ⟨oc, fs, file, tf, fl, tg, inF, tx, tt, c1, r1, c2, c3, r4, r5, r6, r7, r8, r9⟩ := S.cod c hc
    refine ⟨⟨oc, fs, file, tf, fl, tg, inF, tx, tt, un c1 (fun vs n z => by rw [c2] at z; cases z) (fun z => by rw [c2] at z; cases z; simp at c3), r1, c2, c3, r4, r5, r6, r7, r8, r9⟩, ⟨bm, ob, b1, b2, fun z => ?_, fun z => ?_, un b3 (fun vs n z => by rw [b6] at z; cases z) (fun z => by rw [b6] at z; cases z), b4, b5, b6⟩, fun z => ?_⟩
    · rw [z, g1] at b3; cases b3; rw [g2] at b6; cases b6
    · rw [z, e] at b3; cases b3; cases b6
    · rw [z, e] at g1; cases g1; cases g2
  have e0 : Env0 P w K mg B callerA [] s H := ⟨rfl, md, fun b o e => of_hidT e, Nat.le_of_eq (hidT_size _ _), trivial, fun b z => absurd (show b ∈ ([] : List Addr) from z) (by simp), ok, .of_eq S.gens⟩
  refine codeAny_mono ((F B tb).run callerA [] s H ⟨[.ref a], []⟩ [.ref a] [.ref a] _ _ hr rfl e0 (hb s (.ref a)) (.cons rfl .nil) hs) ?_
  intro res s' q
  match res, q with
  | .error e, q => exact (hCX e s' q).elim
  | .ok (.ret u), ⟨v, H', os, bare, U, ok', rv, q⟩ =>
    have q : v = .bl true := q
    subst q
    have rv : u = Value.bool true := rv
    subst rv
    have old : ∀ b o, b ∉ cs.map (·.2) → s.heap.get? b = some o → s'.heap.get? b = some o := fun b o nb e => by
      cases z : H b with
      | none => exact U.keep b o e z (fun y => absurd (show b ∈ ([] : List Addr) from y) (by simp)) (by simp)
      | some u =>
        rcases Hp0.cases S z with ⟨hm, _, _⟩ | ⟨_, _, _, rfl⟩
        · exact absurd hm nb
        · obtain ⟨e1, _⟩ := ok b _ z
          obtain ⟨e2, _⟩ := ok' b _ (U.frzs b _ _ z)
          rw [e] at e1; cases e1
          exact e2
    have grew : ∀ c ∈ cs, ∃ ps : Array Value, s'.heap.get? c.2 = some { cls := .none, data := .fields ps } := fun c hc => by
      obtain ⟨ps, z⟩ := U.tbls c.2 #[] (by show Hp0 K cs a us ns c.2 = _; unfold Hp0; rw [if_pos (List.mem_map.mpr ⟨c, hc, rfl⟩)])
      exact ⟨_, ok' c.2 _ z⟩
    refine ⟨rfl, ⟨fun b o e => ?_, fun b o e => ?_⟩, os, bare⟩
    · by_cases hm : b ∈ cs.map (·.2)
      · obtain ⟨c, hc, rfl⟩ := List.mem_map.mp hm
        obtain ⟨ps, g⟩ := grew c hc
        rw [S.tab c hc] at e
        cases e
        exact .inr (.inl ⟨((S.cod c hc).tab (S.tab c hc)).isCodeTable, rfl, #[], ps, rfl, by rw [Array.empty_append]; exact g⟩)
      · exact .inl (old b o hm e)
    · by_cases hm : b ∈ cs.map (·.2)
      · obtain ⟨c, hc, rfl⟩ := List.mem_map.mp hm
        obtain ⟨ps, g⟩ := grew c hc
        exact ⟨_, g⟩
      · exact ⟨o, old b o hm e⟩
end
end FI

namespace FI
open PySem PySem.Spec PyProof.Rows L2

/-! ### taking syntax apart -/
def asInt : Expr → Option (Int × Nat × Pos) | .Constant (.int j) k p => some (j, k, p) | _ => none
def asBl : Expr → Option (Bool × Nat × Pos) | .Constant (.bool j) k p => some (j, k, p) | _ => none
def asNon : Expr → Option (Nat × Pos) | .Constant .none k p => some (k, p) | _ => none
def asStr : Expr → Option (Str × Nat × Pos) | .Constant (.str j) k p => some (j, k, p) | _ => none
def asName : Expr → Option (Str × Pos) | .Name x p => some (x, p) | _ => none
def asBin : Expr → Option (Expr × Operator × Expr × Pos) | .BinOp a o b p => some (a, o, b, p) | _ => none
def asCmp : Expr → Option (Expr × CmpOp × Expr × Pos) | .Compare a [o] [b] p => some (a, o, b, p) | _ => none
def asCmp2 : Expr → Option (Expr × CmpOp × CmpOp × Expr × Expr × Pos) | .Compare a [o, q] [b, c] p => some (a, o, q, b, c, p) | _ => none
def asUn : Expr → Option (UnaryOp × Expr × Pos) | .UnaryOp o a p => some (o, a, p) | _ => none
def asBo1 : Expr → Option (BoolOp × Expr × Pos) | .BoolOp o [a] p => some (o, a, p) | _ => none
def asBo2 : Expr → Option (BoolOp × Expr × Expr × List Expr × Pos) | .BoolOp o (a :: b :: r) p => some (o, a, b, r, p) | _ => none
def asIf : Expr → Option (Expr × Expr × Expr × Pos) | .IfExp a b c p => some (a, b, c, p) | _ => none
def asSub : Expr → Option (Expr × Expr × Pos) | .Subscript a b p => some (a, b, p) | _ => none
def asSl : Expr → Option (Option Expr × Option Expr × Pos) | .Slice a b none p => some (a, b, p) | _ => none
def asTup : Expr → Option (List Expr × Nat × Pos) | .Tuple a k p => some (a, k, p) | _ => none
def asLst : Expr → Option (List Expr × Pos) | .List a p => some (a, p) | _ => none
def asCall0 : Expr → Option (Str × Pos × Pos) | .Call (.Name x p) [] [] q => some (x, p, q) | _ => none
theorem asCall0_ok {e : Expr} {r} (h : asCall0 e = some r) : e = .Call (.Name r.1 r.2.1) [] [] r.2.2 := by unfold asCall0 at h; split at h <;> cases h; rfl
def asCall : Expr → Option (Str × Pos × Expr × List Expr × Pos) | .Call (.Name x p) (a :: r) [] q => some (x, p, a, r, q) | _ => none
theorem asInt_ok {e : Expr} {r} (h : asInt e = some r) : e = .Constant (.int r.1) r.2.1 r.2.2 := by unfold asInt at h; split at h <;> cases h; rfl
theorem asBl_ok {e : Expr} {r} (h : asBl e = some r) : e = .Constant (.bool r.1) r.2.1 r.2.2 := by unfold asBl at h; split at h <;> cases h; rfl
theorem asNon_ok {e : Expr} {r} (h : asNon e = some r) : e = .Constant .none r.1 r.2 := by unfold asNon at h; split at h <;> cases h; rfl
theorem asStr_ok {e : Expr} {r} (h : asStr e = some r) : e = .Constant (.str r.1) r.2.1 r.2.2 := by unfold asStr at h; split at h <;> cases h; rfl
theorem asName_ok {e : Expr} {r} (h : asName e = some r) : e = .Name r.1 r.2 := by unfold asName at h; split at h <;> cases h; rfl
theorem asBin_ok {e : Expr} {r} (h : asBin e = some r) : e = .BinOp r.1 r.2.1 r.2.2.1 r.2.2.2 := by unfold asBin at h; split at h <;> cases h; rfl
theorem asCmp_ok {e : Expr} {r} (h : asCmp e = some r) : e = .Compare r.1 [r.2.1] [r.2.2.1] r.2.2.2 := by unfold asCmp at h; split at h <;> cases h; rfl
theorem asCmp2_ok {e : Expr} {r} (h : asCmp2 e = some r) : e = .Compare r.1 [r.2.1, r.2.2.1] [r.2.2.2.1, r.2.2.2.2.1] r.2.2.2.2.2 := by unfold asCmp2 at h; split at h <;> cases h; rfl
theorem asUn_ok {e : Expr} {r} (h : asUn e = some r) : e = .UnaryOp r.1 r.2.1 r.2.2 := by unfold asUn at h; split at h <;> cases h; rfl
theorem asBo1_ok {e : Expr} {r} (h : asBo1 e = some r) : e = .BoolOp r.1 [r.2.1] r.2.2 := by unfold asBo1 at h; split at h <;> cases h; rfl
theorem asBo2_ok {e : Expr} {r} (h : asBo2 e = some r) : e = .BoolOp r.1 (r.2.1 :: r.2.2.1 :: r.2.2.2.1) r.2.2.2.2 := by unfold asBo2 at h; split at h <;> cases h; rfl
theorem asIf_ok {e : Expr} {r} (h : asIf e = some r) : e = .IfExp r.1 r.2.1 r.2.2.1 r.2.2.2 := by unfold asIf at h; split at h <;> cases h; rfl
theorem asSub_ok {e : Expr} {r} (h : asSub e = some r) : e = .Subscript r.1 r.2.1 r.2.2 := by unfold asSub at h; split at h <;> cases h; rfl
theorem asSl_ok {e : Expr} {r} (h : asSl e = some r) : e = .Slice r.1 r.2.1 none r.2.2 := by unfold asSl at h; split at h <;> cases h; rfl
theorem asTup_ok {e : Expr} {r} (h : asTup e = some r) : e = .Tuple r.1 r.2.1 r.2.2 := by unfold asTup at h; split at h <;> cases h; rfl
theorem asLst_ok {e : Expr} {r} (h : asLst e = some r) : e = .List r.1 r.2 := by unfold asLst at h; split at h <;> cases h; rfl
theorem asCall_ok {e : Expr} {r} (h : asCall e = some r) : e = .Call (.Name r.1 r.2.1) (r.2.2.1 :: r.2.2.2.1) [] r.2.2.2.2 := by unfold asCall at h; split at h <;> cases h; rfl

def opB (o : Bop) (p : Operator) : Bool := decide (opOf o = p)
def copB (o : Cop) (p : CmpOp) : Bool := decide (copOf o = p) && !decide (p = .In) && !decide (p = .NotIn)
def tyStr : Ty → Str
  | .int => "int" | .bool => "bool" | .tuple => "tuple" | .str => "str" | .list => "list"

/-- a call of an own def, by the interpreter -/
def spI (K : KW) (cl : Cls0) (call : Nat → List PV → Sto → Res PV) (f : Nat) : Sp := fun vs H Q Ex =>
  ∃ rho s ps, RSt K rho H s ∧ VRs K s.n rho H ps vs ∧ Post K cl (fun c d _ H => Ex c d H) [] rho s H (call f ps s) Q
def bltNames : List Str := ["len", "abs", "int", "tuple", "list", "all", "any", "min", "max", "isinstance", "bool", "str", "range", "zip", "enumerate", "repr", "sorted", "sum", "dict", "reversed", "set"]
/-- raise x(e): an own error of one field -/
def tRaiseG (f : Str) (C : Addr) (W : WX) (ta : TA) : TS := fun _ σ H => ta σ H fun vs H1 => ∃ v, vs = [v] ∧ ∀ d, H1 d = none → W (.ref C) (some d) σ (L2.upd H1 d (.xd [(f, v)]))
def ErrOk (K : PySem.W.Frag) (mg : Str → Option Value) (x f : Str) (C : Addr) : Prop := ∀ (X : Cx) (a : Expr) (ta : TA) (W : WX) (p pos pos2 : Pos) (k : Nat), X.K = K → X.mg = mg → X.calm = true → Room k X.A → Takes X W → PA X [a] ta → Gl X x → (x == ("__debug__" : Str)) = false →
  starEach (a :: []) X.env = (false, eval a X.env) :: starEach [] X.env → (backTo pos (starEach [] X.env)).any (·.1) = false → PS X (.Raise (some (.Call (.Name x p) [a] [] pos)) none pos2) (tRaiseG f C W ta)
structure Facts (P : Program) (w : World) (K : PySem.W.Frag) (mg : Str → Option Value) (base : Heap) (cl : Cls0) (T : Tab) (call : Nat → List PV → Sto → Res PV) (k : Nat) : Prop where
  fns : ∀ (f : Nat) (x : Str), T.fns[f]? = some x → ∃ a fd ps, mg x = some (.ref a) ∧ PySem.W.keepIn K (.ref a) = true ∧ Binds K fd ps [] ∧ FnG P w K mg base (L2.CX P w) k a fd ps (spI ⟨K, P, w⟩ cl call f)
  consts : ∀ (i : Nat) (x : Str) (p : PV), T.cnames[i]? = some x → T.consts[i]? = some p → ∃ u v, mg x = some u ∧ RelV v u ∧ ∀ n rho H, VR ⟨K, P, w⟩ n rho H p v
  blt : ∀ x ∈ bltNames, mg x = none
  errs : ∀ (c : Nat) (x f : Str), T.errs[c]? = some (x, f) → ∃ C, cl c = some (C, [f]) ∧ ErrOk K mg x f C
structure Good (cl : Cls0) (T : Tab) (call : Nat → List PV → Sto → Res PV) (k : Nat) (N : List Str) (sc : Scope) (W : WX) (X : Cx) : Prop where
  hN : X.N = N
  nd : N.Nodup
  hsc : X.env.scope = sc
  calm : X.calm = true
  room : Room k X.A
  gd : X.A.guards = some []
  facts : Facts X.prog X.w X.K X.mg X.base cl T call k
  pass : ∀ σ, PassesAt (L2.CX X.prog X.w) X σ (fun c d H => W c d σ H)
end FI

namespace FI
open PySem PySem.Spec PyProof.Rows L2

section
variable {K : KW} {cl : Cls0} {W : WX} {σ : L2.St} {rho : Nat → Addr} {s : Sto} {H : Hp} {Q Q' : VK} {T : Tab} {call : Nat → List PV → Sto → Res PV} {c : E} {sl : Sl}
theorem Post.imp {r : Res PV} (h : Post K cl W σ rho s H r Q) (i : ∀ v H, Q v H → Q' v H) : Post K cl W σ rho s H r Q' := by
  cases r with
  | ok p s' => exact fun rho' H' v x R e => i _ _ (h rho' H' v x R e)
  | exc c fs s' => exact h
  | bad => exact h
theorem tI_imp (h : tI K cl W T call c σ H Q) (i : ∀ v H, Q v H → Q' v H) : tI K cl W T call c σ H Q' := by
  obtain ⟨rho, s, sl, R, S, h⟩ := h
  exact ⟨rho, s, sl, R, S, h.imp i⟩
theorem tIA_imp {Q Q' : List V → Hp → Prop} (h : tIA K cl W T call c σ H Q) (i : ∀ v H, Q v H → Q' v H) : tIA K cl W T call c σ H Q' := by
  obtain ⟨rho, s, sl, R, S, h⟩ := h
  refine ⟨rho, s, sl, R, S, ?_⟩
  split at h
  · exact fun rho' H' v x R e => i _ _ (h rho' H' v x R e)
  · exact h.elim
  · exact h
  · exact h.elim
end

section
variable {cl : Cls0} {T : Tab} {call : Nat → List PV → Sto → Res PV} {k : Nat} {N : List Str} {sc : Scope} {W : WX} {X : Cx}
/-- a test's reading -/
def tIT (K : KW) (cl : Cls0) (W : WX) (T : Tab) (call : Nat → List PV → Sto → Res PV) (c : E) : TT := fun σ H Q => tI K cl W T call c σ H fun v H' => ∃ b, v = .bl b ∧ Q b H'
theorem glB_ok (G : Good cl T call k N sc W X) {x : Str} (h : glB sc x = true) : Gl X x ∧ (x == ("__debug__" : Str)) = false := by
  unfold glB at h
  simp only [Bool.and_eq_true, Bool.not_eq_true'] at h
  obtain ⟨⟨h1, h2⟩, _⟩ := h
  refine ⟨?_, h2⟩
  unfold Gl Env.kindOf
  rw [G.hsc]
  split at h1
  · assumption
  · cases h1
theorem Good.un (G : Good cl T call k N sc W X) : X.A.units + 64 < cLine := G.room.units

theorem g_var (G : Good cl T call k N sc W X) {i : Nat} {x : Str} {p : Pos} (h1 : N[i]? = some x) (h2 : Vis sc x) (h3 : (x == ("__debug__" : Str)) = false) (h4 : (x == ("__classdict__" : Str)) = false) : PE X (.Name x p) (tI X.kw cl W T call (.var i)) :=
  PE_imp (pe_var (i := i) (by rw [G.hN]; exact h1) (by rw [G.hsc]; exact h2) h3 h4) fun σ H Q ⟨rho, s, sl, R, S, h⟩ => by
    simp only [ev] at h
    split at h
    · rename_i q e
      obtain ⟨v, e1, e2⟩ := S.2 i q e
      exact ⟨v, e1, h.same R e2⟩
    · exact h.elim
theorem g_glob (G : Good cl T call k N sc W X) {i : Nat} {x : Str} {p : Pos} (h1 : T.cnames[i]? = some x) (h2 : glB sc x = true) : PE X (.Name x p) (tI X.kw cl W T call (.glob i)) := by
  obtain ⟨hg, hd⟩ := glB_ok G h2
  cases e : T.consts[i]? with
  | none =>
    refine PE_imp (t := fun _ _ _ => False) ⟨fun _ _ _ _ _ _ h => h.elim⟩ fun σ H Q ⟨rho, s, sl, R, S, h⟩ => ?_
    simp only [ev, e] at h
    exact h
  | some q =>
    obtain ⟨u, v, hm, r, hv⟩ := G.facts.consts i x q h1 e
    refine PE_imp (pe_glob hg hm r hd) fun σ H Q ⟨rho, s, sl, R, S, h⟩ => ?_
    simp only [ev, e] at h
    exact h.same R (hv _ _ _)
theorem g_bin {o : Bop} {a b : Expr} {ca cb : E} {p : Pos} (ha : PE X a (tI X.kw cl W T call ca)) (hb : PE X b (tI X.kw cl W T call cb)) : PE X (.BinOp a (opOf o) b p) (tI X.kw cl W T call (.bin o ca cb)) :=
  PE_imp (pe_op (op_bin o) ha hb) fun σ H Q ⟨rho, s, sl, R, S, h⟩ => by
    simp only [ev] at h
    refine tI_imp (tI_seq R S h) fun v H1 ⟨rho1, s1, p, x1, R1, S1, V1, h1⟩ => ?_
    refine tI_imp (tI_seq R1 S1 h1) fun u H2 ⟨rho2, s2, q, x2, R2, S2, V2, h2⟩ => ?_
    exact bin_ok o h2 R2 (x2.vr R1 V1) V2
theorem copB_ok {o : Cop} {p : CmpOp} (h : copB o p = true) : copOf o = p ∧ p ≠ .In ∧ p ≠ .NotIn := by
  unfold copB at h
  simp only [Bool.and_eq_true, decide_eq_true_eq, Bool.not_eq_true', decide_eq_false_iff_not] at h
  exact ⟨h.1.1, h.1.2, h.2⟩
theorem cmp_read (o : Cop) {ca cb : E} {σ : L2.St} {H : Hp} {Q : VK} (h : tI X.kw cl W T call (.cmp o ca cb) σ H Q) : tOp (rCmp X.kw o) (tI X.kw cl W T call ca) (tI X.kw cl W T call cb) σ H Q := by
  obtain ⟨rho, s, sl, R, S, h⟩ := h
  simp only [ev] at h
  refine tI_imp (tI_seq R S h) fun v H1 ⟨rho1, s1, p, x1, R1, S1, V1, h1⟩ => ?_
  refine tI_imp (tI_seq R1 S1 h1) fun u H2 ⟨rho2, s2, q, x2, R2, S2, V2, h2⟩ => ?_
  exact cmp_ok o h2 R2 (x2.vr R1 V1) V2
theorem g_cmp (G : Good cl T call k N sc W X) {o : Cop} {a b : Expr} {ca cb : E} {p : Pos} (n1 : copOf o ≠ .In) (n2 : copOf o ≠ .NotIn) (ha : PE X a (tI X.kw cl W T call ca)) (hb : PE X b (tI X.kw cl W T call cb)) : PE X (.Compare a [copOf o] [b] p) (tI X.kw cl W T call (.cmp o ca cb)) :=
  PE_imp (pe_cmpR (op_cmp G.room o) ha hb (nobehind _ n1 n2)) fun σ H Q h => cmp_read o h
theorem g_cmpT (G : Good cl T call k N sc W X) {o : Cop} {a b : Expr} {ca cb : E} {p : Pos} (n1 : copOf o ≠ .In) (n2 : copOf o ≠ .NotIn) (ha : PE X a (tI X.kw cl W T call ca)) (hb : PE X b (tI X.kw cl W T call cb)) : PT X (.Compare a [copOf o] [b] p) (tIT X.kw cl W T call (.cmp o ca cb)) :=
  PT_imp (pt_cmpR (op_cmp G.room o) ha hb (nobehind _ n1 n2)) fun σ H Q h => cmp_read o h
theorem chain_read (o q : Cop) {ca cb cc : E} {σ : L2.St} {H : Hp} {Q : VK} (h : tI X.kw cl W T call (.chain o q ca cb cc) σ H Q) : tChain (rCmp X.kw o) (rCmp X.kw q) (tI X.kw cl W T call ca) (tI X.kw cl W T call cb) (tI X.kw cl W T call cc) σ H Q := by
  obtain ⟨rho, s, sl, R, S, h⟩ := h
  simp only [ev] at h
  refine tI_imp (tI_seq R S h) fun v H1 ⟨rho1, s1, p, x1, R1, S1, V1, h1⟩ => ?_
  refine tI_imp (tI_seq R1 S1 h1) fun u H2 ⟨rho2, s2, q2, x2, R2, S2, V2, h2⟩ => ?_
  have hc : Post X.kw cl W σ rho2 s2 H2 (evCmp o p q2 s2) (fun z H3 => ∃ rho3 s3 zp, Ext s2 rho2 rho3 H2 H3 s3 ∧ RSt X.kw rho3 H3 s3 ∧ VR X.kw s3.n rho3 H3 zp z ∧ Post X.kw cl W σ rho3 s3 H3 (match zp with | .bl true => (ev T call cc sl s3).bind fun u s4 => evCmp q q2 u s4 | .bl false => .ok (.bl false) s3 | _ => .bad) Q) := by
    cases e : evCmp o p q2 s2 with
    | ok zp s3 => rw [e] at h2; exact fun rho3 H3 z x3 R3 V3 => ⟨rho3, s3, zp, x3, R3, V3, Post.later (s' := s3) h2 x3 R2 R3⟩
    | exc c fs s3 => rw [e] at h2; exact h2
    | bad => rw [e] at h2; exact h2
  refine cmp_ok o (hc.imp fun z H3 ⟨rho3, s3, zp, x3, R3, V3, h3⟩ => ?_) R2 (x2.vr R1 V1) V2
  split at h3
  · simp only [VR] at V3
    subst V3
    refine ⟨true, rfl, ?_⟩
    rw [if_pos rfl]
    refine tI_imp (tI_seq R3 (S2.mono x3 R2) h3) fun w H4 ⟨rho4, s4, wp, x4, R4, S4, V4, h4⟩ => ?_
    exact cmp_ok q h4 R4 (x4.vr R3 (x3.vr R2 V2)) V4
  · simp only [VR] at V3
    subst V3
    refine ⟨false, rfl, ?_⟩
    rw [if_neg Bool.false_ne_true]
    exact h3.same R3 (by simp only [VR])
  · exact h3.elim
theorem g_chain (G : Good cl T call k N sc W X) {o q : Cop} {a b c : Expr} {ca cb cc : E} {p : Pos} (n1 : copOf o ≠ .In) (n2 : copOf o ≠ .NotIn) (n3 : copOf q ≠ .In) (n4 : copOf q ≠ .NotIn) (ha : PE X a (tI X.kw cl W T call ca)) (hb : PE X b (tI X.kw cl W T call cb)) (hc : PE X c (tI X.kw cl W T call cc)) :
    PE X (.Compare a [copOf o, copOf q] [b, c] p) (tI X.kw cl W T call (.chain o q ca cb cc)) :=
  PE_imp (pe_chain (op_cmp G.room o) (op_cmp G.room q) ha hb hc (nobehind _ n3 n4)) fun σ H Q h => chain_read o q h
theorem g_chainT (G : Good cl T call k N sc W X) {o q : Cop} {a b c : Expr} {ca cb cc : E} {p : Pos} (n1 : copOf o ≠ .In) (n2 : copOf o ≠ .NotIn) (n3 : copOf q ≠ .In) (n4 : copOf q ≠ .NotIn) (ha : PE X a (tI X.kw cl W T call ca)) (hb : PE X b (tI X.kw cl W T call cb)) (hc : PE X c (tI X.kw cl W T call cc)) :
    PT X (.Compare a [copOf o, copOf q] [b, c] p) (tIT X.kw cl W T call (.chain o q ca cb cc)) :=
  PT_imp (pt_chain (op_cmp G.room o) (op_cmp G.room q) ha hb hc (nobehind _ n3 n4)) fun σ H Q h => chain_read o q h
theorem g_neg {a : Expr} {ca : E} {p : Pos} (ha : PE X a (tI X.kw cl W T call ca)) : PE X (.UnaryOp .USub a p) (tI X.kw cl W T call (.neg ca)) :=
  PE_imp (pe_un un_neg ha) fun σ H Q ⟨rho, s, sl, R, S, h⟩ => by
    simp only [ev] at h
    refine tI_imp (tI_seq R S h) fun v H1 ⟨rho1, s1, p, x1, R1, S1, V1, h1⟩ => ?_
    split at h1
    · simp only [VR] at V1
      exact ⟨_, V1, h1.same R1 (by simp only [VR])⟩
    · exact h1.elim
theorem not_read {ca : E} {σ : L2.St} {H : Hp} {Q : VK} (h : tI X.kw cl W T call (.not ca) σ H Q) : tI X.kw cl W T call ca σ H fun x H1 => ∃ c, x = .bl c ∧ Q (.bl (!c)) H1 := by
  obtain ⟨rho, s, sl, R, S, h⟩ := h
  simp only [ev] at h
  refine tI_imp (tI_seq R S h) fun v H1 ⟨rho1, s1, p, x1, R1, S1, V1, h1⟩ => ?_
  split at h1
  · simp only [VR] at V1
    exact ⟨_, V1, h1.same R1 (by simp only [VR])⟩
  · exact h1.elim
theorem g_not {a : Expr} {ca : E} {p : Pos} (ha : PE X a (tI X.kw cl W T call ca)) : PE X (.UnaryOp .Not a p) (tI X.kw cl W T call (.not ca)) :=
  PE_imp (pe_not ha) fun σ H Q h => not_read h
theorem g_notT {a : Expr} {ca : E} {p : Pos} (ha : PT X a (tIT X.kw cl W T call ca)) : PT X (.UnaryOp .Not a p) (tIT X.kw cl W T call (.not ca)) :=
  PT_imp (pt_not ha) fun σ H Q h => tI_imp (not_read h) fun v H1 ⟨c, e, b, e2, q⟩ => ⟨c, e, by cases e2; exact q⟩
theorem and_read {ca cb : E} {σ : L2.St} {H : Hp} {Q : VK} (h : tI X.kw cl W T call (.and ca cb) σ H Q) : tI X.kw cl W T call ca σ H fun x H1 => ∃ c, x = .bl c ∧ if c = true then tI X.kw cl W T call cb σ H1 Q else Q (.bl false) H1 := by
  obtain ⟨rho, s, sl, R, S, h⟩ := h
  simp only [ev] at h
  refine tI_imp (tI_seq R S h) fun v H1 ⟨rho1, s1, p, x1, R1, S1, V1, h1⟩ => ?_
  split at h1
  · simp only [VR] at V1
    exact ⟨true, V1, by rw [if_pos rfl]; exact ⟨rho1, s1, sl, R1, S1, h1⟩⟩
  · simp only [VR] at V1
    exact ⟨false, V1, by rw [if_neg Bool.false_ne_true]; exact h1.same R1 (by simp only [VR])⟩
  · exact h1.elim
theorem or_read {ca cb : E} {σ : L2.St} {H : Hp} {Q : VK} (h : tI X.kw cl W T call (.or ca cb) σ H Q) : tI X.kw cl W T call ca σ H fun x H1 => ∃ c, x = .bl c ∧ if c = true then Q (.bl true) H1 else tI X.kw cl W T call cb σ H1 Q := by
  obtain ⟨rho, s, sl, R, S, h⟩ := h
  simp only [ev] at h
  refine tI_imp (tI_seq R S h) fun v H1 ⟨rho1, s1, p, x1, R1, S1, V1, h1⟩ => ?_
  split at h1
  · simp only [VR] at V1
    exact ⟨true, V1, by rw [if_pos rfl]; exact h1.same R1 (by simp only [VR])⟩
  · simp only [VR] at V1
    exact ⟨false, V1, by rw [if_neg Bool.false_ne_true]; exact ⟨rho1, s1, sl, R1, S1, h1⟩⟩
  · exact h1.elim
theorem one_read {ca : E} {σ : L2.St} {H : Hp} {Q : VK} (h : tI X.kw cl W T call (.one ca) σ H Q) : tI X.kw cl W T call ca σ H Q := by
  obtain ⟨rho, s, sl, R, S, h⟩ := h
  simp only [ev] at h
  exact ⟨rho, s, sl, R, S, h⟩
theorem ife_read {cc ca cb : E} {σ : L2.St} {H : Hp} {Q : VK} (h : tI X.kw cl W T call (.ife cc ca cb) σ H Q) : tI X.kw cl W T call cc σ H fun x H1 => ∃ c, x = .bl c ∧ if c = true then tI X.kw cl W T call ca σ H1 Q else tI X.kw cl W T call cb σ H1 Q := by
  obtain ⟨rho, s, sl, R, S, h⟩ := h
  simp only [ev] at h
  refine tI_imp (tI_seq R S h) fun v H1 ⟨rho1, s1, p, x1, R1, S1, V1, h1⟩ => ?_
  split at h1
  · simp only [VR] at V1
    exact ⟨true, V1, by rw [if_pos rfl]; exact ⟨rho1, s1, sl, R1, S1, h1⟩⟩
  · simp only [VR] at V1
    exact ⟨false, V1, by rw [if_neg Bool.false_ne_true]; exact ⟨rho1, s1, sl, R1, S1, h1⟩⟩
  · exact h1.elim
theorem g_idx {a b : Expr} {ca cb : E} {p : Pos} (hs : PlainIx b) (ha : PE X a (tI X.kw cl W T call ca)) (hb : PE X b (tI X.kw cl W T call cb)) : PE X (.Subscript a b p) (tI X.kw cl W T call (.idx ca cb)) :=
  PE_imp (pe_ix ix_seq ha hb hs) fun σ H Q ⟨rho, s, sl, R, S, h⟩ => by
    simp only [ev] at h
    refine tI_imp (tI_seq R S h) fun v H1 ⟨rho1, s1, p, x1, R1, S1, V1, h1⟩ => ?_
    refine tI_imp (tI_seq R1 S1 h1) fun u H2 ⟨rho2, s2, q, x2, R2, S2, V2, h2⟩ => ?_
    exact idx_ok h2 R2 (x2.vr R1 V1) V2
end
end FI

namespace FI
open PySem PySem.Spec PyProof.Rows L2
section
variable {cl : Cls0} {T : Tab} {call : Nat → List PV → Sto → Res PV} {k : Nat} {N : List Str} {sc : Scope} {W : WX} {X : Cx}
/-- an end of a slice -/
def tPt (K : KW) (cl : Cls0) (W : WX) (T : Tab) (call : Nat → List PV → Sto → Res PV) (c : E) : TO := fun σ H Q => if isNo c = true then Q none H else tI K cl W T call c σ H fun x H1 => ∃ i, x = .int i ∧ Q (some i) H1
theorem PO_imp {e : Option Expr} {t t' : TO} (h : PO X e t) (i : ∀ σ H Q, t' σ H Q → t σ H Q) : PO X e t' := ⟨fun pins s σ H Q I q => h.run pins s σ H Q I (i σ H Q q)⟩
theorem isNo_eq {c : E} (h : isNo c = true) : c = .no := by cases c <;> first | rfl | cases h
theorem po_pt {e : Option Expr} {c : E} (h0 : e = none → isNo c = true) (h1 : ∀ x, e = some x → isNo c = false ∧ PE X x (tI X.kw cl W T call c)) : PO X e (tPt X.kw cl W T call c) := by
  cases e with
  | none => exact PO_imp po_none fun σ H Q h => by unfold tPt at h; rw [if_pos (h0 rfl)] at h; exact h
  | some x =>
    obtain ⟨n, pe⟩ := h1 x rfl
    exact PO_imp (po_some pe) fun σ H Q h => by unfold tPt at h; rw [if_neg (by rw [n]; decide)] at h; exact h
theorem part_seq {σ : L2.St} {rho : Nat → Addr} {s : Sto} {H : Hp} {Q : VK} {sl : Sl} {K : KW} {c : E} {f : Option Int → Sto → Res PV} (R : RSt K rho H s) (S : SlR K s.n rho H sl σ)
    (h : Post K cl W σ rho s H ((ev T call c sl s).bind fun y s2 => match partOf c y with | none => .bad | some l => f l s2) Q) :
    tPt K cl W T call c σ H fun l H1 => ∃ rho1 s1, Ext s rho rho1 H H1 s1 ∧ RSt K rho1 H1 s1 ∧ SlR K s1.n rho1 H1 sl σ ∧ Post K cl W σ rho1 s1 H1 (f l s1) Q := by
  unfold tPt
  by_cases hn : isNo c = true
  · rw [if_pos hn]
    have e := isNo_eq hn
    subst e
    simp only [ev, Res.bind, partOf, isNo, if_true] at h
    exact ⟨rho, s, .refl, R, S, h⟩
  · rw [if_neg hn]
    refine tI_imp (tI_seq R S h) fun v H1 ⟨rho1, s1, p, x1, R1, S1, V1, g1⟩ => ?_
    unfold partOf at g1
    rw [if_neg hn] at g1
    cases p with
    | int i =>
      simp only [VR] at V1
      exact ⟨i, V1, rho1, s1, x1, R1, S1, g1⟩
    | _ => exact g1.elim
theorem g_slice {a : Expr} {lo hi : Option Expr} {ca c1 c2 : E} {p p2 : Pos} (ha : PE X a (tI X.kw cl W T call ca)) (h1 : PO X lo (tPt X.kw cl W T call c1)) (h2 : PO X hi (tPt X.kw cl W T call c2)) : PE X (.Subscript a (.Slice lo hi none p2) p) (tI X.kw cl W T call (.slice ca c1 c2)) :=
  PE_imp (pe_slice (sl_list.or sl_tupA) ha h1 h2) fun σ H Q ⟨rho, s, sl, R, S, h⟩ => by
    simp only [ev] at h
    refine tI_imp (tI_seq R S h) fun v H1 ⟨rho1, s1, p, x1, R1, S1, V1, g1⟩ => ?_
    have m : ∀ {c : E} {Q Q' : Option Int → Hp → Prop} {H : Hp}, tPt X.kw cl W T call c σ H Q → (∀ o H, Q o H → Q' o H) → tPt X.kw cl W T call c σ H Q' := fun {c Q Q' H} h i => by
      unfold tPt at h ⊢
      split
      · rename_i z; rw [if_pos z] at h; exact i _ _ h
      · rename_i z; rw [if_neg z] at h; exact tI_imp h fun v H1 ⟨j, e, q⟩ => ⟨j, e, i _ _ q⟩
    refine m (part_seq R1 S1 g1) fun l H2 ⟨rho2, s2, x2, R2, S2, g2⟩ => ?_
    refine m (part_seq R2 S2 g2) fun u H3 ⟨rho3, s3, x3, R3, S3, g3⟩ => ?_
    exact slice_ok g3 R3 (x3.vr R2 (x2.vr R1 V1))
/-! ### arguments -/
theorem a_nil : PA X [] (tIA X.kw cl W T call .nil) :=
  PA_imp pa_nil fun σ H Q ⟨rho, s, sl, R, S, h⟩ => by
    simp only [ev] at h
    exact h rho H [] .refl R (by simp only [VRs])
theorem a_cons {e : Expr} {es : List Expr} {ca cr : E} (hn : nostar e = true) (he : PE X e (tI X.kw cl W T call ca)) (hr : PA X es (tIA X.kw cl W T call cr)) : PA X (e :: es) (tIA X.kw cl W T call (.cons ca cr)) :=
  PA_imp (pa_cons he hr (nostar_ok hn)) fun σ H Q ⟨rho, s, sl, R, S, h⟩ => by
    simp only [ev] at h
    refine ⟨rho, s, sl, R, S, ?_⟩
    cases e1 : ev T call ca sl s with
    | bad => simp only [e1] at h
    | exc c fs s1 => simp only [e1] at h; exact h
    | ok p s1 =>
      simp only [e1] at h
      intro rho1 H1 v x1 R1 V1
      refine ⟨rho1, s1, sl, R1, S.mono x1 R, ?_⟩
      cases e2 : ev T call cr sl s1 with
      | bad => simp only [e2] at h
      | exc c fs s2 => simp only [e2] at h; exact Post.later (s' := s1) h x1 R R1
      | ok q s2 =>
        simp only [e2] at h
        cases q with
        | tup ps => exact fun rho2 H2 vs x2 R2 V2 => h rho2 H2 (v :: vs) (x1.trans x2 R R1) R2 (by simp only [VRs]; exact ⟨v, vs, rfl, x2.vr R1 V1, V2⟩)
        | _ => exact h
theorem args_read {c : E} {f : List PV → Sto → Res PV} {σ : L2.St} {rho : Nat → Addr} {s : Sto} {H : Hp} {Q : VK} {sl : Sl} {K : KW} {Q' : List V → Hp → Prop} (R : RSt K rho H s) (S : SlR K s.n rho H sl σ) (h : Post K cl W σ rho s H ((ev T call c sl s).bind fun x s1 => match x with | .tup vs => f vs s1 | _ => .bad) Q)
    (i : ∀ vs H1 rho1 s1 ps, Ext s rho rho1 H H1 s1 → RSt K rho1 H1 s1 → SlR K s1.n rho1 H1 sl σ → VRs K s1.n rho1 H1 ps vs → Post K cl W σ rho1 s1 H1 (f ps s1) Q → Q' vs H1) : tIA K cl W T call c σ H Q' :=
  tIA_imp (tIA_seq R S h) fun vs H1 ⟨rho1, s1, ps, x1, R1, S1, V1, g⟩ => i vs H1 rho1 s1 ps x1 R1 S1 V1 g
theorem g_tup {es : List Expr} {c : E} {j : Nat} {p : Pos} (h : PA X es (tIA X.kw cl W T call c)) : PE X (.Tuple es j p) (tI X.kw cl W T call (.tup c)) :=
  PE_imp (pe_tup h) fun σ H Q ⟨rho, s, sl, R, S, h⟩ => by
    simp only [ev] at h
    have h' : Post X.kw cl W σ rho s H ((ev T call c sl s).bind fun x s1 => match x with | .tup vs => (if vs.length ≤ cap then .ok (.tup vs) s1 else .bad) | _ => .bad) Q := by
      cases e : ev T call c sl s with
      | bad => simp only [e] at h; exact h
      | exc c fs s1 => simp only [e] at h; exact h
      | ok q s1 => simp only [e] at h; cases q <;> exact h
    refine args_read (f := fun vs s1 => if vs.length ≤ cap then .ok (.tup vs) s1 else .bad) R S h' fun vs H1 rho1 s1 ps x1 R1 S1 V1 g => ?_
    split at g
    · rename_i hl
      exact ⟨by rw [← V1.len]; exact cap_line hl, fun a hn => g.tup R1 V1 hn⟩
    · exact g.elim
theorem g_lst {es : List Expr} {c : E} {p : Pos} (h : PA X es (tIA X.kw cl W T call c)) : PE X (.List es p) (tI X.kw cl W T call (.lst c)) :=
  PE_imp (pe_lst h) fun σ H Q ⟨rho, s, sl, R, S, h⟩ => by
    simp only [ev] at h
    have h' : Post X.kw cl W σ rho s H ((ev T call c sl s).bind fun x s1 => match x with | .tup vs => (if vs.length ≤ cap then .ok (.lst s1.n) (s1.new (.lst vs)) else .bad) | _ => .bad) Q := by
      cases e : ev T call c sl s with
      | bad => simp only [e] at h; exact h
      | exc c fs s1 => simp only [e] at h; exact h
      | ok q s1 => simp only [e] at h; cases q <;> exact h
    refine args_read (f := fun vs s1 => if vs.length ≤ cap then .ok (.lst s1.n) (s1.new (.lst vs)) else .bad) R S h' fun vs H1 rho1 s1 ps x1 R1 S1 V1 g => ?_
    split at g
    · rename_i hl
      exact ⟨by rw [← V1.len]; exact cap_line hl, fun a hn => g.lst R1 V1 hn⟩
    · exact g.elim
theorem g_call (G : Good cl T call k N sc W X) {f : Nat} {x : Str} {e : Expr} {es : List Expr} {c : E} {p q : Pos} (h1 : T.fns[f]? = some x) (h2 : glB sc x = true) (h3 : (e :: es).all nostar = true) (ha : PA X (e :: es) (tIA X.kw cl W T call c)) : PE X (.Call (.Name x p) (e :: es) [] q) (tI X.kw cl W T call (.call f c)) := by
  obtain ⟨hg, hd⟩ := glB_ok G h2
  obtain ⟨a, fd, ps, hm, hk, hb, F⟩ := G.facts.fns f x h1
  simp only [List.all_cons, Bool.and_eq_true] at h3
  refine PE_imp (pe_callG (Ex := fun σ c d H => W c d σ H) F G.room G.gd hg hm hk hb G.pass ha hd (nostar_ok h3.1) (nostar_all h3.2)) fun σ H Q ⟨rho, s, sl, R, S, h⟩ => ?_
  simp only [ev] at h
  refine args_read (f := fun vs s1 => call f vs s1) R S h fun vs H1 rho1 s1 ps x1 R1 S1 V1 g => ?_
  refine ⟨rho1, s1, ps, R1, V1, ?_⟩
  revert g
  cases e : call f ps s1 with
  | bad => exact id
  | ok v s2 => exact id
  | exc c fs s2 => exact id
theorem g_call0 (G : Good cl T call k N sc W X) {f : Nat} {x : Str} {p q : Pos} (h1 : T.fns[f]? = some x) (h2 : glB sc x = true) : PE X (.Call (.Name x p) [] [] q) (tI X.kw cl W T call (.call0 f)) := by
  obtain ⟨hg, hd⟩ := glB_ok G h2
  obtain ⟨a, fd, ps, hm, hk, hb, F⟩ := G.facts.fns f x h1
  refine PE_imp (pe_callG0 (Ex := fun σ c d H => W c d σ H) F G.room G.gd hg hm hk hb G.pass hd) fun σ H Q ⟨rho, s, sl, R, S, h⟩ => ?_
  simp only [ev] at h
  refine ⟨rho, s, [], R, by simp only [VRs], ?_⟩
  revert h
  cases e : call f [] s with
  | bad => exact id
  | ok v s2 => exact id
  | exc c fs s2 => exact id
theorem g_blt (G : Good cl T call k N sc W X) {b : Blt} {x : Str} {e : Expr} {es : List Expr} {c : E} {p q : Pos} (h1 : x = bltName b) (h2 : glB sc x = true) (h3 : (e :: es).all nostar = true) (ha : PA X (e :: es) (tIA X.kw cl W T call c)) : PE X (.Call (.Name x p) (e :: es) [] q) (tI X.kw cl W T call (.blt b c)) := by
  obtain ⟨hg, hd⟩ := glB_ok G h2
  simp only [List.all_cons, Bool.and_eq_true] at h3
  have hm : X.mg x = none := G.facts.blt x (by rw [h1]; cases b <;> decide +kernel)
  have hn : x ≠ "__name__" := by rw [h1]; cases b <;> decide +kernel
  have pe : PE X (.Call (.Name x p) (e :: es) [] q) (tCB (rBlt X.kw b) (tIA X.kw cl W T call c)) := by
    have hc := call_blt G.calm G.gd G.un b
    subst h1
    cases b with
    | len => exact pe_callB hc hg hm (by decide +kernel) ha hn hd (nostar_ok h3.1) (nostar_all h3.2)
    | abs => exact pe_callB hc hg hm (by decide +kernel) ha hn hd (nostar_ok h3.1) (nostar_all h3.2)
    | int => exact pe_callTy hc hg hm (by decide +kernel) ha hn hd (nostar_ok h3.1) (nostar_all h3.2)
    | tuple => exact pe_callTy hc hg hm (by decide +kernel) ha hn hd (nostar_ok h3.1) (nostar_all h3.2)
    | list => exact pe_callTy hc hg hm (by decide +kernel) ha hn hd (nostar_ok h3.1) (nostar_all h3.2)
    | all => exact pe_callB hc hg hm (by decide +kernel) ha hn hd (nostar_ok h3.1) (nostar_all h3.2)
    | any => exact pe_callB hc hg hm (by decide +kernel) ha hn hd (nostar_ok h3.1) (nostar_all h3.2)
    | min2 => exact pe_callB hc hg hm (by decide +kernel) ha hn hd (nostar_ok h3.1) (nostar_all h3.2)
    | maxL => exact pe_callB hc hg hm (by decide +kernel) ha hn hd (nostar_ok h3.1) (nostar_all h3.2)
    | repr => exact pe_callB hc hg hm (by decide +kernel) ha hn hd (nostar_ok h3.1) (nostar_all h3.2)
  refine PE_imp pe fun σ H Q ⟨rho, s, sl, R, S, h⟩ => ?_
  simp only [ev] at h
  exact args_read (f := fun vs s1 => evBlt b vs s1) R S h fun vs H1 rho1 s1 ps x1 R1 S1 V1 g => blt_ok b g R1 V1
theorem g_isi (G : Good cl T call k N sc W X) {t : Ty} {x y : Str} {e : Expr} {c : E} {p q p2 : Pos} (h1 : x = "isinstance") (h2 : y = tyStr t) (h3 : glB sc x = true) (h4 : glB sc y = true) (h5 : nostar e = true) (ha : PE X e (tI X.kw cl W T call c)) : PE X (.Call (.Name x p) [e, .Name y p2] [] q) (tI X.kw cl W T call (.isi t c)) := by
  obtain ⟨hg, hd⟩ := glB_ok G h3
  obtain ⟨hg2, hd2⟩ := glB_ok G h4
  have hm : X.mg x = none := G.facts.blt x (by rw [h1]; decide +kernel)
  have hm2 : X.mg y = none := G.facts.blt y (by rw [h2]; cases t <;> decide +kernel)
  have hb : bootBuiltins y = some (.type (tyName t)) := by rw [h2]; cases t <;> decide +kernel
  have hn2 : y ≠ "__name__" := by rw [h2]; cases t <;> decide +kernel
  subst h1
  refine PE_imp (pe_callB (r := rIsi X.kw) call_isi hg hm boot_isinstance (pa_cons ha (pa_cons (pe_bltn (v := .ty (tyName t)) hg2 hm2 hb rfl hn2 hd2) pa_nil) (nostar_ok h5)) (by decide +kernel) hd (nostar_ok h5)) fun σ H Q ⟨rho, s, sl, R, S, h⟩ => ?_
  simp only [ev] at h
  refine tI_imp (tI_seq R S h) fun v H1 ⟨rho1, s1, p, x1, R1, S1, V1, g1⟩ => ?_
  split at g1
  · rename_i b e
    obtain ⟨u, ty, kk⟩ := isi_ok R1 e V1
    exact ⟨v, .ty (tyName t), u, .type (tyName t), b, rfl, .ty _, ty, kk, g1.same R1 (by simp only [VR])⟩
  · exact g1.elim
end
end FI

namespace FI
open PySem PySem.Spec PyProof.Rows L2

/-! ### what is walked -/
/-- the layer's iterator does as the interpreter's, now and later -/
def JR (K : KW) (s0 : Sto) (rho0 : Nat → Addr) (H0 : Hp) (J : L2.It) (j : It) : Prop :=
  ∀ rho H s, Ext s0 rho0 rho H0 H s → RSt K rho H s →
    (∀ k p, j.at k s = some (some p) → J.go k H ∧ ∀ x H', J.yld k H x H' → Ext s rho rho H H' s ∧ RSt K rho H' s ∧ VR K s.n rho H' p x) ∧ (∀ k, j.at k s = some none → J.stop k H)
section
variable {K : KW} {s : Sto} {rho : Nat → Addr} {H : Hp}
theorem jr_list {i : Nat} (hi : i < s.n) : JR K s rho H (Itl K (rho i)) (.l i) := by
  intro rho1 H1 s1 x R
  have e : rho1 i = rho i := x.eq i hi
  refine ⟨fun k p h => ?_, fun k h => ?_⟩
  · simp only [It.at] at h
    split at h
    · rename_i xs g
      obtain ⟨vs, t, r⟩ := getL_ok R g
      rw [e] at t
      obtain ⟨v, e1, e2⟩ := r.get (Option.some.inj h)
      refine ⟨⟨vs, v, t, e1⟩, fun y H' ⟨z1, z2⟩ => ?_⟩
      subst z1
      have := z2 vs t
      rw [e1] at this
      cases this
      exact ⟨.refl, R, e2⟩
    · cases h
  · simp only [It.at] at h
    split at h
    · rename_i xs g
      obtain ⟨vs, t, r⟩ := getL_ok R g
      rw [e] at t
      refine ⟨vs, t, ?_⟩
      rw [← r.len]
      exact List.getElem?_eq_none_iff.mp (Option.some.inj h)
    · cases h
theorem jr_tup {a : Addr} {vs : List V} {xs : List PV} (R0 : RSt K rho H s) (t : SqT K H a vs) (r : VRs K s.n rho H xs vs) : JR K s rho H (Itt K a) (.t xs) := by
  intro rho1 H1 s1 x R
  have t1 := x.tup R0 t
  have r1 := x.vrs R0 r
  refine ⟨fun k p h => ?_, fun k h => ?_⟩
  · simp only [It.at] at h
    obtain ⟨v, e1, e2⟩ := r1.get (Option.some.inj h)
    refine ⟨⟨vs, v, t1, e1⟩, fun y H' ⟨z1, z2⟩ => ?_⟩
    subst z1
    have := z2 vs t1
    rw [e1] at this
    cases this
    exact ⟨.refl, R, e2⟩
  · simp only [It.at] at h
    refine ⟨vs, t1, ?_⟩
    rw [← r1.len]
    exact List.getElem?_eq_none_iff.mp (Option.some.inj h)
theorem jr_rng {lo : Int} {n : Nat} : JR K s rho H (Itr lo n) (.r lo n) := by
  intro rho1 H1 s1 x R
  refine ⟨fun k p h => ?_, fun k h => ?_⟩
  · simp only [It.at] at h
    have h := Option.some.inj h
    split at h
    · rename_i hk
      cases h
      refine ⟨hk, fun y H' ⟨z1, z2⟩ => ?_⟩
      subst z1; subst z2
      exact ⟨.refl, R, by simp only [VR]⟩
    · cases h
  · simp only [It.at] at h
    have h := Option.some.inj h
    split at h
    · cases h
    · rename_i hk
      exact Nat.le_of_not_lt hk
end
section
variable {cl : Cls0} {T : Tab} {call : Nat → List PV → Sto → Res PV} {k : Nat} {N : List Str} {sc : Scope} {W : WX} {X : Cx}
/-- an iterable's reading -/
def tII (K : KW) (cl : Cls0) (W : WX) (T : Tab) (call : Nat → List PV → Sto → Res PV) (c : E) : TI := fun σ H R =>
  ∃ rho s sl, RSt K rho H s ∧ SlR K s.n rho H sl σ ∧ match evI T call c sl s with
    | .ok j s' => ∀ rho' H' J, Ext s rho rho' H H' s' → RSt K rho' H' s' → JR K s' rho' H' J j → R J H'
    | .exc c fs s' => Post K cl W σ rho s H (.exc c fs s') (fun _ _ => False)
    | .bad => False
theorem PI_imp {tg e : Expr} {t t' : TI} (h : PI X tg e t) (i : ∀ σ H Q, t' σ H Q → t σ H Q) : PI X tg e t' := ⟨fun pins s σ H Q I q => h.run pins s σ H Q I (i σ H Q q)⟩
theorem PI_or {tg e : Expr} {t t' : TI} (h : PI X tg e t) (h' : PI X tg e t') : PI X tg e (fun σ H R => t σ H R ∨ t' σ H R) :=
  ⟨fun pins s σ H Q I q => q.elim (h.run pins s σ H Q I) (h'.run pins s σ H Q I)⟩
theorem i_seq {tg e : Expr} {c : E} (he : PE X e (tI X.kw cl W T call c)) : PI X tg e (tII X.kw cl W T call (.iseq c)) :=
  PI_imp (PI_or (pi_list he) (pi_tup he)) fun σ H R ⟨rho, s, sl, RS, S, h⟩ => by
    simp only [evI] at h
    cases e1 : ev T call c sl s with
    | bad => simp only [e1, Res.bind] at h
    | exc d fs s1 =>
      simp only [e1, Res.bind] at h
      exact .inl ⟨rho, s, sl, RS, S, by rw [e1]; exact h⟩
    | ok p s1 =>
      simp only [e1, Res.bind] at h
      cases p with
      | tup xs =>
        refine .inr ⟨rho, s, sl, RS, S, ?_⟩
        rw [e1]
        intro rho1 H1 v x1 R1 V1
        simp only [VR] at V1
        obtain ⟨a, vs, rfl, t, r⟩ := V1
        exact ⟨a, rfl, ⟨vs, t⟩, h rho1 H1 _ x1 R1 (jr_tup R1 t r)⟩
      | lst i =>
        refine .inl ⟨rho, s, sl, RS, S, ?_⟩
        rw [e1]
        intro rho1 H1 v x1 R1 V1
        simp only [VR] at V1
        obtain ⟨hi, rfl⟩ := V1
        dsimp only at h
        cases g : s1.getL i with
        | none => simp only [g] at h
        | some xs =>
          simp only [g] at h
          obtain ⟨vs, t, r⟩ := getL_ok R1 g
          exact ⟨_, rfl, ⟨vs, t⟩, h rho1 H1 _ x1 R1 (jr_list hi)⟩
      | _ => exact h.elim
theorem i_rng (G : Good cl T call k N sc W X) {tg e : Expr} {x : Str} {p q : Pos} {c : E} (hx : x = "range") (hg : glB sc x = true) (hn : nostar e = true) (he : PE X e (tI X.kw cl W T call c)) : PI X tg (.Call (.Name x p) [e] [] q) (tII X.kw cl W T call (.irng c)) := by
  have hm : X.mg x = none := G.facts.blt x (by rw [hx]; decide +kernel)
  obtain ⟨g1, _⟩ := glB_ok G hg
  subst hx
  refine PI_imp (pi_range1 g1 hm (pa_cons he pa_nil (nostar_ok hn)) (nostar_ok hn)) fun σ H R ⟨rho, s, sl, RS, S, h⟩ => ?_
  simp only [evI] at h
  refine ⟨rho, s, sl, RS, S, ?_⟩
  cases e1 : ev T call c sl s with
  | bad => simp only [e1, Res.bind] at h
  | exc d fs s1 => simp only [e1, Res.bind] at h; exact h
  | ok p s1 =>
    simp only [e1, Res.bind] at h
    intro rho1 H1 v x1 R1 V1
    cases p with
    | int j =>
      simp only [VR] at V1
      subst V1
      dsimp only at h
      by_cases hb : (decide (-1000000 ≤ j) && decide (j ≤ 1000000)) = true
      · rw [if_pos hb] at h
        simp only [Bool.and_eq_true, decide_eq_true_eq] at hb
        exact ⟨j, rfl, by omega, by omega, h rho1 H1 _ x1 R1 jr_rng⟩
      · rw [if_neg hb] at h
        exact h.elim
    | _ => exact h.elim
end
end FI

namespace FI
open PySem PySem.Spec PyProof.Rows L2

/-! ### targets -/
def tG (K : KW) (c : E) : TG := fun v σ H Q => ∃ rho s sl p sl', RSt K rho H s ∧ SlR K s.n rho H sl σ ∧ VR K s.n rho H p v ∧ lay c p sl = some sl' ∧
  ∀ σ', SlR K s.n rho H sl' σ' → σ'.length = σ.length → (∀ i, i ∉ slotsT c → σ'[i]? = σ[i]?) → Q σ' H
def tGs (K : KW) (c : E) : TGs := fun vs σ H Q => ∃ rho s sl ps sl', RSt K rho H s ∧ SlR K s.n rho H sl σ ∧ VRs K s.n rho H ps vs ∧ lay c (.tup ps) sl = some sl' ∧
  ∀ σ', SlR K s.n rho H sl' σ' → σ'.length = σ.length → (∀ i, i ∉ slotsT c → σ'[i]? = σ[i]?) → Q σ' H
theorem slR_set {K : KW} {n : Nat} {rho : Nat → Addr} {H : Hp} {sl : Sl} {σ : L2.St} {i : Nat} {p : PV} {v : V} (S : SlR K n rho H sl σ) (h : VR K n rho H p v) : SlR K n rho H (sl.set i (some p)) (σ.set i (some v)) := by
  refine ⟨by rw [List.length_set, List.length_set]; exact S.1, fun j q e => ?_⟩
  by_cases hj : i = j
  · subst hj
    by_cases hl : i < sl.length
    · rw [List.getElem?_set_self hl] at e
      cases e
      exact ⟨v, List.getElem?_set_self (by rw [← S.1]; exact hl), h⟩
    · rw [List.getElem?_eq_none (by simpa using hl)] at e
      cases e
  · rw [List.getElem?_set_ne hj] at e
    obtain ⟨u, e1, e2⟩ := S.2 j q e
    exact ⟨u, by rw [List.getElem?_set_ne hj]; exact e1, e2⟩
section
variable {cl : Cls0} {T : Tab} {call : Nat → List PV → Sto → Res PV} {k : Nat} {N : List Str} {sc : Scope} {W : WX} {X : Cx}
theorem PG_imp {e : Expr} {t t' : TG} (h : PG X e t) (i : ∀ v σ H Q, t' v σ H Q → t v σ H Q) : PG X e t' := ⟨fun pins s σ H v u Q I r q => h.run pins s σ H v u Q I r (i v σ H Q q)⟩
theorem PGs_imp {e : List Expr} {t t' : TGs} (h : PGs X e t) (i : ∀ v σ H Q, t' v σ H Q → t v σ H Q) : PGs X e t' := ⟨fun pins s σ H v u Q I r q => h.run pins s σ H v u Q I r (i v σ H Q q)⟩
theorem g_tn (G : Good cl T call k N sc W X) {i : Nat} {x : Str} {p : Pos} (h1 : N[i]? = some x) (h2 : Loc sc x) (h3 : X.fn x = true ∨ sc.names.lookup x = some .local) : PG X (.Name x p) (tG X.kw (.tn i)) :=
  PG_imp (pg_name (i := i) (by rw [G.hN]; exact G.nd) (by rw [G.hN]; exact h1) (by rw [G.hsc]; exact h2) (by rw [G.hsc]; exact h3)) fun v σ H Q ⟨rho, s, sl, q, sl', R, S, V1, e, h⟩ => by
    simp only [lay] at e
    cases e
    refine h _ (slR_set S V1) (by rw [List.length_set]) fun j hj => ?_
    simp only [slotsT, List.mem_singleton] at hj
    rw [List.getElem?_set_ne (fun z => hj z.symm)]
theorem g_tnil : PGs X [] (tGs X.kw .nil) :=
  PGs_imp pgs_nil fun vs σ H Q ⟨rho, s, sl, ps, sl', R, S, V1, e, h⟩ => by
    cases ps with
    | nil =>
      simp only [lay] at e
      cases e
      simp only [VRs] at V1
      exact ⟨V1, h σ S rfl fun _ _ => rfl⟩
    | cons q qs => simp [lay] at e
theorem g_tcons {e : Expr} {es : List Expr} {a r : E} (hn : nostar e = true) (h1 : PG X e (tG X.kw a)) (h2 : PGs X es (tGs X.kw r)) : PGs X (e :: es) (tGs X.kw (.cons a r)) := by
  have hs : (assignEach (e :: es) X.env).map (·.2) = assign e X.env :: (assignEach es X.env).map (·.2) := by cases e <;> first | rfl | cases hn
  refine PGs_imp (pgs_cons h1 h2 hs) fun vs σ H Q ⟨rho, s, sl, ps, sl', R, S, V1, e, h⟩ => ?_
  cases ps with
  | nil => simp [lay] at e
  | cons q qs =>
    simp only [lay] at e
    simp only [VRs] at V1
    obtain ⟨v, vr, rfl, V2, V3⟩ := V1
    split at e
    · rename_i sl1 e1
      refine ⟨v, vr, rfl, rho, s, sl, q, sl1, R, S, V2, e1, fun σ1 S1 l1 o1 => ?_⟩
      refine ⟨rho, s, sl1, qs, sl', R, S1, V3, e, fun σ2 S2 l2 o2 => h σ2 S2 (l2.trans l1) fun i hi => ?_⟩
      simp only [slotsT, List.mem_append, not_or] at hi
      rw [o2 i hi.2, o1 i hi.1]
    · cases e
theorem assign_len {env : Env} : ∀ es : List Expr, (assignEach es env).length = es.length
  | [] => rfl
  | e :: es => by cases e <;> (simp only [assignEach, List.length_cons, assign_len es])
theorem assign_star {env : Env} : ∀ es : List Expr, es.all nostar = true → (assignEach es env).findIdx? (·.1) = none
  | [], _ => rfl
  | e :: es, h => by
    simp only [List.all_cons, Bool.and_eq_true] at h
    have ih := assign_star (env := env) es h.2
    have hs : assignEach (e :: es) env = (false, assign e env) :: assignEach es env := by
      cases e <;> first | rfl | cases h.1
    rw [hs, List.findIdx?_cons]
    simp [ih]
/-- how many targets -/
def many : E → Nat
  | .cons _ r => many r + 1
  | _ => 0
def isLst : E → Bool
  | .nil => true
  | .cons _ r => isLst r
  | _ => false
theorem lay_many : ∀ (c : E) (ps : List PV) (sl sl' : Sl), isLst c = true → lay c (.tup ps) sl = some sl' → ps.length = many c := by
  intro c
  induction c with
  | nil =>
    intro ps sl sl' _ e
    cases ps with
    | nil => rfl
    | cons q qs => simp [lay] at e
  | cons a r iha ihr =>
    intro ps sl sl' hl e
    cases ps with
    | nil => simp [lay] at e
    | cons q qs =>
      simp only [lay] at e
      split at e
      · rename_i sl1 e1
        simp only [isLst] at hl
        rw [List.length_cons, ihr qs sl1 sl' hl e]
        rfl
      · cases e
  | _ => intro ps sl sl' hl e; cases hl
theorem g_tt (G : Good cl T call k N sc W X) {es : List Expr} {c : E} {j : Nat} {p : Pos} (hl : isLst c = true) (hm : es.length = many c) (hn : es.all nostar = true) (h : PGs X es (tGs X.kw c)) : PG X (.Tuple es j p) (tG X.kw (.tt c)) :=
  PG_imp (pg_tup (n := many c) G.calm h (by rw [assign_len]; exact hm) (assign_star es hn)) fun v σ H Q ⟨rho, s, sl, q, sl', R, S, V1, e, h⟩ => by
    cases q with
    | tup xs =>
      simp only [lay] at e
      simp only [VR] at V1
      obtain ⟨a, vs, rfl, t, r⟩ := V1
      exact ⟨a, vs, rfl, t, by rw [← r.len]; exact lay_many c xs sl sl' hl e, rho, s, sl, xs, sl', R, S, r, e, h⟩
    | _ => simp [lay] at e
end
end FI

namespace FI
open PySem PySem.Spec PyProof.Rows L2

abbrev WF : WX := fun _ _ _ _ => False
theorem slR_wipe {K : KW} {n : Nat} {rho : Nat → Addr} {H : Hp} {sl : Sl} {σ : L2.St} (S : SlR K n rho H sl σ) : ∀ vs : List Nat, SlR K n rho H (wipeP sl vs) (wipe σ vs)
  | [] => S
  | v :: vs => by
    have ih := slR_wipe S vs
    unfold wipeP wipe
    refine ⟨by rw [List.length_set, List.length_set]; exact ih.1, fun j q e => ?_⟩
    by_cases hj : v = j
    · subst hj
      by_cases hl : v < (wipeP sl vs).length
      · rw [List.getElem?_set_self hl] at e; cases e
      · rw [List.getElem?_eq_none (by simpa using hl)] at e; cases e
    · rw [List.getElem?_set_ne hj] at e
      obtain ⟨u, e1, e2⟩ := ih.2 j q e
      exact ⟨u, by rw [List.getElem?_set_ne hj]; exact e1, e2⟩
theorem wipe_get (σ : L2.St) (i : Nat) : ∀ vs : List Nat, (wipe σ vs)[i]? = if i ∈ vs then (if i < σ.length then some none else none) else σ[i]?
  | [] => by simp [wipe]
  | v :: vs => by
    unfold wipe
    have ih := wipe_get σ i vs
    by_cases hj : v = i
    · subst hj
      rw [if_pos List.mem_cons_self]
      by_cases hl : v < σ.length
      · rw [if_pos hl, List.getElem?_set_self (by rw [wipe_length]; exact hl)]
      · rw [if_neg hl, List.getElem?_eq_none (by rw [List.length_set, wipe_length]; omega)]
    · rw [List.getElem?_set_ne hj, ih]
      have e : (i ∈ v :: vs) = (i ∈ vs) := by
        apply propext
        rw [List.mem_cons]
        exact ⟨fun h => h.elim (fun z => absurd z.symm hj) id, .inr⟩
      simp only [e]
/-- slots of the block's own alone are laid -/
theorem wipe_laid {σ σ2 : L2.St} {vs : List Nat} {ts : List Nat} (hl : σ2.length = (wipe σ vs).length) (ho : ∀ i, i ∉ ts → σ2[i]? = (wipe σ vs)[i]?) (sub : ∀ i ∈ ts, i ∈ vs) : wipe σ2 vs = wipe σ vs := by
  rw [wipe_length] at hl
  apply List.ext_getElem?
  intro i
  rw [wipe_get, wipe_get σ]
  by_cases hi : i ∈ vs
  · rw [if_pos hi, if_pos hi, hl]
  · rw [if_neg hi, if_neg hi]
    rw [ho i fun z => hi (sub i z), wipe_get, if_neg hi]
def noSet : Expr → Bool
  | .Set .. => false
  | _ => true
theorem noSet_ok {e : Expr} {env : Env} (h : noSet e = true) : ∀ x, foldedSetIterable e env x = pure x := by
  intro x
  cases e <;> first | rfl | cases h

/-- an object of the store is not the one that is being made -/
theorem soNe {H : Hp} {D b : Addr} {o w : HO} {t : Bool} (eD : H D = some o) (e : H b = some w) (k : t = true ∨ ∃ q x, w = .frz q x) (lv : t = true → b ≠ D) (of : ∀ x y, o ≠ .frz x y := by intro _ _ z; cases z) : b ≠ D := by
  rcases k with k | ⟨q, x, rfl⟩
  · exact lv k
  · intro z
    rw [z, eD] at e
    exact of q x (Option.some.inj e)
section
variable {cl : Cls0} {T : Tab} {call : Nat → List PV → Sto → Res PV} {k : Nat} {N : List Str} {sc : Scope} {W : WX} {X : Cx}
theorem good_blk (G : Good cl T call k N sc W X) (s : Shared) (H : Hp) (scope : Scope) (C : Addr) (cls : List (Str × Addr)) (fp : List Addr) : Good cl T call k N (relS scope sc) WF (X.blk s H scope (compEnvC scope cls C X.env) fp) where
  hN := G.hN
  nd := G.nd
  hsc := by rw [← G.hsc]; rfl
  calm := G.calm
  room := G.room
  gd := G.gd
  facts := G.facts
  pass := fun σ pins H s e s' I c => by
    obtain ⟨a, B, H', cls, d, _, _, _, _, _, _, _, z⟩ := c
    exact z.elim
/-- a comprehension's turn -/
def bodyC (T : Tab) (call : Nat → List PV → Sto → Res PV) (tg c elt : E) (σ0 : Sl) (x : PV) (s2 : Sto) : Res (Option PV) := match lay tg x σ0 with
  | none => .bad
  | some σ1 => match ev T call c σ1 s2 with
    | .ok (.bl true) s3 => match ev T call elt σ1 s3 with
      | .ok y s4 => .ok (some y) s4
      | _ => .bad
    | .ok (.bl false) s3 => .ok none s3
    | _ => .bad
def finC (ys : List PV) (s5 : Sto) : Res PV := if ys.length ≤ cap then .ok (.lst s5.n) (s5.new (.lst ys)) else .bad

theorem turns_ok {own : List (Str × Nat)} {tg c elt : E} {σ : L2.St} {sl : Sl} {rho1 : Nat → Addr} {s1 : Sto} {H1 : Hp} {Q : VK} {J : L2.It} {j : It} {D : Addr} (sub : ∀ i ∈ slotsT tg, i ∈ own.map (·.2))
    (R1 : RSt X.kw rho1 H1 s1) (S1 : SlR X.kw s1.n rho1 H1 sl σ) (jr : JR X.kw s1 rho1 H1 J j) (hD : H1 D = none)
    (h : Post X.kw cl W σ rho1 s1 H1 ((turns j (bodyC T call tg c elt (wipeP sl (own.map (·.2)))) (j.most s1) 0 [] s1).bind finC) Q) :
    ∃ Wi : Nat → Nat → Hp → Prop, (∃ m, Wi 0 m (upd H1 D (.lst []))) ∧ ∀ i m H, Wi i m H →
      (J.stop i H ∧ Q (.ref D) H) ∨ (J.go i H ∧ ∃ Nx : Hp → Prop, (∀ H', Nx H' → ∃ m', m' < m ∧ Wi (i + 1) m' H') ∧ ∀ x H', J.yld i H x H' → tG X.kw tg x (wipe σ (own.map (·.2))) H' fun σ2 H2 => wipe σ2 (own.map (·.2)) = wipe σ (own.map (·.2)) ∧
        tIT X.kw cl WF T call c σ2 H2 fun b H3 => if b = true then tI X.kw cl WF T call elt σ2 H3 fun y H4 => ∃ acc, H4 D = some (.lst acc) ∧ acc.length < sizeLine ∧ Nx (upd H4 D (.lst (acc ++ [y]))) else Nx H3) := by
  let Wi : Nat → Nat → Hp → Prop := fun i m H => ∃ rho s acc accP, Ext s1 rho1 rho H1 H s ∧ RSt X.kw rho H s ∧ H D = some (.lst acc) ∧ (∀ q u, look q s.os = some u → tr u = true → rho q ≠ D) ∧ VRs X.kw s.n rho H accP acc ∧
    Post X.kw cl W σ rho1 s1 H1 ((turns j (bodyC T call tg c elt (wipeP sl (own.map (·.2)))) m i accP s).bind finC) Q
  have live1 : ∀ q u, look q s1.os = some u → tr u = true → rho1 q ≠ D := fun q u hq ht z => by
    obtain ⟨w, e, _⟩ := (R1.ok q u hq).there ht
    rw [z, hD] at e; cases e
  refine ⟨Wi, ⟨j.most s1, rho1, s1, [], [], .upd hD, R1.upd hD, upd_same, live1, by simp only [VRs], h⟩, fun i m H hW => ?_⟩
  obtain ⟨rho, s, acc, accP, x, R, eD, lv, V1, hp⟩ := hW
  obtain ⟨jgo, jstop⟩ := jr rho H s x R
  -- the end
  have fin : Post X.kw cl W σ rho1 s1 H1 (finC accP s) Q → Q (.ref D) H := fun g => by
    unfold finC at g
    split at g
    · have hn : rhoNew rho s.n D s.n = D := rhoNew_at
      refine g (rhoNew rho s.n D) H (.ref D) ⟨Nat.le_trans x.le (Nat.le_succ _), fun q hq => by rw [rhoNew_lt (Nat.lt_of_lt_of_le hq x.le)]; exact x.eq q hq, x.fr, fun q u hq => ?_, fun q u hq => ?_⟩ ⟨fun q u hq => ?_, fun q u hq => ?_, fun q q' u u' hq hq' t1 t2 e => ?_⟩ (by simp only [VR]; exact ⟨Nat.lt_succ_self _, by rw [hn]⟩)
      · obtain ⟨w, hw, hwt⟩ := x.st q u hq
        exact ⟨w, look_new_old (Nat.ne_of_lt (R.lt q w hw)) hw, hwt⟩
      · rcases look_new hq with ⟨z, _⟩ | ⟨_, z⟩
        · exact .inr ⟨by rw [z]; exact x.le, by rw [z, hn]; exact hD⟩
        · rcases x.nw q u z with z1 | ⟨z1, z2⟩
          · exact .inl z1
          · exact .inr ⟨z1, by rw [rhoNew_lt (R.lt q u z)]; exact z2⟩
      · rcases look_new hq with ⟨z, z2⟩ | ⟨_, z⟩
        · subst z; subst z2
          exact ⟨acc, by rw [hn]; exact eD, VRs.mono (Nat.le_succ _) (fun i h => rhoNew_lt h) (fun _ _ t => t) _ _ V1⟩
        · exact sok_mono (Nat.le_succ _) (fun i h => rhoNew_lt h) (fun _ _ t => t) (fun _ _ e => e) (R.lt q u z) (fun _ e _ => e) (R.ok q u z)
      · rcases look_new hq with ⟨z, _⟩ | ⟨_, z⟩
        · rw [z]; exact Nat.lt_succ_self _
        · exact Nat.lt_succ_of_lt (R.lt q u z)
      · rcases look_new hq with ⟨z, _⟩ | ⟨_, z⟩
        · rcases look_new hq' with ⟨z', _⟩ | ⟨_, z'⟩
          · rw [z, z']
          · rw [z, hn, rhoNew_lt (R.lt q' u' z')] at e
            exact absurd e.symm (lv q' u' z' t2)
        · rcases look_new hq' with ⟨z', _⟩ | ⟨_, z'⟩
          · rw [z', hn, rhoNew_lt (R.lt q u z)] at e
            exact absurd e (lv q u z t1)
          · rw [rhoNew_lt (R.lt q u z), rhoNew_lt (R.lt q' u' z')] at e
            exact R.inj q q' u u' z z' t1 t2 e
    · exact g.elim
  cases m with
  | zero =>
    simp only [turns] at hp
    split at hp
    · rename_i e
      exact .inl ⟨jstop i e, fin hp⟩
    · exact hp.elim
  | succ m =>
    simp only [turns] at hp
    split at hp
    · rename_i v e
      obtain ⟨go, yl⟩ := jgo i v e
      refine .inr ⟨go, Wi (i + 1) m, fun H' hN => ⟨m, Nat.lt_succ_self _, hN⟩, fun y H' hy => ?_⟩
      obtain ⟨x2, R2, V2⟩ := yl y H' hy
      have eD2 : H' D = some (.lst acc) := x2.fr D _ eD lv
      have S2 : SlR X.kw s.n rho H' sl σ := (S1.mono x R1).mono x2 R
      cases el : lay tg v (wipeP sl (own.map (·.2))) with
      | none => simp only [bodyC, el] at hp; exact hp.elim
      | some sl1 =>
        simp only [bodyC, el] at hp
        refine ⟨rho, s, wipeP sl (own.map (·.2)), v, sl1, R2, slR_wipe S2 _, V2, el, fun σ2 S3 l2 o2 => ?_⟩
        refine ⟨wipe_laid l2 o2 sub, ?_⟩
        have x12 := x.trans x2 R1 R
        refine ⟨rho, s, sl1, R2, S3, ?_⟩
        cases ec : ev T call c sl1 s with
        | bad => simp only [ec] at hp; exact hp.elim
        | exc d fs s3 => simp only [ec] at hp; exact hp.elim
        | ok b s3 =>
          simp only [ec] at hp
          intro rho3 H3 u x3 R3 V3
          have eD3 : H3 D = some (.lst acc) := x3.fr D _ eD2 lv
          have lv3 : ∀ q w, look q s3.os = some w → tr w = true → rho3 q ≠ D := fun q w hq ht => by
            rcases x3.nw q w hq with ⟨w', hw', ht'⟩ | ⟨_, z⟩
            · rw [x3.eq q (R2.lt q w' hw')]; exact lv q w' hw' (by rw [ht']; exact ht)
            · exact fun z2 => by rw [z2, eD2] at z; cases z
          cases b with
          | bl b =>
            simp only [VR] at V3
            refine ⟨b, V3, ?_⟩
            cases b with
            | false =>
              rw [if_neg Bool.false_ne_true]
              exact ⟨rho3, s3, acc, accP, x12.trans x3 R1 R2, R3, eD3, lv3, x3.vrs R2 (x2.vrs R V1), hp⟩
            | true =>
              rw [if_pos rfl]
              refine ⟨rho3, s3, sl1, R3, S3.mono x3 R2, ?_⟩
              cases ee : ev T call elt sl1 s3 with
              | bad => simp only [ee] at hp; exact hp.elim
              | exc d fs s4 => simp only [ee] at hp; exact hp.elim
              | ok z s4 =>
                simp only [ee] at hp
                by_cases hcap : accP.length < cap
                case neg => rw [if_neg hcap] at hp; exact hp.elim
                rw [if_pos hcap] at hp
                intro rho4 H4 zv x4 R4 V4
                have eD4 : H4 D = some (.lst acc) := x4.fr D _ eD3 lv3
                have lv4 : ∀ q w, look q s4.os = some w → tr w = true → rho4 q ≠ D := fun q w hq ht => by
                  rcases x4.nw q w hq with ⟨w', hw', ht'⟩ | ⟨_, z⟩
                  · rw [x4.eq q (R3.lt q w' hw')]; exact lv3 q w' hw' (by rw [ht']; exact ht)
                  · exact fun z2 => by rw [z2, eD3] at z; cases z
                have xx := (x12.trans x3 R1 R2).trans x4 R1 R3
                have tu : ∀ (a : Addr) (vs : List V), SqT X.kw H4 a vs → SqT X.kw (upd H4 D (.lst (acc ++ [zv]))) a vs := fun a vs t => by
                  rcases t with t | t
                  · rcases t with t | ⟨o, t⟩
                    · exact .inl (.inl (by rw [upd_ne (ne_of t eD4 (by intro z; cases z))]; exact t))
                    · exact .inl (.inr ⟨o, by rw [upd_ne (ne_of t eD4 (by intro z; cases z))]; exact t⟩)
                  · exact .inr t
                have V1' := x4.vrs R3 (x3.vrs R2 (x2.vrs R V1))
                refine ⟨acc, eD4, ?_, rho4, s4, acc ++ [zv], accP ++ [z], ⟨xx.le, xx.eq, fun b o e nb => ?_, xx.st, xx.nw⟩, ⟨fun q w hq => ?_, R4.lt, R4.inj⟩, upd_same, lv4, VRs.mono (Nat.le_refl _) (fun _ _ => rfl) tu _ _ (V1'.app (by simp only [VRs]; exact ⟨zv, [], rfl, V4, rfl⟩)), hp⟩
                · rw [← V1'.len]; exact Nat.lt_of_lt_of_le hcap (cap_line (Nat.le_refl _))
                · have ne : b ≠ D := fun z => by rw [z, hD] at e; cases e
                  rw [upd_ne ne]
                  exact xx.fr b o e nb
                · exact sok_mono (Nat.le_refl _) (fun _ _ => rfl) tu (fun c q e => by rw [upd_ne (ne_of e eD4 (by intro z; unfold LamX.CodeO at z; cases z))]; exact e) (R4.lt q w hq) (fun u e k => by rw [upd_ne (soNe eD4 e k (lv4 q w hq))]; exact e) (R4.ok q w hq)
          | _ => exact hp.elim
    · rename_i e
      exact .inl ⟨jstop i e, fin hp⟩
    · exact hp.elim
end
end FI

namespace FI
open PySem PySem.Spec PyProof.Rows L2

/-- the cells that a comprehension's block may store -/
def fnC (scope : Scope) : Str → Bool := fun x => scope.names.lookup x == some .cell
section
variable {cl : Cls0} {T : Tab} {call : Nat → List PV → Sto → Res PV} {k : Nat} {N : List Str} {sc : Scope} {W : WX} {X : Cx}
theorem PTs_imp {ifs : List Expr} {t t' : TT} (h : PTs X ifs t) (i : ∀ σ H Q, t' σ H Q → t σ H Q) : PTs X ifs t' := ⟨fun pins s σ H Q I q => h.run pins s σ H Q I (i σ H Q q)⟩
/-- what does not stand in the way -/
theorem g_never {e : Expr} : PE X e (tI X.kw cl W T call .never) := ⟨fun _ _ _ _ _ _ ⟨_, _, _, _, _, h⟩ => by simp only [ev] at h; exact h.elim⟩
theorem g_neverT {e : Expr} : PT X e (tIT X.kw cl W T call .never) := ⟨fun _ _ _ _ _ _ ⟨_, _, _, _, _, h⟩ => by simp only [ev] at h; exact h.elim⟩
theorem pts_yes : PTs X [] (tIT X.kw cl W T call (.bl true)) :=
  PTs_imp pts_nil fun σ H Q ⟨rho, s, sl, R, S, h⟩ => by
    simp only [ev] at h
    obtain ⟨b, e, q⟩ := h.same (v := .bl true) R (by simp only [VR])
    cases e
    exact q
/-- the reading of a comprehension -/
theorem comp_read {own : List (Str × Nat)} {tg it c elt : E} (sub : ∀ i ∈ slotsT tg, i ∈ own.map (·.2)) {σ : L2.St} {H : Hp} {Q : VK} (h : tI X.kw cl W T call (.comp own tg it c elt) σ H Q) :
    tLc (tII X.kw cl W T call it) (tG X.kw tg) (tIT X.kw cl WF T call c) (tI X.kw cl WF T call elt) (own.map (·.2)) σ H Q := by
  obtain ⟨rho, s, sl, R, S, h⟩ := h
  simp only [ev] at h
  refine ⟨rho, s, sl, R, S, ?_⟩
  cases e : evI T call it sl s with
  | bad => simp only [e, Res.bind] at h; exact h
  | exc d fs s1 => simp only [e, Res.bind] at h; exact h
  | ok j s1 =>
    simp only [e, Res.bind] at h
    intro rho1 H1 J x1 R1 jr D hD
    have h1 : Post X.kw cl W σ rho1 s1 H1 ((turns j (bodyC T call tg c elt (wipeP sl (own.map (·.2)))) (j.most s1) 0 [] s1).bind finC) Q := Post.later (s' := s1) h x1 R R1
    exact turns_ok sub R1 (S.mono x1 R) jr hD h1
theorem g_comp (G : Good cl T call k N sc W X) {own : List (Str × Nat)} {tg it c elt : E} {tge itere elte : Expr} {ifs : List Expr} {scope : Scope} {pos : Pos} (sub : ∀ i ∈ slotsT tg, i ∈ own.map (·.2))
    (hi : PI X tge itere (tII X.kw cl W T call it)) (ok : BlkOk N sc scope own) (hs : noSet itere = true)
    (hg : ∀ (Y : Cx), Good cl T call k N (relS scope sc) WF Y → Y.kw = X.kw → Y.fn = fnC scope → PG Y tge (tG X.kw tg)) (ht : ∀ (Y : Cx), Good cl T call k N (relS scope sc) WF Y → Y.kw = X.kw → Y.fn = fnC scope → PTs Y ifs (tIT X.kw cl WF T call c))
    (he : ∀ (Y : Cx), Good cl T call k N (relS scope sc) WF Y → Y.kw = X.kw → Y.fn = fnC scope → PE Y elte (tI X.kw cl WF T call elt)) :
    PE X (.ListComp elte [⟨tge, itere, ifs, 0⟩] scope pos) (tI X.kw cl W T call (.comp own tg it c elt)) := by
  have ok' : BlkOk X.N X.env.scope scope own := by rw [G.hN, G.hsc]; exact ok
  exact PE_imp (pe_lc G.calm (by rw [G.hN]; exact G.nd) hi ok' (fun s H C cls fp => hg _ (good_blk G s H scope C cls fp) rfl rfl) (fun s H C cls fp => ht _ (good_blk G s H scope C cls fp) rfl rfl) (fun s H C cls fp => he _ (good_blk G s H scope C cls fp) rfl rfl) (noSet_ok hs)) fun σ H Q h => comp_read sub h
/-- name = [..] on one line -/
theorem g_setC (G : Good cl T call k N sc W X) {own : List (Str × Nat)} {tg it c elt : E} {tge itere elte : Expr} {ifs : List Expr} {scope : Scope} {pos spos py : Pos} {i : Nat} {y : Str} (hy : N[i]? = some y) (hyl : sc.names.lookup y = some .local) (hk : sc.kind = .function) (hl : (py.line == pos.line) = true)
    (hn : (scope.names.any fun (n, k) => n == y && (k == .local || k == .cell)) = false) (sub : ∀ i ∈ slotsT tg, i ∈ own.map (·.2))
    (hi : PI X tge itere (tII X.kw cl W T call it)) (ok : BlkOk N sc scope own) (hs : noSet itere = true)
    (hg : ∀ (Y : Cx), Good cl T call k N (relS scope sc) WF Y → Y.kw = X.kw → Y.fn = fnC scope → PG Y tge (tG X.kw tg)) (ht : ∀ (Y : Cx), Good cl T call k N (relS scope sc) WF Y → Y.kw = X.kw → Y.fn = fnC scope → PTs Y ifs (tIT X.kw cl WF T call c))
    (he : ∀ (Y : Cx), Good cl T call k N (relS scope sc) WF Y → Y.kw = X.kw → Y.fn = fnC scope → PE Y elte (tI X.kw cl WF T call elt)) :
    PS X (.Assign [.Name y py] (.ListComp elte [⟨tge, itere, ifs, 0⟩] scope pos) spos) (tAsg (tI X.kw cl W T call (.comp own tg it c elt)) (gName i)) := by
  have ok' : BlkOk X.N X.env.scope scope own := by rw [G.hN, G.hsc]; exact ok
  have h := ps_setLc (spos := spos) (pos := pos) (py := py) (i := i) G.calm (by rw [G.hN]; exact G.nd) (by rw [G.hN]; exact hy) (by rw [G.hsc]; exact hyl) (sw_true (by rw [G.hsc]; exact hk) (by rw [G.hsc]; exact hyl) hl hn) hi ok' (fun s H C cls fp => hg _ (good_blk G s H scope C cls fp) rfl rfl) (fun s H C cls fp => ht _ (good_blk G s H scope C cls fp) rfl rfl) (fun s H C cls fp => he _ (good_blk G s H scope C cls fp) rfl rfl) (noSet_ok hs)
  exact ⟨fun pins s σ H D I q => h.run pins s σ H D I (comp_read sub q)⟩
/-! ### stars, dicts -/
theorem a_star {e : Expr} {es : List Expr} {ca cr : E} {p : Pos} (he : PE X e (tI X.kw cl W T call ca)) (hr : PA X es (tIA X.kw cl W T call cr)) : PA X (.Starred e p :: es) (tIA X.kw cl W T call (.star ca cr)) :=
  PA_imp (StX.pa_star he hr) fun σ H Q ⟨rho, s, sl, R, S, h⟩ => by
    simp only [ev] at h
    refine ⟨rho, s, sl, R, S, ?_⟩
    cases e1 : ev T call ca sl s with
    | bad => simp only [e1, Res.bind] at h
    | exc c fs s1 => simp only [e1, Res.bind] at h; exact h
    | ok p s1 =>
      simp only [e1, Res.bind] at h
      intro rho1 H1 v x1 R1 V1
      cases es : seqOf s1 p with
      | none => simp only [es] at h
      | some xs =>
        simp only [es] at h
        obtain ⟨a, us, rfl, t, r⟩ := seqOf_ok R1 es V1
        refine ⟨a, us, rfl, t.symm, rho1, s1, sl, R1, S.mono x1 R, ?_⟩
        cases e2 : ev T call cr sl s1 with
        | bad => simp only [e2] at h
        | exc c fs s2 => simp only [e2] at h; exact Post.later (s' := s1) h x1 R R1
        | ok q s2 =>
          simp only [e2] at h
          cases q with
          | tup ps => exact fun rho2 H2 vs x2 R2 V2 => h rho2 H2 (us ++ vs) (x1.trans x2 R R1) R2 ((x2.vrs R1 r).app V2)
          | _ => exact h
theorem keyOf_ok {K : KW} {n : Nat} {rho : Nat → Addr} {H : Hp} {p : PV} {v : V} {kk : Key} (e : keyOf p = some kk) (h : VR K n rho H p v) : v = kV kk := by
  cases p with
  | int i => simp only [keyOf] at e; cases e; simp only [VR] at h; exact h
  | str i => simp only [keyOf] at e; cases e; simp only [VR] at h; exact h
  | _ => simp [keyOf] at e
theorem valP_ok {K : KW} {n : Nat} {rho : Nat → Addr} {H : Hp} {kk : Key} : ∀ {kvs : List (Key × PV)} {ws : List (Key × V)} {p : PV}, ws.map (·.1) = kvs.map (·.1) → VRs K n rho H (kvs.map (·.2)) (ws.map (·.2)) → valP kk kvs = some p → ∃ v, valV ws kk = some v ∧ VR K n rho H p v
  | [], ws, p, _, _, e => by simp [valP] at e
  | (j, u) :: r, ws, p, hk, hv, e => by
    cases ws with
    | nil => simp at hk
    | cons w ws =>
      obtain ⟨j', w⟩ := w
      simp only [List.map_cons, List.cons.injEq] at hk
      simp only [List.map_cons, VRs] at hv
      obtain ⟨v, rr, e2, h1, h2⟩ := hv
      obtain ⟨rfl, rfl⟩ := List.cons.inj e2
      obtain ⟨rfl, hk⟩ := hk
      simp only [valP] at e
      by_cases z : j' = kk
      · rw [if_pos (decide_eq_true z)] at e
        cases e
        exact ⟨_, valV_pos (p := (j', w)) z, h1⟩
      · rw [if_neg (by simpa using z)] at e
        obtain ⟨v, e1, e2⟩ := valP_ok hk h2 e
        exact ⟨v, by rw [valV_neg (p := (j', w)) z]; exact e1, e2⟩
theorem getD_ok {K : KW} {rho : Nat → Addr} {H : Hp} {s : Sto} {i : Nat} {kvs : List (Key × PV)} (R : RSt K rho H s) (h : getD s i = some kvs) : ∃ ws, H (rho i) = some (.dK ws) ∧ ws.map (·.1) = kvs.map (·.1) ∧ VRs K s.n rho H (kvs.map (·.2)) (ws.map (·.2)) := by
  unfold getD at h
  split at h
  · rename_i ys e
    cases h
    exact R.ok _ _ e
  · cases h
theorem noSl_ok {e : Expr} (h : plainIx e = true) : NoSl e := by
  intro o i
  cases e <;> first | rfl | cases h
theorem g_dix (G : Good cl T call k N sc W X) {a b : Expr} {ca cb : E} {p : Pos} (hs : plainIx b = true) (ha : PE X a (tI X.kw cl W T call ca)) (hb : PE X b (tI X.kw cl W T call cb)) : PE X (.Subscript a b p) (tI X.kw cl W T call (.dix ca cb)) :=
  PE_imp (pe_dget (by have := G.un; omega) ha hb (noSl_ok hs)) fun σ H Q ⟨rho, s, sl, R, S, h⟩ => by
    simp only [ev] at h
    refine tI_imp (tI_seq R S h) fun v H1 ⟨rho1, s1, p, x1, R1, S1, V1, h1⟩ => ?_
    refine tI_imp (tI_seq R1 S1 h1) fun u H2 ⟨rho2, s2, q, x2, R2, S2, V2, h2⟩ => ?_
    have V1' := x2.vr R1 V1
    cases p with
    | dct i =>
      simp only [VR] at V1'
      obtain ⟨_, rfl⟩ := V1'
      dsimp only at h2
      split at h2
      · rename_i kvs kk e1 e2
        split at h2
        · rename_i y e3
          obtain ⟨ws, d1, d2, d3⟩ := getD_ok R2 e1
          obtain ⟨v, d4, d5⟩ := valP_ok d2 d3 e3
          have := keyOf_ok e2 V2
          subst this
          exact ⟨_, v, rfl, by rw [← d4]; exact DGet.k d1, h2.same R2 d5⟩
        · exact h2.elim
      · exact h2.elim
    | _ => exact h2.elim
end
end FI

namespace FI
open PySem PySem.Spec PyProof.Rows L2

section
variable {K : KW} {rho : Nat → Addr} {H : Hp} {s : Sto}
theorem look_put {i j : Nat} {o : SO} : ∀ {os : List (Nat × SO)} {w : SO}, look j (put i o os) = some w → (j = i ∧ w = o) ∨ (j ≠ i ∧ look j os = some w)
  | [], w, h => by simp [put, look] at h
  | (n, u) :: r, w, h => by
    simp only [put] at h
    split at h
    · rename_i e
      have e := Nat.eq_of_beq_eq_true e
      subst e
      simp only [look] at h ⊢
      split at h
      · rename_i e2
        exact .inl ⟨Nat.eq_of_beq_eq_true e2, (Option.some.inj h).symm⟩
      · rename_i e2
        refine .inr ⟨fun z => e2 (by rw [z]; exact Nat.beq_refl _), ?_⟩
        rw [if_neg e2]; exact h
    · rename_i e
      simp only [look] at h ⊢
      split at h
      · rename_i e2
        have e2' := Nat.eq_of_beq_eq_true e2
        refine .inr ⟨fun z => e (by rw [← e2', z]; exact Nat.beq_refl _), ?_⟩
        rw [if_pos e2]; exact h
      · rename_i e2
        rcases look_put h with z | ⟨z1, z2⟩
        · exact .inl z
        · exact .inr ⟨z1, by rw [if_neg e2]; exact z2⟩
theorem put_look {i j : Nat} {o x : SO} (ht : tr o = tr x) : ∀ {os : List (Nat × SO)} {w : SO}, look i os = some x → look j os = some w → ∃ u, look j (put i o os) = some u ∧ tr u = tr w
  | [], w, hx, h => by simp [look] at h
  | (n, u) :: r, w, hx, h => by
    simp only [put]
    split
    · rename_i e0
      simp only [look] at h hx ⊢
      rw [if_pos e0] at hx
      split
      · rename_i e
        rw [if_pos e] at h
        cases h; cases hx
        exact ⟨o, rfl, ht⟩
      · rename_i e; rw [if_neg e] at h; exact ⟨w, h, rfl⟩
    · rename_i e0
      simp only [look] at h hx ⊢
      rw [if_neg e0] at hx
      split
      · rename_i e
        rw [if_pos e] at h
        cases h
        exact ⟨_, rfl, rfl⟩
      · rename_i e; rw [if_neg e] at h; exact put_look ht hx h
/-- an object of the store is written -/
theorem put_obj {i : Nat} {o u : SO} {w : HO} (R : RSt K rho H s) (hi : look i s.os = some u) (hu : tr u = true) (ho1 : tr o = true) (of1 : ∀ q xs, H (rho i) ≠ some (.frz q xs)) (nt : ∀ xs, w ≠ .tup xs) (ox : ∀ φ, H (rho i) ≠ some (.ext φ)) (ot : ∀ xs, H (rho i) ≠ some (.tup xs)) (of : ∀ q xs, H (rho i) ≠ some (.frz q (.tup xs)))
    (ho : (∀ a vs, SqT K H a vs → SqT K (upd H (rho i) w) a vs) → SOk K s.n rho (upd H (rho i) w) i o) :
    Ext s rho rho H (upd H (rho i) w) ⟨s.n, put i o s.os⟩ ∧ RSt K rho (upd H (rho i) w) ⟨s.n, put i o s.os⟩ := by
  have tu : ∀ (a : Addr) (vs : List V), SqT K H a vs → SqT K (upd H (rho i) w) a vs := fun a vs t => by
    rcases t with t | t
    · rcases t with t | ⟨q, t⟩
      · exact .inl (.inl (by rw [upd_ne (fun z => ot vs (by rw [← z]; exact t))]; exact t))
      · exact .inl (.inr ⟨q, by rw [upd_ne (fun z => of q vs (by rw [← z]; exact t))]; exact t⟩)
    · exact .inr t
  refine ⟨⟨Nat.le_refl _, fun _ _ => rfl, fun b x e nb => ?_, fun j x h => put_look (by rw [hu, ho1]) hi h, fun j x h => ?_⟩, ⟨fun j x h => ?_, fun j x h => ?_, fun j k x y h h' t1 t2 e => ?_⟩⟩
  · rw [upd_ne (fun z => nb i u hi hu z.symm)]; exact e
  · rcases look_put h with ⟨z, z2⟩ | ⟨_, z⟩
    · exact .inl ⟨u, by rw [z]; exact hi, by rw [z2, hu, ho1]⟩
    · exact .inl ⟨x, z, rfl⟩
  · rcases look_put h with ⟨z, z2⟩ | ⟨z1, z⟩
    · subst z; subst z2; exact ho tu
    · refine sok_mono (Nat.le_refl _) (fun _ _ => rfl) tu (fun c q e => by rw [upd_ne (fun z => ox _ (by rw [← z]; exact e))]; exact e) (R.lt j x z) (fun y e k => ?_) (R.ok j x z)
      rw [upd_ne (fun q => ?_)]; exact e
      rcases k with k | ⟨f1, f2, k⟩
      · exact z1 (R.inj j i x u z hi k hu q)
      · rw [q, k] at e; exact of1 _ _ e
  · rcases look_put h with ⟨z, _⟩ | ⟨_, z⟩
    · rw [z]; exact R.lt i u hi
    · exact R.lt j x z
  · have g : ∀ {j : Nat} {x : SO}, look j (put i o s.os) = some x → tr x = true → ∃ y, look j s.os = some y ∧ tr y = true := fun {j x} h ht => by
      rcases look_put h with ⟨z, _⟩ | ⟨_, z⟩
      · exact ⟨u, by rw [z]; exact hi, hu⟩
      · exact ⟨x, z, ht⟩
    obtain ⟨x', hx, tx⟩ := g h t1
    obtain ⟨y', hy, ty⟩ := g h' t2
    exact R.inj j k x' y' hx hy tx ty e
theorem getW_look {i : Nat} {xs : List PV} (h : getW s i = some xs) : look i s.os = some (.lst xs) := by
  unfold getW at h
  split at h
  · rename_i e; cases h; exact e
  · cases h
theorem getD_look {i : Nat} {xs : List (Key × PV)} (h : getD s i = some xs) : look i s.os = some (.dct xs) := by
  unfold getD at h
  split at h
  · rename_i e; cases h; exact e
  · cases h
theorem put_lst {i : Nat} {xs ys : List PV} {us : List V} (R : RSt K rho H s) (h : getW s i = some xs) (e : VRs K s.n rho H ys us) :
    Ext s rho rho H (upd H (rho i) (.lst us)) ⟨s.n, put i (.lst ys) s.os⟩ ∧ RSt K rho (upd H (rho i) (.lst us)) ⟨s.n, put i (.lst ys) s.os⟩ := by
  obtain ⟨vs, h1, _⟩ := getW_ok R h
  exact put_obj R (getW_look h) rfl rfl (fun _ _ z => by rw [h1] at z; cases z) (fun _ z => nomatch z) (fun _ z => by rw [h1] at z; cases z) (fun _ z => by rw [h1] at z; cases z) (fun _ _ z => by rw [h1] at z; cases z) fun tu => ⟨us, upd_same, VRs.mono (Nat.le_refl _) (fun _ _ => rfl) tu _ _ e⟩
theorem put_dct {i : Nat} {xs ys : List (Key × PV)} {us : List (Key × V)} (R : RSt K rho H s) (h : getD s i = some xs) (ek : us.map (·.1) = ys.map (·.1)) (e : VRs K s.n rho H (ys.map (·.2)) (us.map (·.2))) :
    Ext s rho rho H (upd H (rho i) (.dK us)) ⟨s.n, put i (.dct ys) s.os⟩ ∧ RSt K rho (upd H (rho i) (.dK us)) ⟨s.n, put i (.dct ys) s.os⟩ := by
  obtain ⟨vs, h1, _⟩ := getD_ok R h
  exact put_obj R (getD_look h) rfl rfl (fun _ _ z => by rw [h1] at z; cases z) (fun _ z => nomatch z) (fun _ z => by rw [h1] at z; cases z) (fun _ z => by rw [h1] at z; cases z) (fun _ _ z => by rw [h1] at z; cases z) fun tu => ⟨us, upd_same, ek, VRs.mono (Nat.le_refl _) (fun _ _ => rfl) tu _ _ e⟩
end
section
variable {cl : Cls0} {T : Tab} {call : Nat → List PV → Sto → Res PV} {k : Nat} {N : List Str} {sc : Scope} {W : WX} {X : Cx}
def plainBase : Expr → Bool
  | .Name .. => true
  | .Subscript .. => true
  | _ => false
/-- xs.append(e) -/
theorem g_app {o e : Expr} {ca cb : E} {apos cpos : Pos} {nm : Str} (hn : nm = "append") (hb : attributeBase o nm X.env (eval o X.env) = eval o X.env) (hl : (apos.endLine == cpos.line) = true) (h1 : nostar e = true)
    (ho : PE X o (tI X.kw cl W T call ca)) (he : PE X e (tI X.kw cl W T call cb)) : PE X (.Call (.Attribute o nm apos) [e] [] cpos) (tI X.kw cl W T call (.app ca cb)) := by
  subst hn
  have hs : starEach [e] X.env = [(false, eval e X.env)] := nostar_ok h1
  refine PE_imp (pe_bm PySem.F.plainAttrs_list PySem.F.slot_list_append PySem.F.type_list_append mt_append ho (pa_cons he pa_nil hs) hb (by rw [hs]; rfl) hl hs (by rfl)) fun σ H Q ⟨rho, s, sl, R, S, h⟩ => ?_
  simp only [ev] at h
  refine tI_imp (tI_seq R S h) fun v H1 ⟨rho1, s1, p, x1, R1, S1, V1, g1⟩ => ?_
  cases p with
  | lst i =>
    simp only [VR] at V1
    obtain ⟨hi, rfl⟩ := V1
    dsimp only at g1
    split at g1
    · rename_i xs0 e0
      obtain ⟨vs0, t0, _⟩ := getW_ok R1 e0
      refine ⟨.inl ⟨rfl, vs0, .inl (.inl t0)⟩, ?_⟩
      refine tI_imp (tI_seq R1 S1 g1) fun u H2 ⟨rho2, s2, q, x2, R2, S2, V2, g2⟩ => ?_
      split at g2
      · rename_i xs e1
        split at g2
        · rename_i hc
          obtain ⟨vs, t, r⟩ := getW_ok R2 e1
          rw [x2.eq i hi] at t
          have hr : rho2 i = rho1 i := x2.eq i hi
          refine ⟨_, vs, u, rfl, rfl, t, ?_, ?_⟩
          · rw [← r.len]; exact Nat.lt_of_lt_of_le hc (cap_line (Nat.le_refl _))
          · obtain ⟨y1, y2⟩ := put_lst (ys := xs ++ [q]) (us := vs ++ [u]) R2 e1 (r.app (by simp only [VRs]; exact ⟨u, [], rfl, V2, rfl⟩))
            rw [hr] at y1 y2
            exact g2 rho2 _ .non y1 y2 (by simp only [VR])
        · exact g2.elim
      · exact g2.elim
    · exact g1.elim
  | _ => exact g1.elim
/-! ### a dict's display -/
/-- keys and values in turn -/
inductive PP (X : Cx) (cl : Cls0) (W : WX) (T : Tab) (call : Nat → List PV → Sto → Res PV) : List (Option Expr) → List Expr → E → Prop
  | nil : PP X cl W T call [] [] .nil
  | cons {k v : Expr} {ks : List (Option Expr)} {vs : List Expr} {ck cv cr : E} : PE X k (tI X.kw cl W T call ck) → PE X v (tI X.kw cl W T call cv) → PP X cl W T call ks vs cr → PP X cl W T call (some k :: ks) (v :: vs) (.cons ck (.cons cv cr))
theorem pairs_read {K : KW} {σ : L2.St} {sl : Sl} {Q : List (V × V) → Hp → Prop} : ∀ (c : E) (trs : List (TE × TE)), True → True := fun _ _ _ => trivial
def trsOf (K : KW) (cl : Cls0) (W : WX) (T : Tab) (call : Nat → List PV → Sto → Res PV) : E → List (TE × TE)
  | .cons ck (.cons cv cr) => (tI K cl W T call ck, tI K cl W T call cv) :: trsOf K cl W T call cr
  | _ => []
theorem pps_of {pos : Pos} {ks : List (Option Expr)} {vs : List Expr} {c : E} (h : PP X cl W T call ks vs c) : PPs X pos ks vs (trsOf X.kw cl W T call c) ∧ ks.all (·.isSome) = true ∧ ks.length = vs.length := by
  induction h with
  | nil => exact ⟨pps_nil, rfl, rfl⟩
  | cons hk hv _ ih => exact ⟨pps_cons hk hv ih.1, by rw [List.all_cons, ih.2.1]; rfl, by rw [List.length_cons, List.length_cons, ih.2.2]⟩
def flatPairs : List (V × V) → List V
  | [] => []
  | (x, y) :: r => x :: y :: flatPairs r
theorem trs_read {σ : L2.St} {sl : Sl} {ks : List (Option Expr)} {vs : List Expr} {c : E} (hp : PP X cl W T call ks vs c) : ∀ {rho : Nat → Addr} {s : Sto} {H : Hp} {Q : List (V × V) → Hp → Prop}, RSt X.kw rho H s → SlR X.kw s.n rho H sl σ →
    (match ev T call c sl s with
      | .ok (.tup ps) s' => ∀ rho' H' us, Ext s rho rho' H H' s' → RSt X.kw rho' H' s' → VRs X.kw s'.n rho' H' ps (flatPairs us) → Q us H'
      | .ok _ _ => False
      | .exc c fs s' => Post X.kw cl W σ rho s H (.exc c fs s') (fun _ _ => False)
      | .bad => False) → tPairs (trsOf X.kw cl W T call c) σ H Q := by
  induction hp with
  | nil =>
    intro rho s H Q R S h
    simp only [ev] at h
    exact h rho H [] .refl R (by simp only [flatPairs, VRs])
  | @cons k v ks vs ck cv cr hk hv hr ih =>
    intro rho s H Q R S h
    show tI X.kw cl W T call ck σ H fun x H1 => tI X.kw cl W T call cv σ H1 fun y H2 => tPairs (trsOf X.kw cl W T call cr) σ H2 fun ps H3 => Q ((x, y) :: ps) H3
    simp only [ev] at h
    refine ⟨rho, s, sl, R, S, ?_⟩
    cases e1 : ev T call ck sl s with
    | bad => simp only [e1] at h
    | exc c fs s1 => simp only [e1] at h; exact h
    | ok p s1 =>
      simp only [e1] at h
      intro rho1 H1 x x1 R1 V1
      refine ⟨rho1, s1, sl, R1, S.mono x1 R, ?_⟩
      cases e2 : ev T call cv sl s1 with
      | bad => simp only [e2] at h
      | exc c fs s2 => simp only [e2] at h; exact Post.later (s' := s1) h x1 R R1
      | ok q s2 =>
        simp only [e2] at h
        intro rho2 H2 y x2 R2 V2
        have x12 := x1.trans x2 R R1
        refine ih R2 ((S.mono x1 R).mono x2 R1) ?_
        cases e3 : ev T call cr sl s2 with
        | bad => simp only [e3] at h
        | exc c fs s3 => simp only [e3] at h; exact Post.later (s' := s2) h x12 R R2
        | ok r s3 =>
          simp only [e3] at h
          cases r with
          | tup ps =>
            intro rho3 H3 us x3 R3 V3
            exact h rho3 H3 ((x, y) :: us) (x12.trans x3 R R2) R3 (by simp only [flatPairs, VRs]; exact ⟨x, _, rfl, x3.vr R2 (x2.vr R1 V1), y, _, rfl, x3.vr R2 V2, V3⟩)
          | _ => exact h
theorem pairsP_ok {K : KW} {n : Nat} {rho : Nat → Addr} {H : Hp} : ∀ {us : List (V × V)} {ps : List PV} {kvs : List (Key × PV)}, pairsP ps = some kvs → VRs K n rho H ps (flatPairs us) →
    ∃ ws : List (Key × V), us = ws.map (fun kv => (kV kv.1, kv.2)) ∧ ws.map (·.1) = kvs.map (·.1) ∧ VRs K n rho H (kvs.map (·.2)) (ws.map (·.2))
  | [], ps, kvs, e, h => by
    cases ps with
    | nil => simp only [pairsP] at e; cases e; exact ⟨[], rfl, rfl, by simp only [List.map_nil, VRs]⟩
    | cons p ps => simp only [flatPairs, VRs] at h; obtain ⟨_, _, z, _⟩ := h; cases z
  | (x, y) :: us, ps, kvs, e, h => by
    cases ps with
    | nil => simp [flatPairs, VRs] at h
    | cons p ps =>
      cases ps with
      | nil => simp [flatPairs, VRs] at h
      | cons q ps =>
        simp only [flatPairs, VRs] at h
        obtain ⟨_, _, z, h1, _, _, z2, h2, h3⟩ := h
        obtain ⟨rfl, rfl⟩ := List.cons.inj z
        obtain ⟨rfl, rfl⟩ := List.cons.inj z2
        simp only [pairsP] at e
        split at e
        · rename_i kk kvs' e1 e2
          cases e
          obtain ⟨ws, g1, g2, g3⟩ := pairsP_ok e2 h3
          have := keyOf_ok e1 h1
          subst this
          exact ⟨(kk, y) :: ws, by rw [List.map_cons, ← g1], by rw [List.map_cons, List.map_cons, g2], by simp only [List.map_cons, VRs]; exact ⟨y, _, rfl, h2, g3⟩⟩
        · cases e
theorem valP_none {kk : Key} : ∀ {kvs : List (Key × PV)}, (valP kk kvs).isNone = true → kk ∉ kvs.map (·.1)
  | [], _, h => by simp at h
  | (j, u) :: r, e, h => by
    simp only [valP] at e
    split at e
    · cases e
    · rename_i z
      rcases List.mem_cons.mp h with q | q
      · exact z (by simpa using q.symm)
      · exact valP_none e q
theorem noTwice_ok : ∀ {kvs : List (Key × PV)}, noTwice kvs = true → (kvs.map (·.1)).Nodup
  | [], _ => List.nodup_nil
  | (j, u) :: r, e => by
    simp only [noTwice, Bool.and_eq_true] at e
    exact List.nodup_cons.mpr ⟨valP_none e.1, noTwice_ok e.2⟩
theorem putK_new {acc : List (Key × V)} {kk : Key} {v : V} (h : kk ∉ acc.map (·.1)) : putK acc kk v = acc ++ [(kk, v)] := by
  unfold putK
  rw [if_neg]
  intro z
  rw [List.any_eq_true] at z
  obtain ⟨p, hp, e⟩ := z
  exact h (List.mem_map.mpr ⟨p, hp, by simpa using e⟩)
theorem merge_new : ∀ (ws acc : List (Key × V)), (acc.map (·.1) ++ ws.map (·.1)).Nodup → mergeK acc ws = acc ++ ws
  | [], acc, _ => by simp [mergeK]
  | (kk, v) :: ws, acc, h => by
    show mergeK (putK acc kk v) ws = _
    rw [putK_new (fun z => by
      rw [List.nodup_append] at h
      exact h.2.2 kk z kk (by simp) rfl), merge_new ws (acc ++ [(kk, v)]) (by simpa using h)]
    simp
theorem g_ddisp {ks : List (Option Expr)} {vs : List Expr} {c : E} {pos : Pos} (hp : PP X cl W T call ks vs c) (h0 : ks ≠ []) (h15 : ks.length ≤ 15) : PE X (.Dict ks vs pos) (tI X.kw cl W T call (.ddisp c)) := by
  obtain ⟨p1, p2, p3⟩ := pps_of (pos := pos) hp
  refine PE_imp (pe_disp p1 p2 p3 h0 h15) fun σ H Q ⟨rho, s, sl, R, S, h⟩ => ?_
  simp only [ev] at h
  intro D hD
  have lv : ∀ q u, look q s.os = some u → tr u = true → rho q ≠ D := fun q u hq ht z => by
    obtain ⟨w, e, _⟩ := (R.ok q u hq).there ht
    rw [z, hD] at e; cases e
  have xD : Ext s rho rho H (upd H D (.dK [])) s := .upd hD
  refine trs_read (sl := sl) hp (R.upd hD) (S.mono xD R) ?_
  cases e : ev T call c sl s with
  | bad => simp only [e, Res.bind] at h; exact h
  | exc d fs s1 => simp only [e, Res.bind] at h; exact Post.later (s' := s) h xD R (R.upd hD)
  | ok p s1 =>
    simp only [e, Res.bind] at h
    cases p with
    | tup ps =>
      intro rho1 H1 us x1 R1 V1
      dsimp only at h
      split at h
      · rename_i kvs e1
        split at h
        · rename_i hc
          simp only [Bool.and_eq_true, decide_eq_true_eq] at hc
          obtain ⟨ws, g1, g2, g3⟩ := pairsP_ok e1 V1
          have eD : H1 D = some (.dK []) := x1.fr D _ upd_same lv
          have lv1 : ∀ q w, look q s1.os = some w → tr w = true → rho1 q ≠ D := fun q w hq ht => by
            rcases x1.nw q w hq with ⟨w', hw', ht'⟩ | ⟨_, z⟩
            · rw [x1.eq q (R.lt q w' hw')]; exact lv q w' hw' (by rw [ht']; exact ht)
            · exact fun z2 => by rw [z2, upd_same] at z; cases z
          refine ⟨eD, ws, g1, ?_, ?_⟩
          · have := congrArg List.length g2
            simp only [List.length_map] at this
            omega
          · rw [merge_new ws [] (by rw [List.map_nil, List.nil_append, g2]; exact noTwice_ok hc.1), List.nil_append]
            have tu : ∀ (a : Addr) (vs : List V), SqT X.kw H1 a vs → SqT X.kw (upd H1 D (.dK ws)) a vs := fun a vs t => by
              rcases t with t | t
              · rcases t with t | ⟨o, t⟩
                · exact .inl (.inl (by rw [upd_ne (ne_of t eD (by intro z; cases z))]; exact t))
                · exact .inl (.inr ⟨o, by rw [upd_ne (ne_of t eD (by intro z; cases z))]; exact t⟩)
              · exact .inr t
            have hn : rhoNew rho1 s1.n D s1.n = D := rhoNew_at
            have le : s.n ≤ s1.n := x1.le
            refine h (rhoNew rho1 s1.n D) (upd H1 D (.dK ws)) (.ref D) ⟨Nat.le_trans le (Nat.le_succ _), fun q hq => by rw [rhoNew_lt (Nat.lt_of_lt_of_le hq le)]; exact x1.eq q hq, fun b o eb nb => ?_, fun q u hq => ?_, fun q u hq => ?_⟩ ⟨fun q u hq => ?_, fun q u hq => ?_, fun q q' u u' hq hq' t1 t2 ee => ?_⟩ (by simp only [VR]; exact ⟨Nat.lt_succ_self _, by rw [hn]⟩)
            · have ne : b ≠ D := fun z => by rw [z, hD] at eb; cases eb
              rw [upd_ne ne]
              exact x1.fr b o (by rw [upd_ne ne]; exact eb) nb
            · obtain ⟨w, hw, hwt⟩ := x1.st q u hq
              exact ⟨w, look_new_old (Nat.ne_of_lt (R1.lt q w hw)) hw, hwt⟩
            · rcases look_new hq with ⟨z, _⟩ | ⟨_, z⟩
              · exact .inr ⟨by rw [z]; exact le, by rw [z, hn]; exact hD⟩
              · rcases x1.nw q u z with z1 | ⟨z1, z2⟩
                · exact .inl z1
                · refine .inr ⟨z1, ?_⟩
                  rw [rhoNew_lt (R1.lt q u z)]
                  by_cases hq : rho1 q = D
                  · rw [hq]; exact hD
                  · rw [upd_ne hq] at z2; exact z2
            · rcases look_new hq with ⟨z, z2⟩ | ⟨_, z⟩
              · subst z; subst z2
                exact ⟨ws, by rw [hn]; exact upd_same, g2, VRs.mono (Nat.le_succ _) (fun i h => rhoNew_lt h) tu _ _ g3⟩
              · exact sok_mono (Nat.le_succ _) (fun i h => rhoNew_lt h) tu (fun c q e => by rw [upd_ne (ne_of e eD (by intro z; unfold LamX.CodeO at z; cases z))]; exact e) (R1.lt q u z) (fun w e k => by rw [upd_ne (soNe eD e k (lv1 q u z))]; exact e) (R1.ok q u z)
            · rcases look_new hq with ⟨z, _⟩ | ⟨_, z⟩
              · rw [z]; exact Nat.lt_succ_self _
              · exact Nat.lt_succ_of_lt (R1.lt q u z)
            · rcases look_new hq with ⟨z, _⟩ | ⟨_, z⟩
              · rcases look_new hq' with ⟨z', _⟩ | ⟨_, z'⟩
                · rw [z, z']
                · rw [z, hn, rhoNew_lt (R1.lt q' u' z')] at ee
                  exact absurd ee.symm (lv1 q' u' z' t2)
              · rcases look_new hq' with ⟨z', _⟩ | ⟨_, z'⟩
                · rw [z', hn, rhoNew_lt (R1.lt q u z)] at ee
                  exact absurd ee (lv1 q u z t1)
                · rw [rhoNew_lt (R1.lt q u z), rhoNew_lt (R1.lt q' u' z')] at ee
                  exact R1.inj q q' u u' z z' t1 t2 ee
        · exact h.elim
      · exact h.elim
    | _ => exact h
end
end FI

namespace FI
open PySem PySem.Spec PyProof.Rows L2
/-! ### comprehensions of two clauses -/
section
variable {cl : Cls0} {T : Tab} {call : Nat → List PV → Sto → Res PV} {k : Nat} {N : List Str} {sc : Scope} {W : WX} {X : Cx}
/-- what is wanted of turns that change the store -/
def PostU (K : KW) (rho : Nat → Addr) (s : Sto) (H : Hp) (r : Res Unit) (P : Hp → Prop) : Prop := match r with
  | .ok _ s' => ∀ rho' H', Ext s rho rho' H H' s' → RSt K rho' H' s' → P H'
  | _ => False
theorem PostU.later {K : KW} {rho rho' : Nat → Addr} {s s' : Sto} {H H' : Hp} {r : Res Unit} {P : Hp → Prop} (h : PostU K rho s H r P) (x : Ext s rho rho' H H' s') (R : RSt K rho H s) (R' : RSt K rho' H' s') : PostU K rho' s' H' r P := by
  cases r with
  | ok u s2 => exact fun rho2 H2 y r2 => h rho2 H2 (x.trans y R R') r2
  | exc c fs s2 => exact h
  | bad => exact h
theorem JR.later {K : KW} {s s' : Sto} {rho rho' : Nat → Addr} {H H' : Hp} {J : L2.It} {j : It} (jr : JR K s rho H J j) (x : Ext s rho rho' H H' s') (R : RSt K rho H s) (R' : RSt K rho' H' s') : JR K s' rho' H' J j :=
  fun rho2 H2 s2 y r2 => jr rho2 H2 s2 (x.trans y R R') r2
/-- turns by the layer's iterator, each turn given -/
theorem turnsS_ok {J : L2.It} {j : It} {body : PV → Sto → Res Unit} {rho0 : Nat → Addr} {s0 : Sto} {H0 : Hp} {P : Hp → Prop} {B : V → Hp → (Hp → Prop) → Prop} (R0 : RSt X.kw rho0 H0 s0) (jr : JR X.kw s0 rho0 H0 J j)
    (hB : ∀ rho s H v p Nx, Ext s0 rho0 rho H0 H s → RSt X.kw rho H s → VR X.kw s.n rho H p v → PostU X.kw rho s H (body p s) Nx → B v H Nx)
    {rhoS : Nat → Addr} {sS : Sto} {HS : Hp} (xS : Ext s0 rho0 rhoS H0 HS sS) (RS : RSt X.kw rhoS HS sS) {m0 : Nat} (h : PostU X.kw rhoS sS HS (turnsS j body m0 0 sS) P) :
    ∃ W1 : Nat → Nat → Hp → Prop, (∃ m, W1 0 m HS) ∧ ∀ i n H, W1 i n H → (J.stop i H ∧ P H) ∨ (J.go i H ∧ ∃ Nx : Hp → Prop, (∀ H', Nx H' → ∃ n', n' < n ∧ W1 (i + 1) n' H') ∧ ∀ v H', J.yld i H v H' → B v H' Nx) := by
  refine ⟨fun i n H => ∃ rho s, Ext s0 rho0 rho H0 H s ∧ RSt X.kw rho H s ∧ PostU X.kw rho s H (turnsS j body n i s) P, ⟨m0, rhoS, sS, xS, RS, h⟩, fun i n H ⟨rho, s, x, R, hp⟩ => ?_⟩
  obtain ⟨jgo, jstop⟩ := jr rho H s x R
  cases n with
  | zero =>
    simp only [turnsS] at hp
    split at hp
    · rename_i e
      exact .inl ⟨jstop i e, hp rho H .refl R⟩
    · exact hp.elim
  | succ n =>
    simp only [turnsS] at hp
    split at hp
    · rename_i v e
      obtain ⟨go, yl⟩ := jgo i v e
      refine .inr ⟨go, fun H' => ∃ rho s, Ext s0 rho0 rho H0 H' s ∧ RSt X.kw rho H' s ∧ PostU X.kw rho s H' (turnsS j body n (i + 1) s) P, fun H' hn => ⟨n, Nat.lt_succ_self _, hn⟩, fun y H' hy => ?_⟩
      obtain ⟨x2, R2, V2⟩ := yl y H' hy
      refine hB rho s H' y v _ (x.trans x2 R0 R) R2 V2 ?_
      cases eb : body v s with
      | bad => simp only [eb] at hp; exact hp.elim
      | exc c fs s1 => simp only [eb] at hp; exact hp.elim
      | ok u s1 =>
        simp only [eb] at hp
        exact fun rho3 H3 x3 R3 => ⟨rho3, s1, (x.trans x2 R0 R).trans x3 R0 R2, R3, PostU.later (s' := s1) hp (x2.trans x3 R R2) R R3⟩
    · rename_i e
      exact .inl ⟨jstop i e, hp rho H .refl R⟩
    · exact hp.elim
theorem okLst_post {K : KW} {σ : L2.St} {rho : Nat → Addr} {s : Sto} {H : Hp} {Q : VK} {r : Res Unit} {d : Nat} {D : Addr} (h : Post K cl W σ rho s H (okLst d r) Q) (a : ∀ {rho' : Nat → Addr} {H' : Hp} {s' : Sto}, Ext s rho rho' H H' s' → d < s'.n ∧ rho' d = D) : PostU K rho s H r fun H' => Q (.ref D) H' := by
  cases r with
  | bad => exact h
  | exc c fs s5 => exact h
  | ok u s5 => exact fun rho' H' y R' => h rho' H' (.ref D) y R' (by simp only [VR]; exact ⟨(a y).1, by rw [(a y).2]⟩)
theorem comp2_read {own : List (Str × Nat)} {tg it c tg1 it1 c1 elt : E} (sub : ∀ i ∈ slotsT tg, i ∈ own.map (·.2)) (sub1 : ∀ i ∈ slotsT tg1, i ∈ own.map (·.2)) {σ : L2.St} {H : Hp} {Q : VK} (h : tI X.kw cl W T call (.comp2 own tg it c tg1 it1 c1 elt) σ H Q) :
    tLc2 (tII X.kw cl W T call it) (tG X.kw tg) (tIT X.kw cl WF T call c) (tII X.kw cl WF T call it1) (tG X.kw tg1) (tIT X.kw cl WF T call c1) (tI X.kw cl WF T call elt) (own.map (·.2)) (slotsT tg1) σ H Q := by
  obtain ⟨rho, s, sl, R, S, h⟩ := h
  simp only [ev] at h
  refine ⟨rho, s, sl, R, S, ?_⟩
  cases e : evI T call it sl s with
  | bad => simp only [e, Res.bind] at h; exact h
  | exc d fs s1 => simp only [e, Res.bind] at h; exact h
  | ok j s1 =>
    simp only [e, Res.bind] at h
    intro rho1 H1 J x1 R1 jr D hD
    obtain ⟨xD, RD⟩ := new_obj (o := .lst []) (u := .lst []) R1 hD ⟨[], by rw [rhoNew_at, upd_same], by simp only [VRs]⟩
    have S1 : SlR X.kw s1.n rho1 H1 sl σ := S.mono x1 R
    have atD : ∀ {rho' : Nat → Addr} {H' : Hp} {s' : Sto}, Ext (s1.new (.lst [])) (rhoNew rho1 s1.n D) rho' (upd H1 D (.lst [])) H' s' → rho' s1.n = D ∧ s1.n < s'.n := fun y => ⟨(y.eq s1.n (Nat.lt_succ_self _)).trans rhoNew_at, Nat.lt_of_lt_of_le (Nat.lt_succ_self _) y.le⟩
    have h' := Post.later (s' := s1.new (.lst [])) (Post.later (s' := s1) h x1 R R1) xD R1 RD
    have hU := okLst_post h' (fun y => ⟨(atD y).2, (atD y).1⟩)
    exact turnsS_ok RD (jr.later xD R1 RD) (B := fun v H' Nx => tG X.kw tg v (wipe σ (own.map (·.2))) H' fun σ2 H2 => wipe σ2 (own.map (·.2)) = wipe σ (own.map (·.2)) ∧ tIT X.kw cl WF T call c σ2 H2 fun b H3 =>
      if b = true then tII X.kw cl WF T call it1 σ2 H3 fun J1 H4 => ∃ W1 : Nat → Nat → Hp → Prop, (∃ m, W1 0 m H4) ∧ ∀ j k H, W1 j k H →
        (J1.stop j H ∧ Nx H) ∨ (J1.go j H ∧ ∃ Nx1 : Hp → Prop, (∀ H', Nx1 H' → ∃ k', k' < k ∧ W1 (j + 1) k' H') ∧ ∀ x H', J1.yld j H x H' → tG X.kw tg1 x (wipe σ2 (slotsT tg1)) H' fun σ3 H5 => wipe σ3 (slotsT tg1) = wipe σ2 (slotsT tg1) ∧ tIT X.kw cl WF T call c1 σ3 H5 fun b H6 =>
          if b = true then tI X.kw cl WF T call elt σ3 H6 fun y H7 => ∃ acc, H7 D = some (.lst acc) ∧ acc.length < sizeLine ∧ Nx1 (upd H7 D (.lst (acc ++ [y]))) else Nx1 H6)
      else Nx H3) (fun rho2 s2 H2 v p Nx x2 R2 V2 hp => by
        have S2 : SlR X.kw s2.n rho2 H2 sl σ := (S1.mono xD R1).mono x2 RD
        cases el : lay tg p (wipeP sl (own.map (·.2))) with
        | none => simp only [el, stepO] at hp; exact hp.elim
        | some sl1 =>
          simp only [el, stepO] at hp
          refine ⟨rho2, s2, wipeP sl (own.map (·.2)), p, sl1, R2, slR_wipe S2 _, V2, el, fun σ2 S3 l2 o2 => ⟨wipe_laid l2 o2 sub, ?_⟩⟩
          refine ⟨rho2, s2, sl1, R2, S3, ?_⟩
          cases ec : ev T call c sl1 s2 with
          | bad => simp only [ec] at hp; exact hp.elim
          | exc d fs s3 => simp only [ec] at hp; exact hp.elim
          | ok b s3 =>
            simp only [ec] at hp
            intro rho3 H3 u x3 R3 V3
            cases b with
            | bl b =>
              simp only [VR] at V3
              refine ⟨b, V3, ?_⟩
              cases b with
              | false =>
                rw [if_neg Bool.false_ne_true]
                exact hp rho3 H3 x3 R3
              | true =>
                rw [if_pos rfl]
                refine ⟨rho3, s3, sl1, R3, S3.mono x3 R2, ?_⟩
                cases ei : evI T call it1 sl1 s3 with
                | bad => simp only [ei] at hp; exact hp.elim
                | exc d fs s4 => simp only [ei] at hp; exact hp.elim
                | ok j1 s4 =>
                  simp only [ei] at hp
                  intro rho4 H4 J1 x4 R4 jr1
                  have S4 : SlR X.kw s4.n rho4 H4 sl1 σ2 := (S3.mono x3 R2).mono x4 R3
                  have hp4 := PostU.later (s' := s4) hp (x3.trans x4 R2 R3) R2 R4
                  have z4 : Ext (s1.new (.lst [])) (rhoNew rho1 s1.n D) rho4 (upd H1 D (.lst [])) H4 s4 := x2.trans (x3.trans x4 R2 R3) RD R2
                  refine turnsS_ok R4 jr1 (fun rho5 s5 H5 v5 p5 Nx1 x5 R5 V5 hq => ?_) .refl R4 hp4
                  have S5 : SlR X.kw s5.n rho5 H5 sl1 σ2 := S4.mono x5 R4
                  cases el5 : lay tg1 p5 (wipeP sl1 (slotsT tg1)) with
                  | none => simp only [el5, stepU] at hq; exact hq.elim
                  | some sl2 =>
                    simp only [el5, stepU] at hq
                    refine ⟨rho5, s5, wipeP sl1 (slotsT tg1), p5, sl2, R5, slR_wipe S5 _, V5, el5, fun σ3 S6 l3 o3 => ⟨wipe_laid l3 o3 fun i hi => hi, ?_⟩⟩
                    refine ⟨rho5, s5, sl2, R5, S6, ?_⟩
                    cases ec6 : ev T call c1 sl2 s5 with
                    | bad => simp only [ec6] at hq; exact hq.elim
                    | exc d fs s6 => simp only [ec6] at hq; exact hq.elim
                    | ok b6 s6 =>
                      simp only [ec6] at hq
                      intro rho6 H6 u6 x6 R6 V6
                      cases b6 with
                      | bl b6 =>
                        simp only [VR] at V6
                        refine ⟨b6, V6, ?_⟩
                        cases b6 with
                        | false =>
                          rw [if_neg Bool.false_ne_true]
                          exact hq rho6 H6 x6 R6
                        | true =>
                          rw [if_pos rfl]
                          refine ⟨rho6, s6, sl2, R6, S6.mono x6 R5, ?_⟩
                          cases ee : ev T call elt sl2 s6 with
                          | bad => simp only [ee] at hq; exact hq.elim
                          | exc d fs s7 => simp only [ee] at hq; exact hq.elim
                          | ok z s7 =>
                            simp only [ee, addTo] at hq
                            intro rho7 H7 zv x7 R7 V7
                            have z7 := ((z4.trans x5 RD R4).trans x6 RD R5).trans x7 RD R6
                            obtain ⟨eD, _⟩ := atD z7
                            split at hq
                            · rename_i ys ey
                              split at hq
                              · rename_i hc
                                obtain ⟨vs, t, r⟩ := getW_ok R7 ey
                                obtain ⟨y1, y2⟩ := put_lst (ys := ys ++ [z]) (us := vs ++ [zv]) R7 ey (r.app (by simp only [VRs]; exact ⟨zv, [], rfl, V7, rfl⟩))
                                rw [eD] at t y1 y2
                                refine ⟨vs, t, by rw [← r.len]; exact Nat.lt_of_lt_of_le hc (cap_line (Nat.le_refl _)), ?_⟩
                                exact hq rho7 _ ((x6.trans x7 R5 R6).trans y1 R5 R7) y2
                              · exact hq.elim
                            · exact hq.elim
                      | _ => exact hq.elim
            | _ => exact hp.elim) .refl RD hU
theorem g_comp2 (G : Good cl T call k N sc W X) {own : List (Str × Nat)} {tg it c tg1 it1 c1 elt : E} {tge itere tge1 itere1 elte : Expr} {ifs ifs1 : List Expr} {scope : Scope} {pos : Pos} (sub : ∀ i ∈ slotsT tg, i ∈ own.map (·.2)) (sub1 : ∀ i ∈ slotsT tg1, i ∈ own.map (·.2))
    (hi : PI X tge itere (tII X.kw cl W T call it)) (ok : BlkOk N sc scope own) (hs : noSet itere = true) (hs1 : noSet itere1 = true)
    (hg : ∀ (Y : Cx), Good cl T call k N (relS scope sc) WF Y → Y.kw = X.kw → Y.fn = fnC scope → PG Y tge (tG X.kw tg)) (ht : ∀ (Y : Cx), Good cl T call k N (relS scope sc) WF Y → Y.kw = X.kw → Y.fn = fnC scope → PTs Y ifs (tIT X.kw cl WF T call c))
    (hi1 : ∀ (Y : Cx), Good cl T call k N (relS scope sc) WF Y → Y.kw = X.kw → Y.fn = fnC scope → PI Y tge1 itere1 (tII X.kw cl WF T call it1))
    (hg1 : ∀ (Y : Cx), Good cl T call k N (relS scope sc) WF Y → Y.kw = X.kw → Y.fn = fnC scope → PG Y tge1 (tG X.kw tg1)) (ht1 : ∀ (Y : Cx), Good cl T call k N (relS scope sc) WF Y → Y.kw = X.kw → Y.fn = fnC scope → PTs Y ifs1 (tIT X.kw cl WF T call c1))
    (he : ∀ (Y : Cx), Good cl T call k N (relS scope sc) WF Y → Y.kw = X.kw → Y.fn = fnC scope → PE Y elte (tI X.kw cl WF T call elt)) :
    PE X (.ListComp elte [⟨tge, itere, ifs, 0⟩, ⟨tge1, itere1, ifs1, 0⟩] scope pos) (tI X.kw cl W T call (.comp2 own tg it c tg1 it1 c1 elt)) := by
  have ok' : BlkOk X.N X.env.scope scope own := by rw [G.hN, G.hsc]; exact ok
  exact PE_imp (pe_lc2 (vs1 := slotsT tg1) G.calm (by rw [G.hN]; exact G.nd) hi ok' sub1 (fun s H C cls fp => hg _ (good_blk G s H scope C cls fp) rfl rfl) (fun s H C cls fp => ht _ (good_blk G s H scope C cls fp) rfl rfl) (fun s H C cls fp => hi1 _ (good_blk G s H scope C cls fp) rfl rfl)
    (fun s H C cls fp => hg1 _ (good_blk G s H scope C cls fp) rfl rfl) (fun s H C cls fp => ht1 _ (good_blk G s H scope C cls fp) rfl rfl) (fun s H C cls fp => he _ (good_blk G s H scope C cls fp) rfl rfl) (noSet_ok hs) (fun env => noSet_ok hs1)) fun σ H Q h => comp2_read sub sub1 h
/-- l.index(x) -/
theorem indexD_ok {d : PyData} : ∀ {ds : List PyData} {k j : Nat}, indexD d ds k = some j → ∃ (i : Nat) (z : PyData), j = k + i ∧ ds[i]? = some z ∧ PyData.eqv z d = true ∧ ∀ (m : Nat) (z' : PyData), m < i → ds[m]? = some z' → PyData.eqv z' d = false
  | [], k, j, h => by simp [indexD] at h
  | z :: zs, k, j, h => by
    simp only [indexD] at h
    split at h
    · rename_i e
      cases h
      exact ⟨0, z, rfl, rfl, e, fun m z' hm => absurd hm (Nat.not_lt_zero _)⟩
    · rename_i e
      obtain ⟨i, z2, e1, e2, e3, e4⟩ := indexD_ok h
      refine ⟨i + 1, z2, by omega, by simpa using e2, e3, fun m z' hm hz => ?_⟩
      cases m with
      | zero => simp at hz; subst hz; simpa using e
      | succ m => exact e4 m z' (by omega) (by simpa using hz)
def mtName : Mt → Str
  | .index => "index"
theorem g_meth (G : Good cl T call k N sc W X) {m : Mt} {o e : Expr} {es : List Expr} {ca cb : E} {apos cpos : Pos} {nm : Str} (hn : nm = mtName m) (hb : attributeBase o nm X.env (eval o X.env) = eval o X.env) (hl : (apos.endLine == cpos.line) = true) (h3 : (e :: es).all nostar = true) (h30 : (e :: es).length < 30)
    (ho : PE X o (tI X.kw cl W T call ca)) (he : PA X (e :: es) (tIA X.kw cl W T call cb)) : PE X (.Call (.Attribute o nm apos) (e :: es) [] cpos) (tI X.kw cl W T call (.meth m ca cb)) := by
  have hs : starEach (e :: es) X.env = (false, eval e X.env) :: starEach es X.env := nostar_ok (by simp only [List.all_cons, Bool.and_eq_true] at h3; exact h3.1)
  have hp : (backTo cpos (starEach es X.env)).any (·.1) = false := nostar_all (by simp only [List.all_cons, Bool.and_eq_true] at h3; exact h3.2)
  have hf : ((backTo cpos (starEach (e :: es) X.env)).all (fun x => !x.1) && (backToKw cpos (keywordEach [] X.env)).all (fun x => x.1.isSome) && decide ((e :: es).length + ([] : List Keyword).length + (if ([] : List Keyword).isEmpty then 0 else 1) < 30)) = true := by
    have e1 : (backTo cpos (starEach (e :: es) X.env)).all (fun x => !x.1) = true := by
      have := nostar_all (pos := cpos) (env := X.env) h3
      rw [List.all_eq_not_any_not]
      simpa using this
    rw [e1]
    have e2 : decide ((e :: es).length + ([] : List Keyword).length + (if ([] : List Keyword).isEmpty then 0 else 1) < 30) = true := by simpa using h30
    rw [e2]
    rfl
  cases m with
  | index =>
    subst hn
    refine PE_imp (pe_bm PySem.F.plainAttrs_list PySem.F.slot_list_index PySem.F.type_list_index (mt_indexD (by have := G.room.un; omega)) ho he hb hf hl hs hp) fun σ H Q ⟨rho, s, sl, R, S, h⟩ => ?_
    simp only [ev] at h
    refine tI_imp (tI_seq R S h) fun v H1 ⟨rho1, s1, p, x1, R1, S1, V1, g1⟩ => ?_
    split at g1
    · rename_i hr
      cases p with
      | lst i =>
        simp only [VR] at V1
        obtain ⟨hi, rfl⟩ := V1
        simp only [recv] at hr
        obtain ⟨xs0, e0⟩ := Option.isSome_iff_exists.mp hr
        obtain ⟨vs0, t0, _⟩ := getL_ok R1 e0
        refine ⟨.inl ⟨rfl, vs0, t0⟩, ?_⟩
        refine args_read (f := fun vs s2 => evMeth .index (.lst i) vs s2) R1 S1 g1 fun vs H2 rho2 s2 ps x2 R2 S2 V2 g2 => ?_
        have hr2 : rho2 i = rho1 i := x2.eq i hi
        unfold evMeth at g2
        split at g2
        · rename_i j y _ e3
          cases e3
          obtain ⟨u, rfl, hu⟩ := one_vr V2
          split at g2
          · rename_i ds d f1 f2
            split at g2
            · rename_i hs2
              simp only [Bool.and_eq_true] at hs2
              split at g2
              · rename_i j ej
                obtain ⟨n, z, e1, e2, e3, e4⟩ := indexD_ok ej
                rw [Nat.zero_add] at e1
                subst e1
                have hl2 : i < s2.n := Nat.lt_of_lt_of_le hi x2.le
                have D1 := toD_ok R2 60 (.lst i) (.ref (rho2 i)) _ f1 (by simp only [VR]; exact ⟨hl2, trivial⟩)
                rw [hr2] at D1
                exact ⟨_, u, d, ds, j, z, rfl, rfl, D1, toD_ok R2 60 _ _ _ f2 hu, hs2.2, hs2.1, e2, e3, e4, g2.same R2 (by simp only [VR])⟩
              · exact g2.elim
            · exact g2.elim
          · exact g2.elim
        · exact g2.elim
      | _ => simp [recv] at hr
    · exact g1.elim
end
end FI

namespace FI
open PySem PySem.Spec PyProof.Rows L2

/-- what is walked by its number or its values, as the layer has it -/
def SeqJ (K : KW) (s0 : Sto) (rho0 : Nat → Addr) (H0 : Hp) (j : It) (b : Bool) (a : Addr) : Prop :=
  ∀ rho H s xs, Ext s0 rho0 rho H0 H s → RSt K rho H s → j.items s = some xs → ∃ vs, SqK K H b a vs ∧ VRs K s.n rho H xs vs
section
variable {K : KW} {s : Sto} {rho : Nat → Addr} {H : Hp}
theorem seqJ_of {p : PV} {v : V} {j : It} (R : RSt K rho H s) (e : seqIt s p = some j) (V1 : VR K s.n rho H p v) : ∃ b a, v = .ref a ∧ SeqJ K s rho H j b a := by
  cases p with
  | tup xs =>
    simp only [seqIt] at e
    cases e
    simp only [VR] at V1
    obtain ⟨a, vs, rfl, t, r⟩ := V1
    refine ⟨false, a, rfl, fun rho1 H1 s1 ys x R1 e1 => ?_⟩
    simp only [It.items] at e1
    cases e1
    exact ⟨vs, x.tup R t, x.vrs R r⟩
  | lst i =>
    simp only [seqIt] at e
    split at e
    · cases e
      simp only [VR] at V1
      obtain ⟨hi, rfl⟩ := V1
      refine ⟨true, rho i, rfl, fun rho1 H1 s1 ys x R1 e1 => ?_⟩
      simp only [It.items] at e1
      obtain ⟨vs, t, r⟩ := getL_ok R1 e1
      rw [x.eq i hi] at t
      exact ⟨vs, t, r⟩
    · cases e
  | _ => simp [seqIt] at e
theorem new_tup {a : Addr} {xs : List V} {ps : List PV} (R : RSt K rho H s) (hn : H a = none) (r : VRs K s.n rho H ps xs) : Ext s rho rho H (upd H a (.tup xs)) s ∧ RSt K rho (upd H a (.tup xs)) s ∧ VR K s.n rho (upd H a (.tup xs)) (.tup ps) (.ref a) :=
  ⟨.upd hn, R.upd hn, by simp only [VR]; exact ⟨a, xs, rfl, .inl (.inl upd_same), vrs_upd hn r⟩⟩
theorem jr_en {j : It} {b : Bool} {a : Addr} (J : SeqJ K s rho H j b a) : JR K s rho H (IteK K b a) (.en j) := by
  intro rho1 H1 s1 x R
  refine ⟨fun k p h => ?_, fun k h => ?_⟩
  · simp only [It.at] at h
    split at h
    · cases h
    · rename_i xs e
      obtain ⟨vs, t, r⟩ := J rho1 H1 s1 xs x R e
      split at h
      · rename_i q e1
        cases h
        obtain ⟨v, e2, e3⟩ := r.get e1
        refine ⟨⟨vs, v, t, e2⟩, fun y H' ⟨T, z, e4, hT, e5, e6⟩ => ?_⟩
        subst e4; subst e5
        have := e6 vs t
        rw [e2] at this
        cases this
        exact new_tup R hT (by simp only [VRs, VR]; exact ⟨_, _, rfl, rfl, v, [], rfl, e3, rfl⟩)
      · split at h <;> cases h
  · simp only [It.at] at h
    split at h
    · cases h
    · rename_i xs e
      obtain ⟨vs, t, r⟩ := J rho1 H1 s1 xs x R e
      split at h
      · cases h
      · split at h
        · rename_i e1
          exact ⟨vs, t, by rw [← r.len]; exact Nat.eq_of_beq_eq_true e1⟩
        · cases h
theorem jr_zp {j1 j2 : It} {b1 b2 : Bool} {a1 a2 : Addr} (J1 : SeqJ K s rho H j1 b1 a1) (J2 : SeqJ K s rho H j2 b2 a2) : JR K s rho H (Itz2K K b1 b2 a1 a2) (.zp j1 j2) := by
  intro rho1 H1 s1 x R
  refine ⟨fun k p h => ?_, fun k h => ?_⟩
  · simp only [It.at] at h
    split at h
    · rename_i xs ys e1 e2
      obtain ⟨vs, t, r⟩ := J1 rho1 H1 s1 xs x R e1
      obtain ⟨us, t2, r2⟩ := J2 rho1 H1 s1 ys x R e2
      split at h
      · rename_i q1 q2 g1 g2
        cases h
        obtain ⟨v, e3, e4⟩ := r.get g1
        obtain ⟨u, e5, e6⟩ := r2.get g2
        refine ⟨⟨vs, us, v, u, t, t2, e3, e5⟩, fun y H' ⟨T, z1, z2, f1, hT, f2, f3, f4⟩ => ?_⟩
        subst f1; subst f2
        have := f3 vs t
        rw [e3] at this
        cases this
        have := f4 us t2
        rw [e5] at this
        cases this
        exact new_tup R hT (by simp only [VRs]; exact ⟨_, _, rfl, e4, u, [], rfl, e6, rfl⟩)
      · split at h <;> cases h
    · cases h
  · simp only [It.at] at h
    split at h
    · rename_i xs ys e1 e2
      obtain ⟨vs, t, r⟩ := J1 rho1 H1 s1 xs x R e1
      obtain ⟨us, t2, r2⟩ := J2 rho1 H1 s1 ys x R e2
      split at h
      · cases h
      · split at h
        · rename_i e1
          exact ⟨vs, us, t, t2, by rw [← r.len, ← r2.len]; exact Nat.eq_of_beq_eq_true e1⟩
        · cases h
    · cases h
theorem jr_zp3 {j1 j2 j3 : It} {b1 b2 b3 : Bool} {a1 a2 a3 : Addr} (J1 : SeqJ K s rho H j1 b1 a1) (J2 : SeqJ K s rho H j2 b2 a2) (J3 : SeqJ K s rho H j3 b3 a3) : JR K s rho H (Itz3K K b1 b2 b3 a1 a2 a3) (.zp3 j1 j2 j3) := by
  intro rho1 H1 s1 x R
  refine ⟨fun k p h => ?_, fun k h => ?_⟩
  · simp only [It.at] at h
    split at h
    · rename_i xs ys zs e1 e2 e3
      obtain ⟨vs, t, r⟩ := J1 rho1 H1 s1 xs x R e1
      obtain ⟨us, t2, r2⟩ := J2 rho1 H1 s1 ys x R e2
      obtain ⟨ws, t3, r3⟩ := J3 rho1 H1 s1 zs x R e3
      split at h
      · rename_i q1 q2 q3 g1 g2 g3
        cases h
        obtain ⟨v, e4, e5⟩ := r.get g1
        obtain ⟨u, e6, e7⟩ := r2.get g2
        obtain ⟨w, e8, e9⟩ := r3.get g3
        refine ⟨⟨vs, us, ws, v, u, w, t, t2, t3, e4, e6, e8⟩, fun y H' ⟨T, z1, z2, z3, f1, hT, f2, f3, f4, f5⟩ => ?_⟩
        subst f1; subst f2
        have := f3 vs t
        rw [e4] at this
        cases this
        have := f4 us t2
        rw [e6] at this
        cases this
        have := f5 ws t3
        rw [e8] at this
        cases this
        exact new_tup R hT (by simp only [VRs]; exact ⟨_, _, rfl, e5, u, _, rfl, e7, w, [], rfl, e9, rfl⟩)
      · split at h <;> cases h
    · cases h
  · simp only [It.at] at h
    split at h
    · rename_i xs ys zs e1 e2 e3
      obtain ⟨vs, t, r⟩ := J1 rho1 H1 s1 xs x R e1
      obtain ⟨us, t2, r2⟩ := J2 rho1 H1 s1 ys x R e2
      obtain ⟨ws, t3, r3⟩ := J3 rho1 H1 s1 zs x R e3
      split at h
      · cases h
      · split at h
        · rename_i e1
          exact ⟨vs, us, ws, t, t2, t3, by rw [← r.len, ← r2.len, ← r3.len]; exact Nat.eq_of_beq_eq_true e1⟩
        · cases h
    · cases h
theorem seqK_any {j : It} {b : Bool} {a : Addr} {p : PV} {v : V} (R : RSt K rho H s) (e : seqIt s p = some j) (J : SeqJ K s rho H j b a) : ∃ xs, SqK K H b a xs := by
  have : ∃ xs, j.items s = some xs := by
    cases p with
    | tup xs => simp only [seqIt] at e; cases e; exact ⟨xs, rfl⟩
    | lst i =>
      simp only [seqIt] at e
      split at e
      · rename_i xs g; cases e; exact ⟨xs, g⟩
      · cases e
    | _ => simp [seqIt] at e
  obtain ⟨xs, h⟩ := this
  obtain ⟨vs, t, _⟩ := J rho H s xs .refl R h
  exact ⟨vs, t⟩
end
section
variable {cl : Cls0} {T : Tab} {call : Nat → List PV → Sto → Res PV} {k : Nat} {N : List Str} {sc : Scope} {W : WX} {X : Cx}
theorem i_enum (G : Good cl T call k N sc W X) {elts : List Expr} {kk : Nat} {tpos : Pos} {e : Expr} {x : Str} {p q : Pos} {c : E} (hx : x = "enumerate") (hg : glB sc x = true) (hn : nostar e = true) (he : PE X e (tI X.kw cl W T call c)) : PI X (.Tuple elts kk tpos) (.Call (.Name x p) [e] [] q) (tII X.kw cl W T call (.ienum c)) := by
  have hm : X.mg x = none := G.facts.blt x (by rw [hx]; decide +kernel)
  obtain ⟨g1, _⟩ := glB_ok G hg
  subst hx
  refine PI_imp (pi_enumK g1 hm (pa_cons he pa_nil (nostar_ok hn)) (nostar_ok hn)) fun σ H R ⟨rho, s, sl, RS, S, h⟩ => ?_
  simp only [evI] at h
  refine ⟨rho, s, sl, RS, S, ?_⟩
  cases e1 : ev T call c sl s with
  | bad => simp only [e1, Res.bind] at h
  | exc d fs s1 => simp only [e1, Res.bind] at h; exact h
  | ok p s1 =>
    simp only [e1, Res.bind] at h
    intro rho1 H1 v x1 R1 V1
    cases e2 : seqIt s1 p with
    | none => simp only [e2] at h
    | some j =>
      simp only [e2] at h
      obtain ⟨b, a, rfl, J⟩ := seqJ_of R1 e2 V1
      obtain ⟨xs, t⟩ := seqK_any (v := .non) R1 e2 J
      exact ⟨b, a, xs, rfl, t, h rho1 H1 _ x1 R1 (jr_en J)⟩
theorem i_zip2 (G : Good cl T call k N sc W X) {elts : List Expr} {kk : Nat} {tpos : Pos} {e e2 : Expr} {x : Str} {p q : Pos} {c : E} (hx : x = "zip") (hg : glB sc x = true) (hn : [e, e2].all nostar = true) (ha : PA X [e, e2] (tIA X.kw cl W T call c)) : PI X (.Tuple elts kk tpos) (.Call (.Name x p) [e, e2] [] q) (tII X.kw cl W T call (.izip c)) := by
  have hm : X.mg x = none := G.facts.blt x (by rw [hx]; decide +kernel)
  obtain ⟨g1, _⟩ := glB_ok G hg
  subst hx
  simp only [List.all_cons, Bool.and_eq_true] at hn
  refine PI_imp (pi_zip2K g1 hm ha (nostar_ok hn.1) (nostar_all (by simp [hn.2.1]))) fun σ H R ⟨rho, s, sl, RS, S, h⟩ => ?_
  simp only [evI] at h
  refine ⟨rho, s, sl, RS, S, ?_⟩
  cases e1 : ev T call c sl s with
  | bad => simp only [e1, Res.bind] at h
  | exc d fs s1 => simp only [e1, Res.bind] at h; exact h
  | ok p s1 =>
    simp only [e1, Res.bind] at h
    cases p with
    | tup ps =>
      intro rho1 H1 vs x1 R1 V1
      cases ps with
      | nil => exact h.elim
      | cons p1 ps =>
        cases ps with
        | nil => exact h.elim
        | cons p2 ps =>
          cases ps with
          | nil =>
            dsimp only at h
            simp only [VRs] at V1
            obtain ⟨v1, _, rfl, V1, v2, _, rfl, V2, rfl⟩ := V1
            cases ez : zip2 s1 p1 p2 with
            | none => simp only [ez] at h
            | some j =>
              simp only [ez] at h
              unfold zip2 at ez
              split at ez
              · rename_i j1 j2 f1 f2
                cases ez
                obtain ⟨b1, a1, rfl, J1⟩ := seqJ_of R1 f1 V1
                obtain ⟨b2, a2, rfl, J2⟩ := seqJ_of R1 f2 V2
                obtain ⟨xs, t1⟩ := seqK_any (v := .non) R1 f1 J1
                obtain ⟨ys, t2⟩ := seqK_any (v := .non) R1 f2 J2
                exact ⟨b1, b2, a1, a2, xs, ys, rfl, t1, t2, h rho1 H1 _ x1 R1 (jr_zp J1 J2)⟩
              · cases ez
          | cons p3 ps => exact h.elim
    | _ => exact h.elim
theorem i_zip3 (G : Good cl T call k N sc W X) {elts : List Expr} {kk : Nat} {tpos : Pos} {e e2 e3 : Expr} {x : Str} {p q : Pos} {c : E} (hx : x = "zip") (hg : glB sc x = true) (hn : [e, e2, e3].all nostar = true) (ha : PA X [e, e2, e3] (tIA X.kw cl W T call c)) : PI X (.Tuple elts kk tpos) (.Call (.Name x p) [e, e2, e3] [] q) (tII X.kw cl W T call (.izip3 c)) := by
  have hm : X.mg x = none := G.facts.blt x (by rw [hx]; decide +kernel)
  obtain ⟨g1, _⟩ := glB_ok G hg
  subst hx
  simp only [List.all_cons, Bool.and_eq_true] at hn
  refine PI_imp (pi_zip3K g1 hm ha (nostar_ok hn.1) (nostar_all (by simp [hn.2.1, hn.2.2.1]))) fun σ H R ⟨rho, s, sl, RS, S, h⟩ => ?_
  simp only [evI] at h
  refine ⟨rho, s, sl, RS, S, ?_⟩
  cases e1 : ev T call c sl s with
  | bad => simp only [e1, Res.bind] at h
  | exc d fs s1 => simp only [e1, Res.bind] at h; exact h
  | ok p s1 =>
    simp only [e1, Res.bind] at h
    cases p with
    | tup ps =>
      intro rho1 H1 vs x1 R1 V1
      cases ps with
      | nil => exact h.elim
      | cons p1 ps =>
        cases ps with
        | nil => exact h.elim
        | cons p2 ps =>
          cases ps with
          | nil => exact h.elim
          | cons p3 ps =>
            cases ps with
            | cons p4 ps => exact h.elim
            | nil =>
              dsimp only at h
              simp only [VRs] at V1
              obtain ⟨v1, _, rfl, V1, v2, _, rfl, V2, v3, _, rfl, V3, rfl⟩ := V1
              cases ez : zip3 s1 p1 p2 p3 with
              | none => simp only [ez] at h
              | some j =>
                simp only [ez] at h
                unfold zip3 at ez
                split at ez
                · rename_i j1 j2 j3 f1 f2 f3
                  cases ez
                  obtain ⟨b1, a1, rfl, J1⟩ := seqJ_of R1 f1 V1
                  obtain ⟨b2, a2, rfl, J2⟩ := seqJ_of R1 f2 V2
                  obtain ⟨b3, a3, rfl, J3⟩ := seqJ_of R1 f3 V3
                  obtain ⟨xs, t1⟩ := seqK_any (v := .non) R1 f1 J1
                  obtain ⟨ys, t2⟩ := seqK_any (v := .non) R1 f2 J2
                  obtain ⟨zs, t3⟩ := seqK_any (v := .non) R1 f3 J3
                  exact ⟨b1, b2, b3, a1, a2, a3, xs, ys, zs, rfl, t1, t2, t3, h rho1 H1 _ x1 R1 (jr_zp3 J1 J2 J3)⟩
                · cases ez
    | _ => exact h.elim
/-! ### t[::-1] -/
theorem pick_rev (items : Array Value) : ((List.range items.size).filterMap fun (k : Nat) => items[(((items.size : Int) - 1) + (k : Int) * (-1)).toNat]?).toArray = items.toList.reverse.toArray := by
  congr 1
  apply List.ext_getElem?
  intro i
  have e : ∀ k ∈ List.range items.size, items[(((items.size : Int) - 1) + (k : Int) * (-1)).toNat]? = some (items.toList.reverse.getD k .none) := fun k hk => by
    have hk := List.mem_range.mp hk
    have e1 : (((items.size : Int) - 1) + (k : Int) * (-1)).toNat = items.size - 1 - k := by omega
    rw [e1, List.getD_eq_getElem?_getD, List.getElem?_reverse (by simpa using hk), Array.length_toList, Array.getElem?_toList]
    have : items.size - 1 - k < items.size := by omega
    simp [this]
  have e2 : (List.range items.size).filterMap (fun (k : Nat) => items[(((items.size : Int) - 1) + (k : Int) * (-1)).toNat]?) = (List.range items.size).map fun k => items.toList.reverse.getD k .none := by
    generalize List.range items.size = l at e
    induction l with
    | nil => rfl
    | cons a l ih =>
      rw [List.filterMap_cons, e a List.mem_cons_self, List.map_cons, ih fun k hk => e k (List.mem_cons_of_mem _ hk)]
  rw [e2, List.getElem?_map]
  by_cases h : i < items.size
  · rw [List.getElem?_range h, Option.map_some, List.getD_eq_getElem?_getD]
    have : i < items.toList.reverse.length := by simpa using h
    rw [List.getElem?_eq_getElem this]; rfl
  · rw [List.getElem?_eq_none (by simpa using h), List.getElem?_eq_none (by simpa using h)]; rfl
theorem sliceApplied_rev {prog : Program} {w : World} {A : Around} {E : Value → Shared → Prop} {s : Shared} {sl : Addr} {vl vu vs : Value} {n : Nat} {Q : Int × Int × Nat → Shared → Prop} (hs : s.heap.IsSliceOf sl vl vu vs) (pl : IsPart vl none) (pu : IsPart vu none) (ps : IsPart vs (some (-1)))
    (h : Q ((n : Int) - 1, -1, n) s) : wpAny (model prog w) A (Builtin.Slice.sliceApplied (.ref sl) (pure (n : Int))) Q E s := by
  obtain ⟨os, hos, hcs, hds⟩ := id hs
  unfold Builtin.Slice.sliceApplied Builtin.Slice.sliceFields
  refine wpAny_bind (wpAny_bind (wpAny_field hos hds (x := vl) rfl (wpAny_bind (wpAny_field hos hds (x := vu) rfl (wpAny_bind (wpAny_field hos hds (x := vs) rfl (wpAny_pure ?_)))))))
  refine wpAny_bind (HT.slicePart_ ps ?_)
  show wpAny _ _ (if ((-1 : Int) == 0) = true then _ else _) _ _ s
  rw [if_neg (by decide)]
  refine wpAny_bind (HT.slicePart_ pl (wpAny_bind (HT.slicePart_ pu (wpAny_bind (wpAny_pure ?_)))))
  have e : Builtin.Slice.slicePlaces ((n : Int) - 1) (-1) (-1) = n := by
    unfold Builtin.Slice.slicePlaces
    rw [if_neg (by decide)]
    by_cases h : (n : Int) - 1 > -1
    · rw [if_pos h, show (- -1 : Int) = 1 by decide, Int.ediv_one]; omega
    · rw [if_neg h]; omega
  show wpAny _ _ (pure ((n : Int) - 1, (-1 : Int), Builtin.Slice.slicePlaces ((n : Int) - 1) (-1) (-1))) _ _ s
  rw [e]
  exact wpAny_pure h
theorem getItem_tuple_rev {prog : Program} {w : World} {A : Around} {E : Value → Shared → Prop} {s : Shared} {t sl : Addr} {items : Array Value} {vl vu vs : Value} {Q : Value → Shared → Prop} (ht : IsTup s.heap t items) (hs : s.heap.IsSliceOf sl vl vu vs) (pl : IsPart vl none) (pu : IsPart vu none) (ps : IsPart vs (some (-1)))
    (h : Q (.ref s.heap.objs.size) { s with heap := s.heap.push { cls := .type "tuple", data := .seq items.toList.reverse.toArray } }) (hz : items.size ≤ sizeLine) : wpAny (model prog w) A (getItem (.ref t) (.ref sl)) Q E s := by
  obtain ⟨os, hos, hcs, hds⟩ := id hs
  have hTs : s.TypeIs (.ref sl) "slice" := ⟨os, hos, hcs⟩
  unfold getItem
  try with_reducible refine wpAny_holding ?_
  first | refine wpAny_bind (wpAny_pure ?_) | skip
  refine wpAny_bind (wpAny_sequenceKey ht.typeIs (by decide) ?_)
  refine wpAny_bind (wpAny_callSpecial?_slot (name := Str.ofString "__getitem__") ht.typeIs PyProof.Rows.slot_tuple_getitem
    (wpAny_call_entry PyProof.Rows.slot_tuple_getitem ht.typeIs entry_tuple_getitem ?_ (args_tuple_getitem _ _)))
  show wpAny _ _ (Builtin.Tuple.tupleItemsOf (.ref t) >>= _) _ _ s
  refine wpAny_bind (tupleItemsOf_ ht ?_)
  refine wpAny_bind (wpAny_typeOf hTs ?_)
  rw [if_pos (by decide)]
  refine wpAny_bind (sliceApplied_rev hs pl pu ps ?_)
  show wpAny _ _ (if (((items.size : Int) - 1 == 0 && (-1 : Int) == 1 && items.size == items.size) = true) then _ else _) _ _ s
  rw [if_neg (by simp), pick_rev]
  have htake : items.toList.reverse.toArray.size ≤ sizeLine := by simpa using hz
  first
    | exact wpAny_bind (m := Builtin.Tuple.tupleExact _) (wpAny_newObj_type (wpAny_pure ⟨_, rfl, wpAny_pure h⟩) htake)
    | exact wpAny_bind (m := Builtin.Tuple.tupleExact _) (wpAny_newObj_type (wpAny_bind (wpAny_pure (wpAny_pure ⟨_, rfl, wpAny_pure h⟩))) htake)
    | exact wpAny_bind (wpAny_bind (m := Builtin.Tuple.tupleExact _) (wpAny_newObj_type (wpAny_pure (wpAny_pure ⟨_, rfl, wpAny_pure h⟩)) htake))
    | exact wpAny_bind (wpAny_bind (m := Builtin.Tuple.tupleExact _) (wpAny_newObj_type (wpAny_pure ⟨_, rfl, wpAny_pure h⟩) htake))
def tRevT (K : KW) (te : TE) : TE := fun σ H Q => te σ H fun x H1 => ∃ a xs, x = .ref a ∧ SqT K H1 a xs ∧ ∀ p, H1 p = none → Q (.ref p) (upd H1 p (.tup xs.reverse))
theorem pe_revT {e : Expr} {te : TE} {k : Nat} {p1 p2 p3 pos : Pos} (he : PE X e te) : PE X (.Subscript e (.Slice none none (some (.UnaryOp .USub (.Constant (.int 1) k p1) p2)) p3) pos) (tRevT X.kw te) := by
  refine ⟨fun pins s σ H Q I h => ?_⟩
  refine Subscript_ (thn (he.run pins s σ H _ I h) fun v s1 ⟨x, H1, I1, r1, q1⟩ => ?_)
  obtain ⟨a, xs, ex, hx, q⟩ := q1
  subst ex
  cases r1
  have hst : PO X (some (.UnaryOp .USub (.Constant (.int 1) k p1) p2)) (tPart (tUn (rU fun i => .int (-i)) (tC (.int 1)))) := po_some (pe_un un_neg pe_int)
  refine wpAny_Slice (thn (po_none.run pins s1 σ H1 (fun o H2 => o = none ∧ H2 = H1) I1 ⟨rfl, rfl⟩) fun vl s2 ⟨l, H2, I2, pl, el, e2⟩ => ?_)
  subst el e2
  refine thn (po_none.run pins s2 σ H2 (fun o H3 => o = none ∧ H3 = H2) I2 ⟨rfl, rfl⟩) fun vu s3 ⟨u, H3, I3, pu, eu, e3⟩ => ?_
  subst eu e3
  refine thn (hst.run pins s3 σ H3 (fun o H4 => o = some (-1) ∧ H4 = H3) I3 ⟨1, rfl, -1, rfl, rfl, rfl⟩) fun vs s4 ⟨o, H4, I4, ps, eo, e4⟩ => ?_
  subst eo e4
  have I5 : Inv X pins σ H4 { s4 with heap := s4.heap.push { cls := .type "slice", data := .fields #[vl, vu, vs] } } := I4.kept (t' := s4.toks) fun b ob q => Heap.get?_push_of_some _ q
  obtain ⟨its, r, ht, hz⟩ := I5.tuple hx
  have hlen := r.length
  show wpAny (model X.prog X.w) X.A (subscriptTail e (.Slice none none (some (.UnaryOp .USub (.Constant (.int 1) k p1) p2)) p3) (.ref a) (.ref s4.heap.objs.size)) (EP X pins σ Q) X.xe { s4 with heap := s4.heap.push { cls := .type "slice", data := .fields #[vl, vu, vs] } }
  refine tail_any (ops := [.ref a, .ref s4.heap.objs.size]) ht.typeIs (PyProof.Rows.slot_tuple_getitem.lookup) ?_ (by with_unfolding_all rfl)
  refine getItem_tuple_rev ht (Heap.IsSliceOf.new _ vl vu vs) pl pu ps ?_ (by rw [List.size_toArray]; omega)
  refine ⟨.ref _, _, I5.laid (t' := s4.toks) (o := .tup xs.reverse) (fun b ob q => Heap.get?_push_of_some _ q) (Nat.le_refl _) ?_, rfl, q _ (I5.hok.fresh (Nat.le_refl _))⟩
  exact ⟨by rw [List.length_reverse]; exact hz, _, r.reverse, IsTup.new _ _⟩
theorem VRs.rev {K : KW} {n : Nat} {rho : Nat → Addr} {H : Hp} : ∀ {ps : List PV} {vs : List V}, VRs K n rho H ps vs → VRs K n rho H ps.reverse vs.reverse
  | [], vs, h => by simp only [VRs] at h; subst h; simp [VRs]
  | p :: ps, vs, h => by
    simp only [VRs] at h
    obtain ⟨v, r, rfl, h1, h2⟩ := h
    rw [List.reverse_cons, List.reverse_cons]
    exact (VRs.rev h2).app (by simp only [VRs]; exact ⟨v, [], rfl, h1, rfl⟩)
theorem g_rev {e : Expr} {c : E} {k : Nat} {p1 p2 p3 pos : Pos} (he : PE X e (tI X.kw cl W T call c)) : PE X (.Subscript e (.Slice none none (some (.UnaryOp .USub (.Constant (.int 1) k p1) p2)) p3) pos) (tI X.kw cl W T call (.rev c)) :=
  PE_imp (pe_revT he) fun σ H Q ⟨rho, s, sl, R, S, h⟩ => by
    simp only [ev] at h
    refine tI_imp (tI_seq R S h) fun v H1 ⟨rho1, s1, p, x1, R1, S1, V1, g1⟩ => ?_
    cases p with
    | tup xs =>
      dsimp only at g1
      split at g1
      · simp only [VR] at V1
        obtain ⟨a, vs, rfl, t, r⟩ := V1
        exact ⟨a, vs, rfl, t, fun q hq => g1.tup R1 r.rev hq⟩
      · exact g1.elim
    | _ => exact g1.elim
end
end FI

namespace FI
open PySem PySem.Spec PyProof.Rows L2

theorem VRs.set {K : KW} {n : Nat} {rho : Nat → Addr} {H : Hp} {p : PV} {v : V} : ∀ {ps : List PV} {vs : List V} (_ : VRs K n rho H ps vs) (j : Nat) (_ : VR K n rho H p v), VRs K n rho H (ps.set j p) (vs.set j v)
  | [], vs, h, j, _ => by simp only [VRs] at h; subst h; simp [VRs]
  | q :: ps, vs, h, 0, hv => by
    simp only [VRs] at h
    obtain ⟨u, r, rfl, h1, h2⟩ := h
    simp only [List.set_cons_zero, VRs]
    exact ⟨v, r, rfl, hv, h2⟩
  | q :: ps, vs, h, j + 1, hv => by
    simp only [VRs] at h
    obtain ⟨u, r, rfl, h1, h2⟩ := h
    simp only [List.set_cons_succ, VRs]
    exact ⟨u, r.set j v, rfl, h1, VRs.set h2 j hv⟩
/-- what is wanted of a statement's end -/
def PostS (K : KW) (cl : Cls0) (W : WX) (rho : Nat → Addr) (s : Sto) (H : Hp) (r : Res Fl) (D : Ends) : Prop := match r with
  | .ok (.nx sl) s' => ∀ rho' H' σ', Ext s rho rho' H H' s' → RSt K rho' H' s' → SlR K s'.n rho' H' sl σ' → D.nx σ' H'
  | .ok (.bk sl) s' => ∀ rho' H' σ', Ext s rho rho' H H' s' → RSt K rho' H' s' → SlR K s'.n rho' H' sl σ' → D.bk σ' H'
  | .ok (.ct sl) s' => ∀ rho' H' σ', Ext s rho rho' H H' s' → RSt K rho' H' s' → SlR K s'.n rho' H' sl σ' → D.ct σ' H'
  | .ok (.rt p) s' => ∀ rho' H' v, Ext s rho rho' H H' s' → RSt K rho' H' s' → VR K s'.n rho' H' p v → D.rt v H'
  | .exc c fs s' => ∃ C names, cl c = some (C, names) ∧ ∀ rho' H' d vs σ', Ext s rho rho' H H' s' → RSt K rho' H' s' → H' d = some (.xd (names.zip vs)) → VRs K s'.n rho' H' fs vs → W (.ref C) (some d) σ' H'
  | .bad => False
def tS (K : KW) (cl : Cls0) (W : WX) (T : Tab) (call : Nat → List PV → Sto → Res PV) (c : E) : TS := fun D σ H =>
  ∃ rho s sl, RSt K rho H s ∧ SlR K s.n rho H sl σ ∧ PostS K cl W rho s H (ex T call c sl s) D
section
variable {K : KW} {cl : Cls0} {W : WX} {σ : L2.St} {rho rho' : Nat → Addr} {s s' : Sto} {H H' : Hp} {D D' : Ends} {sl : Sl} {T : Tab} {call : Nat → List PV → Sto → Res PV}
theorem PostS.later {r : Res Fl} (h : PostS K cl W rho s H r D) (x : Ext s rho rho' H H' s') (R : RSt K rho H s) (R' : RSt K rho' H' s') : PostS K cl W rho' s' H' r D := by
  cases r with
  | ok f s2 =>
    cases f with
    | nx sl => exact fun rho2 H2 v y r2 vr => h rho2 H2 v (x.trans y R R') r2 vr
    | bk sl => exact fun rho2 H2 v y r2 vr => h rho2 H2 v (x.trans y R R') r2 vr
    | ct sl => exact fun rho2 H2 v y r2 vr => h rho2 H2 v (x.trans y R R') r2 vr
    | rt p => exact fun rho2 H2 v y r2 vr => h rho2 H2 v (x.trans y R R') r2 vr
  | exc c fs s2 =>
    obtain ⟨C, names, e, h⟩ := h
    exact ⟨C, names, e, fun rho2 H2 d vs σ' y r2 => h rho2 H2 d vs σ' (x.trans y R R') r2⟩
  | bad => exact h
/-- an expression, then the rest -/
theorem tS_seq {c : E} {f : PV → Sto → Res Fl} {Q : VK} (R : RSt K rho H s) (S : SlR K s.n rho H sl σ) (h : PostS K cl W rho s H ((ev T call c sl s).bind f) D)
    (i : ∀ v H1 rho1 s1 p, Ext s rho rho1 H H1 s1 → RSt K rho1 H1 s1 → SlR K s1.n rho1 H1 sl σ → VR K s1.n rho1 H1 p v → PostS K cl W rho1 s1 H1 (f p s1) D → Q v H1) : tI K cl W T call c σ H Q := by
  refine ⟨rho, s, sl, R, S, ?_⟩
  cases e : ev T call c sl s with
  | ok p s1 =>
    rw [e] at h
    exact fun rho1 H1 v x r vr => i v H1 rho1 s1 p x r (S.mono x R) vr (h.later x R r)
  | exc d fs s1 =>
    rw [e] at h
    obtain ⟨C, names, e1, h⟩ := h
    exact ⟨C, names, e1, fun rho1 H1 d vs x r => h rho1 H1 d vs σ x r⟩
  | bad => rw [e] at h; exact h
theorem tSA_seq {c : E} {f : List PV → Sto → Res Fl} {Q : List V → Hp → Prop} (R : RSt K rho H s) (S : SlR K s.n rho H sl σ) (h : PostS K cl W rho s H ((ev T call c sl s).bind fun x s1 => match x with | .tup vs => f vs s1 | _ => .bad) D)
    (i : ∀ vs H1 rho1 s1 ps, Ext s rho rho1 H H1 s1 → RSt K rho1 H1 s1 → SlR K s1.n rho1 H1 sl σ → VRs K s1.n rho1 H1 ps vs → PostS K cl W rho1 s1 H1 (f ps s1) D → Q vs H1) : tIA K cl W T call c σ H Q := by
  refine ⟨rho, s, sl, R, S, ?_⟩
  cases e : ev T call c sl s with
  | ok p s1 =>
    rw [e] at h
    cases p with
    | tup ps => exact fun rho1 H1 vs x r vr => i vs H1 rho1 s1 ps x r (S.mono x R) vr (PostS.later (s' := s1) h x R r)
    | _ => exact h
  | exc d fs s1 =>
    rw [e] at h
    obtain ⟨C, names, e1, h⟩ := h
    exact ⟨C, names, e1, fun rho1 H1 d vs x r => h rho1 H1 d vs σ x r⟩
  | bad => rw [e] at h; exact h
end

section
variable {cl : Cls0} {T : Tab} {call : Nat → List PV → Sto → Res PV} {k : Nat} {N : List Str} {sc : Scope} {W : WX} {X : Cx}
theorem PS_imp {st : Stmt} {t t' : TS} (h : PS X st t) (i : ∀ D σ H, t' D σ H → t D σ H) : PS X st t' := ⟨fun pins s σ H D I q => h.run pins s σ H D I (i D σ H q)⟩
theorem PSs_imp {st : List Stmt} {t t' : TS} (h : PSs X st t) (i : ∀ D σ H, t' D σ H → t D σ H) : PSs X st t' := ⟨fun pins s σ H D I q => h.run pins s σ H D I (i D σ H q)⟩
theorem b_nil : PSs X [] (tS X.kw cl W T call .skip) :=
  PSs_imp pss_nil fun D σ H ⟨rho, s, sl, R, S, h⟩ => by
    simp only [ex] at h
    exact h rho H σ .refl R S
theorem b_cons {st : Stmt} {rest : List Stmt} {a r : E} (h1 : PS X st (tS X.kw cl W T call a)) (h2 : PSs X rest (tS X.kw cl W T call r)) : PSs X (st :: rest) (tS X.kw cl W T call (.seq a r)) :=
  PSs_imp (pss_cons h1 h2) fun D σ H ⟨rho, s, sl, R, S, h⟩ => by
    simp only [ex] at h
    refine ⟨rho, s, sl, R, S, ?_⟩
    cases e : ex T call a sl s with
    | bad => simp only [e] at h; exact h
    | exc c fs s1 => simp only [e] at h; exact h
    | ok f s1 =>
      cases f with
      | nx sl1 =>
        simp only [e] at h
        exact fun rho1 H1 σ1 x R1 S1 => ⟨rho1, s1, sl1, R1, S1, PostS.later (s' := s1) h x R R1⟩
      | rt p => simp only [e] at h; exact h
      | bk sl1 => simp only [e] at h; exact h
      | ct sl1 => simp only [e] at h; exact h
theorem s_never {st : Stmt} : PS X st (tS X.kw cl W T call .never) := PS_imp ps_never fun D σ H ⟨rho, s, sl, R, S, h⟩ => by simp only [ex] at h; exact h
theorem s_ret {e : Expr} {c : E} {p : Pos} (he : PE X e (tI X.kw cl W T call c)) : PS X (.Return (some e) p) (tS X.kw cl W T call (.ret c)) :=
  PS_imp (ps_ret he) fun D σ H ⟨rho, s, sl, R, S, h⟩ => by
    simp only [ex] at h
    exact tS_seq R S h fun v H1 rho1 s1 p x1 R1 S1 V1 g => g rho1 H1 v .refl R1 V1
theorem s_retN {p : Pos} : PS X (.Return none p) (tS X.kw cl W T call .retN) :=
  PS_imp ps_retN fun D σ H ⟨rho, s, sl, R, S, h⟩ => by
    simp only [ex] at h
    exact h rho H .non .refl R (by simp only [VR])
theorem s_pass {p : Pos} : PS X (.Pass p) (tS X.kw cl W T call .pass) :=
  PS_imp ps_pass fun D σ H ⟨rho, s, sl, R, S, h⟩ => by simp only [ex] at h; exact h rho H σ .refl R S
theorem s_cont {p : Pos} : PS X (.Continue p) (tS X.kw cl W T call .cont) :=
  PS_imp ps_continue fun D σ H ⟨rho, s, sl, R, S, h⟩ => by simp only [ex] at h; exact h rho H σ .refl R S
theorem s_brk {p : Pos} : PS X (.Break p) (tS X.kw cl W T call .brk) :=
  PS_imp ps_break fun D σ H ⟨rho, s, sl, R, S, h⟩ => by simp only [ex] at h; exact h rho H σ .refl R S
def noComp : Expr → Bool
  | .ListComp .. => false
  | .SetComp .. => false
  | .DictComp .. => false
  | _ => true
theorem noComp_ok {e : Expr} {t : Option Expr} {l : Nat} {env : Env} (h : noComp e = true) : swapsWith e t l env = pure false := by
  cases e <;> first | rfl | cases h
theorem noComp_sole {e : Expr} {t : Expr} {l : Nat} {env : Env} (h : noComp e = true) : swapsWithSole [t] e l env = pure false := by
  unfold swapsWithSole
  exact noComp_ok h
theorem s_expr {e : Expr} {c : E} {p : Pos} (hn : noComp e = true) (he : PE X e (tI X.kw cl W T call c)) : PS X (.Expr e p) (tS X.kw cl W T call (.expr c)) :=
  PS_imp (ps_expr he (noComp_ok hn)) fun D σ H ⟨rho, s, sl, R, S, h⟩ => by
    simp only [ex] at h
    exact tS_seq R S h fun v H1 rho1 s1 p x1 R1 S1 V1 g => g rho1 H1 σ .refl R1 S1
theorem s_if {t : Expr} {a b : List Stmt} {cc ca cb : E} {p : Pos} (ht : PT X t (tIT X.kw cl W T call cc)) (ha : PSs X a (tS X.kw cl W T call ca)) (hb : PSs X b (tS X.kw cl W T call cb)) : PS X (.If t a b p) (tS X.kw cl W T call (.sif cc ca cb)) :=
  PS_imp (ps_if ht ha hb) fun D σ H ⟨rho, s, sl, R, S, h⟩ => by
    simp only [ex] at h
    refine tS_seq R S h fun v H1 rho1 s1 p x1 R1 S1 V1 g => ?_
    cases p with
    | bl b =>
      simp only [VR] at V1
      refine ⟨b, V1, ?_⟩
      cases b with
      | true => exact ⟨rho1, s1, sl, R1, S1, g⟩
      | false => exact ⟨rho1, s1, sl, R1, S1, g⟩
    | _ => exact g.elim
/-! ### stores -/
theorem swC_ok {y : Str} {elt : Expr} {gs : List Comprehension} {scope : Scope} {pos py : Pos} {l : Nat} {env : Env} (h : env.scope.names.lookup y = some .cell) : swapsWith (.ListComp elt gs scope pos) (some (.Name y py)) l env = pure false := by
  have ky : env.kindOf y = some .cell := h
  unfold swapsWith
  simp only [ky]
  have e : (some NameKind.cell == some NameKind.local) = false := by decide
  rw [e]
  simp only [Bool.and_false, Bool.false_and]
theorem tS_set {g e : E} {D : Ends} {σ : L2.St} {H : Hp} (h : tS X.kw cl W T call (.set g e) D σ H) : tAsg (tI X.kw cl W T call e) (tG X.kw g) D σ H := by
  obtain ⟨rho, s, sl, R, S, h⟩ := h
  simp only [ex] at h
  refine tS_seq R S h fun v H1 rho1 s1 p x1 R1 S1 V1 q => ?_
  split at q
  · rename_i sl1 e1
    exact ⟨rho1, s1, sl, p, sl1, R1, S1, V1, e1, fun σ' S' _ _ => q rho1 H1 σ' .refl R1 S'⟩
  · exact q.elim
def isTup : Expr → Bool
  | .Tuple .. => true
  | .List .. => true
  | _ => false
theorem swN_ok {tg e : Expr} {env : Env} (h : (isTup tg && isTup e) = false) : swappedStores [tg] e env = pure none := by
  cases tg <;> cases e <;> first | rfl | cases h
theorem one_store {tg : Expr} {env : Env} (h : nostar tg = true) : (assignEach [tg] env).map (·.2) = [assign tg env] := by
  cases tg <;> first | rfl | cases h
theorem s_set {tg e : Expr} {cg ce : E} {p : Pos} (hn : noComp e = true) (hw : swappedStores [tg] e X.env = pure none) (hs : nostar tg = true) (he : PE X e (tI X.kw cl W T call ce)) (hg : PG X tg (tG X.kw cg)) : PS X (.Assign [tg] e p) (tS X.kw cl W T call (.set cg ce)) :=
  PS_imp (ps_asg he hg (noComp_ok hn) hw (one_store hs)) fun D σ H h => tS_set h
/-- name = [..], the name a cell -/
theorem s_setX {y : Str} {elt : Expr} {gs : List Comprehension} {scope : Scope} {cg ce : E} {p py pos : Pos} (hc : X.env.scope.names.lookup y = some .cell) (he : PE X (.ListComp elt gs scope pos) (tI X.kw cl W T call ce)) (hg : PG X (.Name y py) (tG X.kw cg)) : PS X (.Assign [.Name y py] (.ListComp elt gs scope pos) p) (tS X.kw cl W T call (.set cg ce)) :=
  PS_imp (ps_asg he hg (swC_ok (l := p.line) hc) rfl rfl) fun D σ H h => tS_set h
theorem s_setC {st : Stmt} {i : Nat} {c : E} (h : PS X st (tAsg (tI X.kw cl W T call c) (gName i))) : PS X st (tS X.kw cl W T call (.setC i c)) :=
  PS_imp h fun D σ H ⟨rho, s, sl, R, S, h⟩ => by
    simp only [ex] at h
    exact tS_seq R S h fun v H1 rho1 s1 p x1 R1 S1 V1 q => q rho1 H1 _ .refl R1 (slR_set S1 V1)
/-! a, b = x, y -/
def nameIn (sc : Scope) (ts : List Expr) : Expr → Option Str
  | .Name id pos => if sc.names.lookup id == some .local && pos.line == (ts.head?.map (·.pos.line)).getD 0 then some id else none
  | _ => none
def namesIn (sc : Scope) (ts : List Expr) : List Str := ts.filterMap (nameIn sc ts)
def swP (sc : Scope) (ts vs : List Expr) : Option (Option (List Str)) :=
  if sc.kind != .function then none else
  if !(ts.length == 2 || ts.length == 3) || vs.length != ts.length then some none else
  if vs.any (fun e => !nostar e) then some none else
  if (namesIn sc ts).length != ts.length || (namesIn sc ts).eraseDups.length != (namesIn sc ts).length then some none else
  if vs.all (foldedForSure 8) then some none else
  if vs.all (constantsAlone 8) then none else some (some (namesIn sc ts))
theorem swP_ok {ts vs : List Expr} {env : Env} {r : Option (List Str)} {a c : Nat} {b d : Pos} (h : swP env.scope ts vs = some r) : swappedStores [.Tuple ts a b] (.Tuple vs c d) env = pure r := by
  unfold swP at h
  split at h
  · cases h
  · rename_i h1
    have hk : env.blockKind = .function := by
      have : env.scope.kind = .function := by simpa using h1
      unfold Env.blockKind
      rw [this]
      rfl
    have hn : ∀ f : Expr → Option Str, (∀ e, f e = nameIn env.scope ts e) → ts.filterMap f = namesIn env.scope ts := fun f hf => by
      unfold namesIn
      congr 1
      funext e
      exact hf e
    have hst : ∀ f : Expr → Bool, (∀ e, f e = !nostar e) → vs.any f = vs.any (fun e => !nostar e) := fun f hf => by
      congr 1
      funext e
      exact hf e
    unfold swappedStores
    simp only [hk]
    rw [hst _ (by intro e; cases e <;> rfl)]
    split at h
    · rename_i h2
      cases h
      have : (!(ts.length == 2 || ts.length == 3) || vs.length != ts.length || ScopeKind.function != ScopeKind.function) = true := by
        rw [h2]; rfl
      simp only [this, if_true]
      try rfl
    · rename_i h2
      have : ¬ ((!(ts.length == 2 || ts.length == 3) || vs.length != ts.length || ScopeKind.function != ScopeKind.function) = true) := by
        intro z
        rw [Bool.or_eq_true] at z
        rcases z with z | z
        · exact h2 z
        · exact absurd z (by decide)
      rw [if_neg this]
      split at h
      · rename_i h3
        cases h
        rw [if_pos h3]
        try rfl
      · rename_i h3
        rw [if_neg h3]
        rw [hn _ (by intro e; cases e <;> rfl)]
        split at h
        · rename_i h4
          cases h
          rw [if_pos h4]
          try rfl
        · rename_i h4
          rw [if_neg h4]
          split at h
          · rename_i h5
            cases h
            rw [if_pos h5]
            try rfl
          · rename_i h5
            rw [if_neg h5]
            split at h
            · cases h
            · rename_i h6
              rw [if_neg h6]
              cases h
              rfl
theorem sing_sw {ts vs : List Expr} {env : Env} {a c l : Nat} {b d : Pos} : swapsWithSole [.Tuple ts a b] (.Tuple vs c d) l env = pure false := rfl
theorem s_par2 (G : Good cl T call k N sc W X) {i j : Nat} {x y : Str} {e1 e2 : Expr} {px py p b d : Pos} {a c0 : Nat} {c : E} (hi : N[i]? = some x) (hj : N[j]? = some y) (hij : i ≠ j) (hx : sc.names.lookup x = some .local) (hy : sc.names.lookup y = some .local)
    (ha : PA X [e1, e2] (tIA X.kw cl W T call c)) (hw : swP sc [.Name x px, .Name y py] [e1, e2] = some (some [x, y])) : PS X (.Assign [.Tuple [.Name x px, .Name y py] a b] (.Tuple [e1, e2] c0 d) p) (tS X.kw cl W T call (.par [i, j] c)) :=
  PS_imp (ps_par G.calm (by rw [G.hN]; exact G.nd) (by rw [G.hN]; exact hi) (by rw [G.hN]; exact hj) hij (by rw [G.hsc]; exact hx) (by rw [G.hsc]; exact hy) ha (swP_ok (by rw [G.hsc]; exact hw)) rfl) fun D σ H ⟨rho, s, sl, R, S, h⟩ => by
    simp only [ex] at h
    refine tSA_seq (f := fun vs s1 => match layN [i, j] vs sl with | some σ1 => .ok (.nx σ1) s1 | none => .bad) R S h fun vs H1 rho1 s1 ps x1 R1 S1 V1 q => ?_
    cases ps with
    | nil => simp only [layN] at q; exact q.elim
    | cons p1 ps =>
      cases ps with
      | nil => simp only [layN] at q; exact q.elim
      | cons p2 ps =>
        cases ps with
        | cons p3 ps => simp only [layN] at q; exact q.elim
        | nil =>
          simp only [layN] at q
          simp only [VRs] at V1
          obtain ⟨v1, _, rfl, V1, v2, _, rfl, V2, rfl⟩ := V1
          exact ⟨v1, v2, rfl, q rho1 H1 _ .refl R1 (slR_set (slR_set S1 V1) V2)⟩
theorem s_par3 (G : Good cl T call k N sc W X) {i j l : Nat} {x y z : Str} {e1 e2 e3 : Expr} {px py pz p b d : Pos} {a c0 : Nat} {c : E} (hi : N[i]? = some x) (hj : N[j]? = some y) (hl : N[l]? = some z) (hij : i ≠ j) (hil : i ≠ l) (hjl : j ≠ l) (hx : sc.names.lookup x = some .local) (hy : sc.names.lookup y = some .local) (hz : sc.names.lookup z = some .local)
    (ha : PA X [e1, e2, e3] (tIA X.kw cl W T call c)) (hw : swP sc [.Name x px, .Name y py, .Name z pz] [e1, e2, e3] = some (some [x, y, z])) : PS X (.Assign [.Tuple [.Name x px, .Name y py, .Name z pz] a b] (.Tuple [e1, e2, e3] c0 d) p) (tS X.kw cl W T call (.par [i, j, l] c)) :=
  PS_imp (ps_par3 G.calm (by rw [G.hN]; exact G.nd) (by rw [G.hN]; exact hi) (by rw [G.hN]; exact hj) (by rw [G.hN]; exact hl) hij hil hjl (by rw [G.hsc]; exact hx) (by rw [G.hsc]; exact hy) (by rw [G.hsc]; exact hz) ha (swP_ok (by rw [G.hsc]; exact hw)) rfl) fun D σ H ⟨rho, s, sl, R, S, h⟩ => by
    simp only [ex] at h
    refine tSA_seq (f := fun vs s1 => match layN [i, j, l] vs sl with | some σ1 => .ok (.nx σ1) s1 | none => .bad) R S h fun vs H1 rho1 s1 ps x1 R1 S1 V1 q => ?_
    cases ps with
    | nil => simp only [layN] at q; exact q.elim
    | cons p1 ps =>
      cases ps with
      | nil => simp only [layN] at q; exact q.elim
      | cons p2 ps =>
        cases ps with
        | nil => simp only [layN] at q; exact q.elim
        | cons p3 ps =>
          cases ps with
          | cons p4 ps => simp only [layN] at q; exact q.elim
          | nil =>
            simp only [layN] at q
            simp only [VRs] at V1
            obtain ⟨v1, _, rfl, V1, v2, _, rfl, V2, v3, _, rfl, V3, rfl⟩ := V1
            exact ⟨v1, v2, v3, rfl, q rho1 H1 _ .refl R1 (slR_set (slR_set (slR_set S1 V1) V2) V3)⟩
/-! o[i] = e -/
def noSub : Expr → Bool
  | .Slice .. => false
  | _ => true
theorem asg_sub {o i : Expr} {p : Pos} {env : Env} (h : noSub i = true) : ∀ v, assign (.Subscript o i p) env v = (do
      let ov ← holding [v] (eval o env)
      let iv ← holding [v, ov] (eval i env)
      standAt p
      holding [v, ov, iv] (setItem ov iv v)
      release [v, ov, iv] []) := by
  intro v
  cases i <;> first | rfl | cases h
theorem s_stl {o i e : Expr} {co ci ce : E} {p p' : Pos} (hn : noComp e = true) (hi0 : noSub i = true) (ho : PE X o (tI X.kw cl W T call co)) (hi : PE X i (tI X.kw cl W T call ci)) (he : PE X e (tI X.kw cl W T call ce)) : PS X (.Assign [.Subscript o i p'] e p) (tS X.kw cl W T call (.stl co ci ce)) :=
  PS_imp (ps_asg he (pg_sub ho hi set_list (asg_sub hi0)) (noComp_sole hn) (swN_ok rfl) rfl) fun D σ H ⟨rho, s, sl, R, S, h⟩ => by
    simp only [ex] at h
    refine tS_seq R S h fun v H1 rho1 s1 p x1 R1 S1 V1 g1 => ?_
    refine tS_seq R1 S1 g1 fun ov H2 rho2 s2 q x2 R2 S2 V2 g2 => ?_
    refine tS_seq R2 S2 g2 fun iv H3 rho3 s3 r x3 R3 S3 V3 g3 => ?_
    have V2' := x3.vr R2 V2
    have V1' := x3.vr R2 (x2.vr R1 V1)
    cases q with
    | lst n =>
      cases r with
      | int kk =>
        simp only [VR] at V2' V3
        obtain ⟨hn, rfl⟩ := V2'
        subst V3
        dsimp only at g3
        split at g3
        · rename_i xs e1
          split at g3
          · rename_i ys e2
            unfold setAt at e2
            split at e2
            · rename_i j e3
              cases e2
              obtain ⟨us, t, r⟩ := getW_ok R3 e1
              refine ⟨_, us, kk, j, rfl, rfl, t, by rw [← r.len]; exact e3, ?_⟩
              have rs : VRs X.kw s3.n rho3 H3 (xs.set j p) (us.set j v) := VRs.set r j V1'
              obtain ⟨y1, y2⟩ := put_lst R3 e1 rs
              exact g3 rho3 _ σ y1 y2 (S3.mono y1 R3)
            · cases e2
          · exact g3.elim
        · exact g3.elim
      | _ => exact g3.elim
    | _ => cases r <;> exact g3.elim
theorem putP_ok {K : KW} {n : Nat} {rho : Nat → Addr} {H : Hp} {kk : Key} {p : PV} {v : V} (hv : VR K n rho H p v) {kvs : List (Key × PV)} {ws : List (Key × V)} (hk : ws.map (·.1) = kvs.map (·.1)) (h : VRs K n rho H (kvs.map (·.2)) (ws.map (·.2))) :
    (putK ws kk v).map (·.1) = (putP kk p kvs).map (·.1) ∧ VRs K n rho H ((putP kk p kvs).map (·.2)) ((putK ws kk v).map (·.2)) := by
  have any : (ws.any fun kv => decide (kv.1 = kk)) = kvs.any fun kv => decide (kv.1 = kk) := by
    have e : ∀ {α : Type} (l : List (Key × α)), (l.any fun kv => decide (kv.1 = kk)) = (l.map (·.1)).any fun j => decide (j = kk) := fun l => by rw [List.any_map]; rfl
    rw [e ws, e kvs, hk]
  have maps : ∀ (ws : List (Key × V)) (kvs : List (Key × PV)), ws.map (·.1) = kvs.map (·.1) → VRs K n rho H (kvs.map (·.2)) (ws.map (·.2)) →
      (ws.map (fun kv => if kv.1 = kk then (kv.1, v) else kv)).map (·.1) = (kvs.map (fun kv => if kv.1 = kk then (kv.1, p) else kv)).map (·.1) ∧
      VRs K n rho H ((kvs.map (fun kv => if kv.1 = kk then (kv.1, p) else kv)).map (·.2)) ((ws.map (fun kv => if kv.1 = kk then (kv.1, v) else kv)).map (·.2)) := by
    intro ws
    induction ws with
    | nil =>
      intro kvs hk h
      cases kvs with
      | nil => exact ⟨rfl, h⟩
      | cons q r => simp at hk
    | cons w ws ih =>
      intro kvs hk h
      cases kvs with
      | nil => simp at hk
      | cons q r =>
        obtain ⟨w1, w2⟩ := w
        obtain ⟨q1, q2⟩ := q
        simp only [List.map_cons, List.cons.injEq] at hk
        obtain ⟨rfl, hk⟩ := hk
        simp only [List.map_cons, VRs] at h
        obtain ⟨z, rr, e, h1, h2⟩ := h
        obtain ⟨rfl, rfl⟩ := List.cons.inj e
        obtain ⟨i1, i2⟩ := ih r hk h2
        by_cases z : w1 = kk
        · simp only [List.map_cons, if_pos z, VRs, List.cons.injEq, true_and]
          exact ⟨i1, v, _, ⟨rfl, rfl⟩, hv, i2⟩
        · simp only [List.map_cons, if_neg z, VRs, List.cons.injEq, true_and]
          exact ⟨i1, w2, _, ⟨rfl, rfl⟩, h1, i2⟩
  unfold putK putP
  rw [any]
  split
  · exact maps ws kvs hk h
  · refine ⟨by simp [hk], ?_⟩
    rw [List.map_append, List.map_append]
    exact h.app (by simp only [List.map_cons, List.map_nil, VRs]; exact ⟨v, [], rfl, hv, rfl⟩)
theorem s_std (G : Good cl T call k N sc W X) {o i e : Expr} {co ci ce : E} {p p' : Pos} (hn : noComp e = true) (ho : PE X o (tI X.kw cl W T call co)) (hi : PE X i (tI X.kw cl W T call ci)) (he : PE X e (tI X.kw cl W T call ce)) : PS X (.Assign [.Subscript o i p'] e p) (tS X.kw cl W T call (.std co ci ce)) :=
  PS_imp (ps_dput (by have := G.un; omega) ho hi he (noComp_ok hn)) fun D σ H ⟨rho, s, sl, R, S, h⟩ => by
    simp only [ex] at h
    refine tS_seq R S h fun v H1 rho1 s1 p x1 R1 S1 V1 g1 => ?_
    refine tS_seq R1 S1 g1 fun ov H2 rho2 s2 q x2 R2 S2 V2 g2 => ?_
    refine tS_seq R2 S2 g2 fun iv H3 rho3 s3 r x3 R3 S3 V3 g3 => ?_
    have V2' := x3.vr R2 V2
    have V1' := x3.vr R2 (x2.vr R1 V1)
    cases q with
    | dct n =>
      simp only [VR] at V2'
      obtain ⟨hn, rfl⟩ := V2'
      dsimp only at g3
      split at g3
      · rename_i kvs kk e1 e2
        split at g3
        · rename_i hc
          obtain ⟨ws, d1, d2, d3⟩ := getD_ok R3 e1
          have := keyOf_ok e2 V3
          subst this
          obtain ⟨f1, f2⟩ := putP_ok (kk := kk) V1' d2 d3
          refine ⟨_, _, rfl, DPut.k d1 ?_, ?_⟩
          · have := congrArg List.length d2
            simp only [List.length_map] at this
            rw [this]
            exact Nat.lt_of_lt_of_le hc (cap_line (Nat.le_refl _))
          · obtain ⟨y1, y2⟩ := put_dct R3 e1 f1 f2
            exact g3 rho3 _ σ y1 y2 (S3.mono y1 R3)
        · exact g3.elim
      · exact g3.elim
    | _ => exact g3.elim
/-! ### loops -/
theorem s_while {t : Expr} {b : List Stmt} {cc cb : E} {p : Pos} (hp : PassesOwn (model X.prog X.w) X.A X.env X.xe) (ht : PT X t (tIT X.kw cl W T call cc)) (hb : PSs X b (tS X.kw cl W T call cb)) : PS X (.While t b [] p) (tS X.kw cl W T call (.whl cc cb)) :=
  PS_imp (ps_while hp ht hb) fun D σ H ⟨rho, s, sl, R, S, h⟩ => by
    simp only [ex] at h
    let Wi : Nat → L2.St → Hp → Prop := fun m σ H => ∃ rho s sl, RSt X.kw rho H s ∧ SlR X.kw s.n rho H sl σ ∧ PostS X.kw cl W rho s H (whileF (fun σ s => ev T call cc σ s) (fun σ s => ex T call cb σ s) m sl s) D
    refine ⟨Wi, ⟨T.fuel, rho, s, sl, R, S, h⟩, fun m σ H ⟨rho, s, sl, R, S, h⟩ => ?_⟩
    cases m with
    | zero => simp only [whileF] at h; exact h.elim
    | succ m =>
      simp only [whileF] at h
      refine ⟨rho, s, sl, R, S, ?_⟩
      cases e : ev T call cc sl s with
      | bad => simp only [e] at h; exact h
      | exc c fs s1 =>
        simp only [e] at h
        obtain ⟨C, names, e1, h⟩ := h
        exact ⟨C, names, e1, fun rho1 H1 d vs x r => h rho1 H1 d vs σ x r⟩
      | ok q s1 =>
        simp only [e] at h
        intro rho1 H1 v x1 R1 V1
        cases q with
        | bl b =>
          simp only [VR] at V1
          refine ⟨b, V1, ?_⟩
          cases b with
          | false =>
            rw [if_neg Bool.false_ne_true]
            exact h rho1 H1 σ x1 R1 (S.mono x1 R)
          | true =>
            rw [if_pos rfl]
            refine ⟨Wi m, fun σ' H' hN => ⟨m, Nat.lt_succ_self _, hN⟩, rho1, s1, sl, R1, S.mono x1 R, ?_⟩
            have h' := PostS.later (s' := s1) h x1 R R1
            dsimp only at h'
            cases e2 : ex T call cb sl s1 with
            | bad => simp only [e2] at h'; exact h'
            | exc c fs s2 => simp only [e2] at h'; exact h'
            | ok f s2 =>
              cases f with
              | nx sl2 =>
                simp only [e2] at h'
                exact fun rho2 H2 σ2 x2 R2 S2 => ⟨rho2, s2, sl2, R2, S2, PostS.later (s' := s2) h' x2 R1 R2⟩
              | ct sl2 =>
                simp only [e2] at h'
                exact fun rho2 H2 σ2 x2 R2 S2 => ⟨rho2, s2, sl2, R2, S2, PostS.later (s' := s2) h' x2 R1 R2⟩
              | bk sl2 => simp only [e2] at h'; exact h'
              | rt v => simp only [e2] at h'; exact h'
        | _ => exact h.elim
theorem s_for (G : Good cl T call k N sc W X) {tg it : Expr} {b : List Stmt} {cg ci cb : E} {p : Pos} (hp : PassesOwn (model X.prog X.w) X.A X.env X.xe) (hs : noSet it = true) (hi : PI X tg it (tII X.kw cl W T call ci)) (hg : PG X tg (tG X.kw cg)) (hb : PSs X b (tS X.kw cl W T call cb)) : PS X (.For tg it b [] p) (tS X.kw cl W T call (.sfor cg ci cb)) :=
  PS_imp (ps_for hp G.calm hi hg hb (noSet_ok hs)) fun D σ H ⟨rho, s, sl, R, S, h⟩ => by
    simp only [ex] at h
    refine ⟨rho, s, sl, R, S, ?_⟩
    cases e : evI T call ci sl s with
    | bad => simp only [e, Res.bind] at h; exact h
    | exc d fs s1 =>
      simp only [e, Res.bind] at h
      obtain ⟨C, names, e1, h⟩ := h
      exact ⟨C, names, e1, fun rho1 H1 d vs x r => h rho1 H1 d vs σ x r⟩
    | ok j s1 =>
      simp only [e, Res.bind] at h
      intro rho1 H1 J x1 R1 jr
      have h1 := PostS.later (s' := s1) h x1 R R1
      let Wi : Nat → Nat → L2.St → Hp → Prop := fun i m σ H => ∃ rho s sl, Ext s1 rho1 rho H1 H s ∧ RSt X.kw rho H s ∧ SlR X.kw s.n rho H sl σ ∧ PostS X.kw cl W rho s H (forF j (fun v σ => lay cg v σ) (fun σ s => ex T call cb σ s) m i sl s) D
      refine ⟨Wi, ⟨j.most s1, rho1, s1, sl, .refl, R1, S.mono x1 R, h1⟩, fun i m σ H ⟨rho, s, sl, x, R, S, h⟩ => ?_⟩
      obtain ⟨jgo, jstop⟩ := jr rho H s x R
      cases m with
      | zero =>
        simp only [forF] at h
        split at h
        · rename_i e1
          exact .inl ⟨jstop i e1, h rho H σ .refl R S⟩
        · exact h.elim
      | succ m =>
        simp only [forF] at h
        split at h
        · rename_i e1
          exact .inl ⟨jstop i e1, h rho H σ .refl R S⟩
        · exact h.elim
        · rename_i v e1
          obtain ⟨go, yl⟩ := jgo i v e1
          refine .inr ⟨go, Wi (i + 1) m, fun σ' H' hN => ⟨m, Nat.lt_succ_self _, hN⟩, fun y H' hy => ?_⟩
          obtain ⟨x2, R2, V2⟩ := yl y H' hy
          cases el : lay cg v sl with
          | none => simp only [el] at h; exact h.elim
          | some sl1 =>
            simp only [el] at h
            refine ⟨rho, s, sl, v, sl1, R2, S.mono x2 R, V2, el, fun σ2 S2 _ _ => ⟨rho, s, sl1, R2, S2, ?_⟩⟩
            have h' := PostS.later (s' := s) h x2 R R2
            have x12 := x.trans x2 R1 R
            cases e2 : ex T call cb sl1 s with
            | bad => simp only [e2] at h'; exact h'
            | exc c fs s2 => simp only [e2] at h'; exact h'
            | ok f s2 =>
              cases f with
              | nx sl2 =>
                simp only [e2] at h'
                exact fun rho2 H2 σ2 x3 R3 S3 => ⟨rho2, s2, sl2, x12.trans x3 R1 R2, R3, S3, PostS.later (s' := s2) h' x3 R2 R3⟩
              | ct sl2 =>
                simp only [e2] at h'
                exact fun rho2 H2 σ2 x3 R3 S3 => ⟨rho2, s2, sl2, x12.trans x3 R1 R2, R3, S3, PostS.later (s' := s2) h' x3 R2 R3⟩
              | bk sl2 => simp only [e2] at h'; exact h'
              | rt v => simp only [e2] at h'; exact h'
theorem s_raise (G : Good cl T call k N sc W X) (tk : Takes X W) {c : Nat} {x f : Str} {a : Expr} {ca : E} {p pos pos2 : Pos} (h1 : T.errs[c]? = some (x, f)) (h2 : glB sc x = true) (h3 : nostar a = true) (ha : PA X [a] (tIA X.kw cl W T call ca)) : PS X (.Raise (some (.Call (.Name x p) [a] [] pos)) none pos2) (tS X.kw cl W T call (.raise c ca)) := by
  obtain ⟨hg, hd⟩ := glB_ok G h2
  obtain ⟨C, hC, hE⟩ := G.facts.errs c x f h1
  refine PS_imp (hE X a _ W p pos pos2 k rfl rfl G.calm G.room tk ha hg hd (nostar_ok h3) rfl) fun D σ H ⟨rho, s, sl, R, S, h⟩ => ?_
  simp only [ex] at h
  refine tSA_seq (f := fun vs s1 => match vs with | [u] => .exc c [u] s1 | _ => .bad) R S h fun vs H1 rho1 s1 ps x1 R1 S1 V1 q => ?_
  match ps, V1, q with
  | [], _, q => exact q.elim
  | _ :: _ :: _, _, q => exact q.elim
  | [u], V2, q =>
    simp only [VRs] at V2
    obtain ⟨v, _, rfl, V3, rfl⟩ := V2
    obtain ⟨C', names, e, q⟩ := q
    rw [hC] at e
    cases e
    exact ⟨v, rfl, fun d hd => q rho1 _ d [v] σ (Ext.upd hd) (R1.upd hd) L2.upd_same (by simp only [VRs]; exact ⟨v, [], rfl, vr_upd hd V3, rfl⟩)⟩
end
end FI

namespace FI
open PySem PySem.Spec PyProof.Rows L2

/-! ### the text fits the codes -/
def asCmpS : Expr → Option (Expr × Expr × List Comprehension × Scope × Pos) | .ListComp a gs sc p => some (a, a, gs, sc, p) | _ => none
def asComp : Expr → Option (Expr × Expr × Expr × List Expr × Scope × Pos) | .ListComp a [⟨t, i, fs, 0⟩] sc p => some (a, t, i, fs, sc, p) | _ => none
def asApp : Expr → Option (Expr × Str × Pos × Expr × Pos) | .Call (.Attribute o n ap) [e] [] cp => some (o, n, ap, e, cp) | _ => none
def asMeth : Expr → Option (Expr × Str × Pos × Expr × List Expr × Pos) | .Call (.Attribute o n ap) (e :: es) [] cp => some (o, n, ap, e, es, cp) | _ => none
theorem asMeth_ok {e : Expr} {r} (h : asMeth e = some r) : e = .Call (.Attribute r.1 r.2.1 r.2.2.1) (r.2.2.2.1 :: r.2.2.2.2.1) [] r.2.2.2.2.2 := by unfold asMeth at h; split at h <;> cases h; rfl
def asComp2 : Expr → Option (Expr × Comprehension × Comprehension × Scope × Pos) | .ListComp a [⟨t, i, fs, 0⟩, ⟨t1, i1, fs1, 0⟩] sc p => some (a, ⟨t, i, fs, 0⟩, ⟨t1, i1, fs1, 0⟩, sc, p) | _ => none
theorem asComp2_ok {e : Expr} {r} (h : asComp2 e = some r) : e = .ListComp r.1 [⟨r.2.1.target, r.2.1.iter, r.2.1.ifs, 0⟩, ⟨r.2.2.1.target, r.2.2.1.iter, r.2.2.1.ifs, 0⟩] r.2.2.2.1 r.2.2.2.2 := by unfold asComp2 at h; split at h <;> cases h; rfl
def asDict : Expr → Option (List (Option Expr) × List Expr × Pos) | .Dict k v p => some (k, v, p) | _ => none
def asRev : Expr → Option (Expr × Nat × Pos × Pos × Pos × Pos) | .Subscript e (.Slice none none (some (.UnaryOp .USub (.Constant (.int 1) k p1) p2)) p3) p4 => some (e, k, p1, p2, p3, p4) | _ => none
def asStar : Expr → Option (Expr × Pos) | .Starred e p => some (e, p) | _ => none
theorem asComp_ok {e : Expr} {r} (h : asComp e = some r) : e = .ListComp r.1 [⟨r.2.1, r.2.2.1, r.2.2.2.1, 0⟩] r.2.2.2.2.1 r.2.2.2.2.2 := by unfold asComp at h; split at h <;> cases h; rfl
theorem asApp_ok {e : Expr} {r} (h : asApp e = some r) : e = .Call (.Attribute r.1 r.2.1 r.2.2.1) [r.2.2.2.1] [] r.2.2.2.2 := by unfold asApp at h; split at h <;> cases h; rfl
theorem asDict_ok {e : Expr} {r} (h : asDict e = some r) : e = .Dict r.1 r.2.1 r.2.2 := by unfold asDict at h; split at h <;> cases h; rfl
theorem asRev_ok {e : Expr} {r} (h : asRev e = some r) : e = .Subscript r.1 (.Slice none none (some (.UnaryOp .USub (.Constant (.int 1) r.2.1 r.2.2.1) r.2.2.2.1)) r.2.2.2.2.1) r.2.2.2.2.2 := by unfold asRev at h; split at h <;> cases h; rfl
theorem asStar_ok {e : Expr} {r} (h : asStar e = some r) : e = .Starred r.1 r.2 := by unfold asStar at h; split at h <;> cases h; rfl
def asRet : Stmt → Option (Expr × Pos) | .Return (some e) p => some (e, p) | _ => none
def asRaise : Stmt → Option (Str × Pos × Expr × Pos × Pos) | .Raise (some (.Call (.Name x p) [a] [] q)) none r => some (x, p, a, q, r) | _ => none
theorem asRaise_ok {e : Stmt} {r} (h : asRaise e = some r) : e = .Raise (some (.Call (.Name r.1 r.2.1) [r.2.2.1] [] r.2.2.2.1)) none r.2.2.2.2 := by unfold asRaise at h; split at h <;> cases h; rfl
def asRetN : Stmt → Option Pos | .Return none p => some p | _ => none
def asExpr : Stmt → Option (Expr × Pos) | .Expr e p => some (e, p) | _ => none
def asPass : Stmt → Option Pos | .Pass p => some p | _ => none
def asCont : Stmt → Option Pos | .Continue p => some p | _ => none
def asBrk : Stmt → Option Pos | .Break p => some p | _ => none
def asIfS : Stmt → Option (Expr × List Stmt × List Stmt × Pos) | .If t a b p => some (t, a, b, p) | _ => none
def asWh : Stmt → Option (Expr × List Stmt × Pos) | .While t a [] p => some (t, a, p) | _ => none
def asFor : Stmt → Option (Expr × Expr × List Stmt × Pos) | .For t i a [] p => some (t, i, a, p) | _ => none
def asAsg : Stmt → Option (Expr × Expr × Pos) | .Assign [t] e p => some (t, e, p) | _ => none
theorem asRet_ok {e : Stmt} {r} (h : asRet e = some r) : e = .Return (some r.1) r.2 := by unfold asRet at h; split at h <;> cases h; rfl
theorem asRetN_ok {e : Stmt} {r} (h : asRetN e = some r) : e = .Return none r := by unfold asRetN at h; split at h <;> cases h; rfl
theorem asExpr_ok {e : Stmt} {r} (h : asExpr e = some r) : e = .Expr r.1 r.2 := by unfold asExpr at h; split at h <;> cases h; rfl
theorem asPass_ok {e : Stmt} {r} (h : asPass e = some r) : e = .Pass r := by unfold asPass at h; split at h <;> cases h; rfl
theorem asCont_ok {e : Stmt} {r} (h : asCont e = some r) : e = .Continue r := by unfold asCont at h; split at h <;> cases h; rfl
theorem asBrk_ok {e : Stmt} {r} (h : asBrk e = some r) : e = .Break r := by unfold asBrk at h; split at h <;> cases h; rfl
theorem asIfS_ok {e : Stmt} {r} (h : asIfS e = some r) : e = .If r.1 r.2.1 r.2.2.1 r.2.2.2 := by unfold asIfS at h; split at h <;> cases h; rfl
theorem asWh_ok {e : Stmt} {r} (h : asWh e = some r) : e = .While r.1 r.2.1 [] r.2.2 := by unfold asWh at h; split at h <;> cases h; rfl
theorem asFor_ok {e : Stmt} {r} (h : asFor e = some r) : e = .For r.1 r.2.1 r.2.2.1 [] r.2.2.2 := by unfold asFor at h; split at h <;> cases h; rfl
theorem asAsg_ok {e : Stmt} {r} (h : asAsg e = some r) : e = .Assign [r.1] r.2.1 r.2.2 := by unfold asAsg at h; split at h <;> cases h; rfl
def asN2 : List Expr → Option (Str × Pos × Str × Pos) | [.Name x p, .Name y q] => some (x, p, y, q) | _ => none
def asN3 : List Expr → Option (Str × Pos × Str × Pos × Str × Pos) | [.Name x p, .Name y q, .Name z r] => some (x, p, y, q, z, r) | _ => none
def as2 : List Expr → Option (Expr × Expr) | [x, y] => some (x, y) | _ => none
def as3 : List Expr → Option (Expr × Expr × Expr) | [x, y, z] => some (x, y, z) | _ => none
theorem asN2_ok {e : List Expr} {r} (h : asN2 e = some r) : e = [.Name r.1 r.2.1, .Name r.2.2.1 r.2.2.2] := by unfold asN2 at h; split at h <;> cases h; rfl
theorem asN3_ok {e : List Expr} {r} (h : asN3 e = some r) : e = [.Name r.1 r.2.1, .Name r.2.2.1 r.2.2.2.1, .Name r.2.2.2.2.1 r.2.2.2.2.2] := by unfold asN3 at h; split at h <;> cases h; rfl
theorem as2_ok {e : List Expr} {r} (h : as2 e = some r) : e = [r.1, r.2] := by unfold as2 at h; split at h <;> cases h; rfl
theorem as3_ok {e : List Expr} {r} (h : as3 e = some r) : e = [r.1, r.2.1, r.2.2] := by unfold as3 at h; split at h <;> cases h; rfl
def copE (o : Cop) (p : CmpOp) : Bool := decide (copOf o = p)
/-- tests that are walked as values -/
def plainT : Expr → Bool
  | .UnaryOp .Not .. => false
  | .BoolOp .. => false
  | .IfExp .. => false
  | .Compare .. => false
  | _ => true
def isCell (sc : Scope) (x : Str) : Bool := match sc.names.lookup x with | some .cell => true | _ => false

/-- whose attributes are taken -/
def plainO : Expr → Bool
  | .Name .. => true
  | _ => false
/-- a clause's tests: none, or one -/
def ckIf1 (c : E) (fs : List Expr) (f : Expr → Bool) : Bool := match fs with
  | [] => (match c with | .bl true => true | _ => false)
  | [t] => f t
  | _ => false
mutual
def ckE (T : Tab) (N : List Str) : E → Scope → Expr → Bool
  | .never, _, _ => true
  | .int i, _, e => match asInt e with | some r => decide (i = r.1) | none => false
  | .bl i, _, e => match asBl e with | some r => decide (i = r.1) | none => false
  | .non, _, e => (asNon e).isSome
  | .str i, _, e => match asStr e with | some r => decide (i = r.1) | none => false
  | .var i, sc, e => match asName e with | some r => decide (N[i]? = some r.1) && visB sc r.1 && !(r.1 == ("__debug__" : Str)) && !(r.1 == ("__classdict__" : Str)) | none => false
  | .glob k, sc, e => match asName e with | some r => decide (T.cnames[k]? = some r.1) && glB sc r.1 | none => false
  | .bin o a b, sc, e => match asBin e with | some r => opB o r.2.1 && ckE T N a sc r.1 && ckE T N b sc r.2.2.1 | none => false
  | .cmp o a b, sc, e => match asCmp e with | some r => copE o r.2.1 && noSet r.2.2.1 && ckE T N a sc r.1 && ckE T N b sc r.2.2.1 | none => false
  | .chain o q a b c, sc, e => match asCmp2 e with | some r => copB o r.2.1 && copB q r.2.2.1 && ckE T N a sc r.1 && ckE T N b sc r.2.2.2.1 && ckE T N c sc r.2.2.2.2.1 | none => false
  | .neg a, sc, e => match asUn e with | some r => decide (r.1 = .USub) && ckE T N a sc r.2.1 | none => false
  | .not a, sc, e => match asUn e with | some r => decide (r.1 = .Not) && ckE T N a sc r.2.1 | none => false
  | .one a, sc, e => match asBo1 e with | some r => ckE T N a sc r.2.1 | none => false
  | .and a b, sc, e => match asBo2 e with | some r => decide (r.1 = .And) && ckE T N a sc r.2.1 && ckE T N b sc (.BoolOp r.1 (r.2.2.1 :: r.2.2.2.1) r.2.2.2.2) | none => false
  | .or a b, sc, e => match asBo2 e with | some r => decide (r.1 = .Or) && ckE T N a sc r.2.1 && ckE T N b sc (.BoolOp r.1 (r.2.2.1 :: r.2.2.2.1) r.2.2.2.2) | none => false
  | .ife c a b, sc, e => match asIf e with | some r => ckTe T N c sc r.1 && ckE T N a sc r.2.1 && ckE T N b sc r.2.2.1 | none => false
  | .idx a b, sc, e => match asSub e with | some r => plainIx r.2.1 && ckE T N a sc r.1 && ckE T N b sc r.2.1 | none => false
  | .dix a b, sc, e => match asSub e with | some r => plainIx r.2.1 && ckE T N a sc r.1 && ckE T N b sc r.2.1 | none => false
  | .slice a lo hi, sc, e => match asSub e with
    | some r => (match asSl r.2.1 with
      | some l => ckE T N a sc r.1 && (match l.1 with | none => isNo lo | some x => !isNo lo && ckE T N lo sc x) && (match l.2.1 with | none => isNo hi | some x => !isNo hi && ckE T N hi sc x)
      | none => false)
    | none => false
  | .rev a, sc, e => match asRev e with | some r => ckE T N a sc r.1 | none => false
  | .tup a, sc, e => match asTup e with | some r => ckA T N a sc r.1 | none => false
  | .lst a, sc, e => match asLst e with | some r => ckA T N a sc r.1 | none => false
  | .isi t a, sc, e => match asCall e with
    | some r => (match r.2.2.2.1 with
      | [y] => (match asName y with
        | some z => decide (r.1 = ("isinstance" : Str)) && decide (z.1 = tyStr t) && glB sc r.1 && glB sc z.1 && nostar r.2.2.1 && ckE T N a sc r.2.2.1
        | none => false)
      | _ => false)
    | none => false
  | .call f a, sc, e => match asCall e with | some r => decide (T.fns[f]? = some r.1) && glB sc r.1 && (r.2.2.1 :: r.2.2.2.1).all nostar && ckA T N a sc (r.2.2.1 :: r.2.2.2.1) | none => false
  | .call0 f, sc, e => match asCall0 e with | some r => decide (T.fns[f]? = some r.1) && glB sc r.1 | none => false
  | .blt b a, sc, e => match asCall e with | some r => decide (r.1 = bltName b) && glB sc r.1 && (r.2.2.1 :: r.2.2.2.1).all nostar && ckA T N a sc (r.2.2.1 :: r.2.2.2.1) | none => false
  | .meth m a b, sc, e => match asMeth e with | some r => decide (r.2.1 = mtName m) && plainO r.1 && (r.2.2.1.endLine == r.2.2.2.2.2.line) && (r.2.2.2.1 :: r.2.2.2.2.1).all nostar && decide ((r.2.2.2.1 :: r.2.2.2.2.1).length < 30) && ckE T N a sc r.1 && ckA T N b sc (r.2.2.2.1 :: r.2.2.2.2.1) | none => false
  | .comp2 own tg it c tg1 it1 c1 elt, sc, e => match asComp2 e with
    | some r => (slotsT tg).all (fun i => (own.map (·.2)).contains i) && (slotsT tg1).all (fun i => (own.map (·.2)).contains i) && blkC N sc r.2.2.2.1 own && noSet r.2.1.iter && noSet r.2.2.1.iter &&
      ckI T N it sc r.2.1.target r.2.1.iter && ckT N (fnC r.2.2.2.1) tg (relS r.2.2.2.1 sc) r.2.1.target && ckIf1 c r.2.1.ifs (fun t => ckTe T N c (relS r.2.2.2.1 sc) t) &&
      ckI T N it1 (relS r.2.2.2.1 sc) r.2.2.1.target r.2.2.1.iter && ckT N (fnC r.2.2.2.1) tg1 (relS r.2.2.2.1 sc) r.2.2.1.target && ckIf1 c1 r.2.2.1.ifs (fun t => ckTe T N c1 (relS r.2.2.2.1 sc) t) && ckE T N elt (relS r.2.2.2.1 sc) r.1
    | none => false
  | .app a b, sc, e => match asApp e with | some r => decide (r.2.1 = ("append" : Str)) && (asName r.1).isSome && (r.2.2.1.endLine == r.2.2.2.2.line) && nostar r.2.2.2.1 && ckE T N a sc r.1 && ckE T N b sc r.2.2.2.1 | none => false
  | .ddisp a, sc, e => match asDict e with | some r => !r.1.isEmpty && decide (r.1.length ≤ 15) && ckP T N a sc r.1 r.2.1 | none => false
  | .comp own tg it c elt, sc, e => match asComp e with
    | some r => (slotsT tg).all (fun i => (own.map (·.2)).contains i) && blkC N sc r.2.2.2.2.1 own && noSet r.2.2.1 && ckI T N it sc r.2.1 r.2.2.1 && ckT N (fnC r.2.2.2.2.1) tg (relS r.2.2.2.2.1 sc) r.2.1 &&
      (match r.2.2.2.1 with
        | [] => (match c with | .bl true => true | _ => false)
        | [t] => ckTe T N c (relS r.2.2.2.2.1 sc) t
        | _ => false) && ckE T N elt (relS r.2.2.2.2.1 sc) r.1
    | none => false
  | _, _, _ => false
def ckTe (T : Tab) (N : List Str) : E → Scope → Expr → Bool
  | .never, _, _ => true
  | .not a, sc, e => match asUn e with | some r => decide (r.1 = .Not) && ckTe T N a sc r.2.1 | none => false
  | .one a, sc, e => match asBo1 e with | some r => ckTe T N a sc r.2.1 | none => false
  | .and a b, sc, e => match asBo2 e with | some r => decide (r.1 = .And) && ckTe T N a sc r.2.1 && ckTe T N b sc (.BoolOp r.1 (r.2.2.1 :: r.2.2.2.1) r.2.2.2.2) | none => false
  | .or a b, sc, e => match asBo2 e with | some r => decide (r.1 = .Or) && ckTe T N a sc r.2.1 && ckTe T N b sc (.BoolOp r.1 (r.2.2.1 :: r.2.2.2.1) r.2.2.2.2) | none => false
  | .cmp o a b, sc, e => match asCmp e with | some r => copE o r.2.1 && noSet r.2.2.1 && ckE T N a sc r.1 && ckE T N b sc r.2.2.1 | none => false
  | .chain o q a b c, sc, e => match asCmp2 e with | some r => copB o r.2.1 && copB q r.2.2.1 && ckE T N a sc r.1 && ckE T N b sc r.2.2.2.1 && ckE T N c sc r.2.2.2.2.1 | none => false
  | .call f a, sc, e => match asCall e with | some r => decide (T.fns[f]? = some r.1) && glB sc r.1 && (r.2.2.1 :: r.2.2.2.1).all nostar && ckA T N a sc (r.2.2.1 :: r.2.2.2.1) | none => false
  | .blt b a, sc, e => match asCall e with | some r => decide (r.1 = bltName b) && glB sc r.1 && (r.2.2.1 :: r.2.2.2.1).all nostar && ckA T N a sc (r.2.2.1 :: r.2.2.2.1) | none => false
  | .call0 f, sc, e => match asCall0 e with | some r => decide (T.fns[f]? = some r.1) && glB sc r.1 | none => false
  | .isi t a, sc, e => match asCall e with
    | some r => (match r.2.2.2.1 with
      | [y] => (match asName y with
        | some z => decide (r.1 = ("isinstance" : Str)) && decide (z.1 = tyStr t) && glB sc r.1 && glB sc z.1 && nostar r.2.2.1 && ckE T N a sc r.2.2.1
        | none => false)
      | _ => false)
    | none => false
  | .var i, sc, e => match asName e with | some r => decide (N[i]? = some r.1) && visB sc r.1 && !(r.1 == ("__debug__" : Str)) && !(r.1 == ("__classdict__" : Str)) | none => false
  | _, _, _ => false
def ckA (T : Tab) (N : List Str) : E → Scope → List Expr → Bool
  | .nil, _, es => es.isEmpty
  | .cons a r, sc, es => match es with | e :: es => nostar e && ckE T N a sc e && ckA T N r sc es | [] => false
  | .star a r, sc, es => match es with | e :: es => (match asStar e with | some x => ckE T N a sc x.1 && ckA T N r sc es | none => false) | [] => false
  | _, _, _ => false
def ckP (T : Tab) (N : List Str) : E → Scope → List (Option Expr) → List Expr → Bool
  | .nil, _, ks, vs => ks.isEmpty && vs.isEmpty
  | .cons a (.cons b r), sc, ks, vs => match ks, vs with | some k :: ks, v :: vs => ckE T N a sc k && ckE T N b sc v && ckP T N r sc ks vs | _, _ => false
  | _, _, _, _ => false
def ckI (T : Tab) (N : List Str) : E → Scope → Expr → Expr → Bool
  | .iseq a, sc, _, e => ckE T N a sc e
  | .irng a, sc, _, e => match asCall e with | some r => (match r.2.2.2.1 with | [] => decide (r.1 = ("range" : Str)) && glB sc r.1 && nostar r.2.2.1 && ckE T N a sc r.2.2.1 | _ => false) | none => false
  | .ienum a, sc, tg, e => match asTup tg, asCall e with | some _, some r => (match r.2.2.2.1 with | [] => decide (r.1 = ("enumerate" : Str)) && glB sc r.1 && nostar r.2.2.1 && ckE T N a sc r.2.2.1 | _ => false) | _, _ => false
  | .izip a, sc, tg, e => match asTup tg, asCall e with | some _, some r => (match r.2.2.2.1 with | [y] => decide (r.1 = ("zip" : Str)) && glB sc r.1 && [r.2.2.1, y].all nostar && ckA T N a sc [r.2.2.1, y] | _ => false) | _, _ => false
  | .izip3 a, sc, tg, e => match asTup tg, asCall e with | some _, some r => (match r.2.2.2.1 with | [y, z] => decide (r.1 = ("zip" : Str)) && glB sc r.1 && [r.2.2.1, y, z].all nostar && ckA T N a sc [r.2.2.1, y, z] | _ => false) | _, _ => false
  | _, _, _, _ => false
def ckT (N : List Str) (fb : Str → Bool) : E → Scope → Expr → Bool
  | .tn i, sc, e => match asName e with | some r => decide (N[i]? = some r.1) && (locB sc r.1 || (isCell sc r.1 && fb r.1)) | none => false
  | .tt a, sc, e => match asTup e with | some r => isLst a && decide (r.1.length = many a) && r.1.all nostar && ckTs N fb a sc r.1 | none => false
  | _, _, _ => false
def ckTs (N : List Str) (fb : Str → Bool) : E → Scope → List Expr → Bool
  | .nil, _, es => es.isEmpty
  | .cons a r, sc, es => match es with | e :: es => nostar e && ckT N fb a sc e && ckTs N fb r sc es | [] => false
  | _, _, _ => false
end
end FI

namespace FI
open PySem PySem.Spec PyProof.Rows L2

theorem marks_ok {op : CmpOp} {b : Expr} (h : noSet b = true) : behindInMarks op b = false := by cases b <;> first | rfl | cases h
section
variable {cl : Cls0} {T : Tab} {call : Nat → List PV → Sto → Res PV} {k : Nat} {N : List Str}
theorem h_cmp {sc : Scope} {W : WX} {X : Cx} (G : Good cl T call k N sc W X) {o : Cop} {a b : Expr} {ca cb : E} {p : Pos} (n1 : noSet b = true) (ha : PE X a (tI X.kw cl W T call ca)) (hb : PE X b (tI X.kw cl W T call cb)) : PE X (.Compare a [copOf o] [b] p) (tI X.kw cl W T call (.cmp o ca cb)) :=
  PE_imp (pe_cmpR (op_cmp G.room o) ha hb (marks_ok n1)) fun σ H Q h => cmp_read o h
theorem h_cmpT {sc : Scope} {W : WX} {X : Cx} (G : Good cl T call k N sc W X) {o : Cop} {a b : Expr} {ca cb : E} {p : Pos} (n1 : noSet b = true) (ha : PE X a (tI X.kw cl W T call ca)) (hb : PE X b (tI X.kw cl W T call cb)) : PT X (.Compare a [copOf o] [b] p) (tIT X.kw cl W T call (.cmp o ca cb)) :=
  PT_imp (pt_cmpR (op_cmp G.room o) ha hb (marks_ok n1)) fun σ H Q h => cmp_read o h
/-- a plain expression as a test -/
theorem h_val {W : WX} {X : Cx} {e : Expr} {c : E} (h : PE X e (tI X.kw cl W T call c)) (he : ∀ whole, isTrue e X.env whole = (do let v ← whole; standAt e.pos; holding [v] (truthy v))) : PT X e (tIT X.kw cl W T call c) :=
  PT_imp (pt_val h he) fun σ H Q h => h
theorem plainO_ok {o : Expr} {nm : Str} {env : Env} {v : Sem Value} (h : plainO o = true) : attributeBase o nm env v = v := by cases o <;> first | rfl | cases h
theorem ifs_ok {W : WX} {X : Cx} {c : E} {fs : List Expr} {f : Expr → Bool} (h : ckIf1 c fs f = true) (ht : ∀ t, f t = true → PT X t (tIT X.kw cl W T call c)) : PTs X fs (tIT X.kw cl W T call c) := by
  unfold ckIf1 at h
  split at h
  · split at h
    · exact pts_yes
    · cases h
  · exact pts_one (ht _ h)
  · cases h
theorem attrName {x : Str} {p : Pos} {nm : Str} {env : Env} {v : Sem Value} : attributeBase (.Name x p) nm env v = v := rfl

theorem PW_imp {X : Cx} {e : Expr} {t t' : TT} (h : PW X e t) (i : ∀ σ H Q, t' σ H Q → t σ H Q) : PW X e t' := ⟨fun wh pins s σ H Q I q => h.run wh pins s σ H Q I (i σ H Q q)⟩
def isBo : E → Bool
  | .never => true
  | .one _ => true
  | .and _ _ => true
  | .or _ _ => true
  | _ => false

theorem bo_of {b : E} {sc : Scope} {o : BoolOp} {l : List Expr} {p : Pos} (h : ckTe T N b sc (.BoolOp o l p) = true) : isBo b = true := by
  cases b <;> first | rfl | (simp [ckTe, asUn, asCmp, asCmp2, asCall, asCall0, asName] at h)
theorem and_fit {K : KW} {W : WX} {b : E} {σ : L2.St} {Q : Bool → Hp → Prop} : ∀ (v : V) (H1 : Hp), (∃ c, v = .bl c ∧ if c = true then tI K cl W T call b σ H1 (fun v H' => ∃ b, v = .bl b ∧ Q b H') else (∃ b, V.bl false = .bl b ∧ Q b H1)) → ∃ c, v = .bl c ∧ if c = true then tIT K cl W T call b σ H1 Q else Q false H1 := by
  rintro v H1 ⟨c, rfl, q⟩
  refine ⟨c, rfl, ?_⟩
  cases c with
  | true => exact q
  | false =>
    obtain ⟨b, e, q⟩ : ∃ b, V.bl false = .bl b ∧ Q b H1 := q
    cases e
    exact q
theorem or_fit {K : KW} {W : WX} {b : E} {σ : L2.St} {Q : Bool → Hp → Prop} : ∀ (v : V) (H1 : Hp), (∃ c, v = .bl c ∧ if c = true then (∃ b, V.bl true = .bl b ∧ Q b H1) else tI K cl W T call b σ H1 (fun v H' => ∃ b, v = .bl b ∧ Q b H')) → ∃ c, v = .bl c ∧ if c = true then Q true H1 else tIT K cl W T call b σ H1 Q := by
  rintro v H1 ⟨c, rfl, q⟩
  refine ⟨c, rfl, ?_⟩
  cases c with
  | false => exact q
  | true =>
    obtain ⟨b, e, q⟩ : ∃ b, V.bl true = .bl b ∧ Q b H1 := q
    cases e
    exact q

mutual
theorem sE : ∀ (c : E) (sc : Scope) (W : WX) (X : Cx) (e : Expr), Good cl T call k N sc W X → ckE T N c sc e = true → PE X e (tI X.kw cl W T call c)
  | .never, sc, W, X, e, G, h => g_never
  | .int i, sc, W, X, e, G, h => by
    simp only [ckE] at h
    split at h
    · rename_i r hr; have := asInt_ok hr; subst this
      simp only [decide_eq_true_eq] at h; subst h
      exact PE_imp pe_int fun σ H Q ⟨rho, s, sl, R, S, h⟩ => by simp only [ev] at h; exact h.same R (by simp only [VR])
    · cases h
  | .bl i, sc, W, X, e, G, h => by
    simp only [ckE] at h
    split at h
    · rename_i r hr; have := asBl_ok hr; subst this
      simp only [decide_eq_true_eq] at h; subst h
      exact PE_imp pe_bl fun σ H Q ⟨rho, s, sl, R, S, h⟩ => by simp only [ev] at h; exact h.same R (by simp only [VR])
    · cases h
  | .non, sc, W, X, e, G, h => by
    simp only [ckE] at h
    obtain ⟨r, hr⟩ := Option.isSome_iff_exists.mp h
    have := asNon_ok hr; subst this
    exact PE_imp pe_non fun σ H Q ⟨rho, s, sl, R, S, h⟩ => by simp only [ev] at h; exact h.same R (by simp only [VR])
  | .str i, sc, W, X, e, G, h => by
    simp only [ckE] at h
    split at h
    · rename_i r hr; have := asStr_ok hr; subst this
      simp only [decide_eq_true_eq] at h; subst h
      exact PE_imp pe_str fun σ H Q ⟨rho, s, sl, R, S, h⟩ => by simp only [ev] at h; exact h.same R (by simp only [VR])
    · cases h
  | .var i, sc, W, X, e, G, h => by
    simp only [ckE] at h
    split at h
    · rename_i r hr; have := asName_ok hr; subst this
      simp only [Bool.and_eq_true, decide_eq_true_eq, Bool.not_eq_true'] at h
      exact g_var G h.1.1.1 (visB_ok h.1.1.2) h.1.2 h.2
    · cases h
  | .glob i, sc, W, X, e, G, h => by
    simp only [ckE] at h
    split at h
    · rename_i r hr; have := asName_ok hr; subst this
      simp only [Bool.and_eq_true, decide_eq_true_eq] at h
      exact g_glob G h.1 h.2
    · cases h
  | .bin o a b, sc, W, X, e, G, h => by
    simp only [ckE] at h
    split at h
    · rename_i r hr; have := asBin_ok hr; subst this
      simp only [Bool.and_eq_true, opB, decide_eq_true_eq] at h
      rw [← h.1.1]
      exact g_bin (sE a sc W X _ G h.1.2) (sE b sc W X _ G h.2)
    · cases h
  | .cmp o a b, sc, W, X, e, G, h => by
    simp only [ckE] at h
    split at h
    · rename_i r hr; have := asCmp_ok hr; subst this
      simp only [Bool.and_eq_true, copE, decide_eq_true_eq] at h
      rw [← h.1.1.1]
      exact h_cmp G h.1.1.2 (sE a sc W X _ G h.1.2) (sE b sc W X _ G h.2)
    · cases h
  | .chain o q a b c, sc, W, X, e, G, h => by
    simp only [ckE] at h
    split at h
    · rename_i r hr; have := asCmp2_ok hr; subst this
      simp only [Bool.and_eq_true] at h
      obtain ⟨⟨⟨⟨h1, h2⟩, h3⟩, h4⟩, h5⟩ := h
      obtain ⟨e1, n1, n2⟩ := copB_ok h1
      obtain ⟨e2, n3, n4⟩ := copB_ok h2
      rw [← e1, ← e2]
      exact g_chain G (by rw [e1]; exact n1) (by rw [e1]; exact n2) (by rw [e2]; exact n3) (by rw [e2]; exact n4) (sE a sc W X _ G h3) (sE b sc W X _ G h4) (sE c sc W X _ G h5)
    · cases h
  | .neg a, sc, W, X, e, G, h => by
    simp only [ckE] at h
    split at h
    · rename_i r hr; have := asUn_ok hr; subst this
      simp only [Bool.and_eq_true, decide_eq_true_eq] at h
      rw [h.1]
      exact g_neg (sE a sc W X _ G h.2)
    · cases h
  | .not a, sc, W, X, e, G, h => by
    simp only [ckE] at h
    split at h
    · rename_i r hr; have := asUn_ok hr; subst this
      simp only [Bool.and_eq_true, decide_eq_true_eq] at h
      rw [h.1]
      exact g_not (sE a sc W X _ G h.2)
    · cases h
  | .one a, sc, W, X, e, G, h => by
    simp only [ckE] at h
    split at h
    · rename_i r hr; have := asBo1_ok hr; subst this
      exact PE_imp (pe_one (sE a sc W X _ G h)) fun σ H Q h => one_read h
    · cases h
  | .and a b, sc, W, X, e, G, h => by
    simp only [ckE] at h
    split at h
    · rename_i r hr; have := asBo2_ok hr; subst this
      simp only [Bool.and_eq_true, decide_eq_true_eq] at h
      obtain ⟨⟨h1, h2⟩, h3⟩ := h
      rw [h1] at h3 ⊢
      exact PE_imp (pe_and (sE a sc W X _ G h2) (sE b sc W X _ G h3)) fun σ H Q h => and_read h
    · cases h
  | .or a b, sc, W, X, e, G, h => by
    simp only [ckE] at h
    split at h
    · rename_i r hr; have := asBo2_ok hr; subst this
      simp only [Bool.and_eq_true, decide_eq_true_eq] at h
      obtain ⟨⟨h1, h2⟩, h3⟩ := h
      rw [h1] at h3 ⊢
      exact PE_imp (pe_or (sE a sc W X _ G h2) (sE b sc W X _ G h3)) fun σ H Q h => or_read h
    · cases h
  | .ife c a b, sc, W, X, e, G, h => by
    simp only [ckE] at h
    split at h
    · rename_i r hr; have := asIf_ok hr; subst this
      simp only [Bool.and_eq_true] at h
      refine PE_imp (pe_ifExp (sT c sc W X _ G h.1.1) (sE a sc W X _ G h.1.2) (sE b sc W X _ G h.2)) fun σ H Q h => ?_
      exact tI_imp (ife_read h) fun v H1 ⟨b, e, q⟩ => ⟨b, e, q⟩
    · cases h
  | .idx a b, sc, W, X, e, G, h => by
    simp only [ckE] at h
    split at h
    · rename_i r hr; have := asSub_ok hr; subst this
      simp only [Bool.and_eq_true] at h
      exact g_idx (plainIx_ok h.1.1) (sE a sc W X _ G h.1.2) (sE b sc W X _ G h.2)
    · cases h
  | .dix a b, sc, W, X, e, G, h => by
    simp only [ckE] at h
    split at h
    · rename_i r hr; have := asSub_ok hr; subst this
      simp only [Bool.and_eq_true] at h
      exact g_dix G h.1.1 (sE a sc W X _ G h.1.2) (sE b sc W X _ G h.2)
    · cases h
  | .slice a lo hi, sc, W, X, e, G, h => by
    simp only [ckE] at h
    split at h
    · rename_i r hr; have := asSub_ok hr; subst this
      split at h
      · rename_i l hl
        have e2 := asSl_ok hl
        rw [e2]
        simp only [Bool.and_eq_true] at h
        obtain ⟨⟨h1, h2⟩, h3⟩ := h
        refine g_slice (sE a sc W X _ G h1) (po_pt (fun z => ?_) fun x z => ?_) (po_pt (fun z => ?_) fun x z => ?_)
        · rw [z] at h2; exact h2
        · rw [z] at h2
          simp only [Bool.and_eq_true, Bool.not_eq_true'] at h2
          exact ⟨h2.1, sE lo sc W X _ G h2.2⟩
        · rw [z] at h3; exact h3
        · rw [z] at h3
          simp only [Bool.and_eq_true, Bool.not_eq_true'] at h3
          exact ⟨h3.1, sE hi sc W X _ G h3.2⟩
      · cases h
    · cases h
  | .rev a, sc, W, X, e, G, h => by
    simp only [ckE] at h
    split at h
    · rename_i r hr; have := asRev_ok hr; subst this
      exact g_rev (sE a sc W X _ G h)
    · cases h
  | .tup a, sc, W, X, e, G, h => by
    simp only [ckE] at h
    split at h
    · rename_i r hr; have := asTup_ok hr; subst this
      exact g_tup (sA a sc W X _ G h)
    · cases h
  | .lst a, sc, W, X, e, G, h => by
    simp only [ckE] at h
    split at h
    · rename_i r hr; have := asLst_ok hr; subst this
      exact g_lst (sA a sc W X _ G h)
    · cases h
  | .isi t a, sc, W, X, e, G, h => by
    simp only [ckE] at h
    split at h
    · rename_i r hr; have := asCall_ok hr; subst this
      split at h
      · rename_i y hy
        split at h
        · rename_i z hz
          have := asName_ok hz
          rw [hy, this]
          simp only [Bool.and_eq_true, decide_eq_true_eq] at h
          obtain ⟨⟨⟨⟨⟨h1, h2⟩, h3⟩, h4⟩, h5⟩, h6⟩ := h
          exact g_isi G h1 h2 h3 h4 h5 (sE a sc W X _ G h6)
        · cases h
      · cases h
    · cases h
  | .call f a, sc, W, X, e, G, h => by
    simp only [ckE] at h
    split at h
    · rename_i r hr; have := asCall_ok hr; subst this
      simp only [Bool.and_eq_true, decide_eq_true_eq] at h
      exact g_call G h.1.1.1 h.1.1.2 h.1.2 (sA a sc W X _ G h.2)
    · cases h
  | .blt b a, sc, W, X, e, G, h => by
    simp only [ckE] at h
    split at h
    · rename_i r hr; have := asCall_ok hr; subst this
      simp only [Bool.and_eq_true, decide_eq_true_eq] at h
      exact g_blt G h.1.1.1 h.1.1.2 h.1.2 (sA a sc W X _ G h.2)
    · cases h
  | .call0 f, sc, W, X, e, G, h => by
    simp only [ckE] at h
    split at h
    · rename_i r hr; have := asCall0_ok hr; subst this
      simp only [Bool.and_eq_true, decide_eq_true_eq] at h
      exact g_call0 G h.1 h.2
    · cases h
  | .meth m a b, sc, W, X, e, G, h => by
    simp only [ckE] at h
    split at h
    · rename_i r hr; have := asMeth_ok hr; subst this
      simp only [Bool.and_eq_true, decide_eq_true_eq] at h
      obtain ⟨⟨⟨⟨⟨⟨h1, h2⟩, h3⟩, h4⟩, h5⟩, h6⟩, h7⟩ := h
      exact g_meth G h1 (plainO_ok h2) h3 h4 h5 (sE a sc W X _ G h6) (sA b sc W X _ G h7)
    · cases h
  | .comp2 own tg it c tg1 it1 c1 elt, sc, W, X, e, G, h => by
    simp only [ckE] at h
    split at h
    · rename_i r hr; have := asComp2_ok hr; subst this
      simp only [Bool.and_eq_true] at h
      obtain ⟨⟨⟨⟨⟨⟨⟨⟨⟨⟨⟨h1, h2⟩, h3⟩, h4⟩, h5⟩, h6⟩, h7⟩, h8⟩, h9⟩, h10⟩, h11⟩, h12⟩ := h
      exact g_comp2 G (fun i hi => by simpa using List.all_eq_true.mp h1 i hi) (fun i hi => by simpa using List.all_eq_true.mp h2 i hi) (sI it sc W X _ _ G h6) (blkOk_by h3) h4 h5
        (fun Y GY e1 e2 => by rw [← e1]; exact sG tg _ WF Y _ _ GY e2 h7) (fun Y GY e1 _ => by rw [← e1]; exact ifs_ok h8 fun t ht => sT c _ WF Y t GY ht) (fun Y GY e1 _ => by rw [← e1]; exact sI it1 _ WF Y _ _ GY h9)
        (fun Y GY e1 e2 => by rw [← e1]; exact sG tg1 _ WF Y _ _ GY e2 h10) (fun Y GY e1 _ => by rw [← e1]; exact ifs_ok h11 fun t ht => sT c1 _ WF Y t GY ht) (fun Y GY e1 _ => by rw [← e1]; exact sE elt _ WF Y _ GY h12)
    · cases h
  | .app a b, sc, W, X, e, G, h => by
    simp only [ckE] at h
    split at h
    · rename_i r hr; have := asApp_ok hr; subst this
      simp only [Bool.and_eq_true, decide_eq_true_eq] at h
      obtain ⟨⟨⟨⟨⟨h1, h2⟩, h3⟩, h4⟩, h5⟩, h6⟩ := h
      obtain ⟨z, hz⟩ := Option.isSome_iff_exists.mp h2
      have e2 := asName_ok hz
      exact g_app h1 (by rw [e2]; exact attrName) h3 h4 (sE a sc W X _ G h5) (sE b sc W X _ G h6)
    · cases h
  | .ddisp a, sc, W, X, e, G, h => by
    simp only [ckE] at h
    split at h
    · rename_i r hr; have := asDict_ok hr; subst this
      simp only [Bool.and_eq_true, decide_eq_true_eq, Bool.not_eq_true'] at h
      exact g_ddisp (sP a sc W X _ _ G h.2) (fun z => by rw [z] at h; exact absurd h.1.1 (by decide)) h.1.2
    · cases h
  | .comp own tg it c elt, sc, W, X, e, G, h => by
    simp only [ckE] at h
    split at h
    · rename_i r hr; have := asComp_ok hr; subst this
      simp only [Bool.and_eq_true] at h
      obtain ⟨⟨⟨⟨⟨⟨h1, h2⟩, h3⟩, h4⟩, h5⟩, h6⟩, h7⟩ := h
      refine g_comp G (fun i hi => by simpa using List.all_eq_true.mp h1 i hi) (sI it sc W X _ _ G h4) (blkOk_by h2) h3 (fun Y GY e1 e2 => by rw [← e1]; exact sG tg _ WF Y _ _ GY e2 h5) (fun Y GY e1 _ => ?_) (fun Y GY e1 _ => by rw [← e1]; exact sE elt _ WF Y _ GY h7)
      rw [← e1]
      generalize r.2.2.2.1 = fs at h6
      cases fs with
      | nil =>
        dsimp only at h6
        split at h6
        · exact pts_yes
        · cases h6
      | cons t fs =>
        cases fs with
        | nil => exact pts_one (sT c _ WF Y _ GY h6)
        | cons _ _ => cases h6
    · cases h
  | .nil, sc, W, X, e, G, h => by simp [ckE] at h
  | .cons _ _, sc, W, X, e, G, h => by simp [ckE] at h
  | .no, sc, W, X, e, G, h => by simp [ckE] at h
  | .star _ _, sc, W, X, e, G, h => by simp [ckE] at h
  | .tn _, sc, W, X, e, G, h => by simp [ckE] at h
  | .tt _, sc, W, X, e, G, h => by simp [ckE] at h
  | .ts _ _, sc, W, X, e, G, h => by simp [ckE] at h
  | .iseq _, sc, W, X, e, G, h => by simp [ckE] at h
  | .irng _, sc, W, X, e, G, h => by simp [ckE] at h
  | .irng2 _ _, sc, W, X, e, G, h => by simp [ckE] at h
  | .ienum _, sc, W, X, e, G, h => by simp [ckE] at h
  | .izip _, sc, W, X, e, G, h => by simp [ckE] at h
  | .izip3 _, sc, W, X, e, G, h => by simp [ckE] at h
  | .skip, sc, W, X, e, G, h => by simp [ckE] at h
  | .seq _ _, sc, W, X, e, G, h => by simp [ckE] at h
  | .set _ _, sc, W, X, e, G, h => by simp [ckE] at h
  | .ret _, sc, W, X, e, G, h => by simp [ckE] at h
  | .retN, sc, W, X, e, G, h => by simp [ckE] at h
  | .expr _, sc, W, X, e, G, h => by simp [ckE] at h
  | .pass, sc, W, X, e, G, h => by simp [ckE] at h
  | .cont, sc, W, X, e, G, h => by simp [ckE] at h
  | .brk, sc, W, X, e, G, h => by simp [ckE] at h
  | .sif _ _ _, sc, W, X, e, G, h => by simp [ckE] at h
  | .whl _ _, sc, W, X, e, G, h => by simp [ckE] at h
  | .sfor _ _ _, sc, W, X, e, G, h => by simp [ckE] at h
  | .raise _ _, sc, W, X, e, G, h => by simp [ckE] at h
  | .stl _ _ _, sc, W, X, e, G, h => by simp [ckE] at h
  | .std _ _ _, sc, W, X, e, G, h => by simp [ckE] at h
  | .setC _ _, sc, W, X, e, G, h => by simp [ckE] at h
  | .par _ _, sc, W, X, e, G, h => by simp [ckE] at h
theorem sT : ∀ (c : E) (sc : Scope) (W : WX) (X : Cx) (e : Expr), Good cl T call k N sc W X → ckTe T N c sc e = true → PT X e (tIT X.kw cl W T call c)
  | .never, sc, W, X, e, G, h => g_neverT
  | .not a, sc, W, X, e, G, h => by
    simp only [ckTe] at h
    split at h
    · rename_i r hr; have := asUn_ok hr; subst this
      simp only [Bool.and_eq_true, decide_eq_true_eq] at h
      rw [h.1]
      exact g_notT (sT a sc W X _ G h.2)
    · cases h
  | .one a, sc, W, X, e, G, h => (sW (.one a) sc W X e G h rfl).pt
  | .and a b, sc, W, X, e, G, h => (sW (.and a b) sc W X e G h rfl).pt
  | .or a b, sc, W, X, e, G, h => (sW (.or a b) sc W X e G h rfl).pt
  | .cmp o a b, sc, W, X, e, G, h => by
    simp only [ckTe] at h
    split at h
    · rename_i r hr; have := asCmp_ok hr; subst this
      simp only [Bool.and_eq_true, copE, decide_eq_true_eq] at h
      rw [← h.1.1.1]
      exact h_cmpT G h.1.1.2 (sE a sc W X _ G h.1.2) (sE b sc W X _ G h.2)
    · cases h
  | .chain o q a b c, sc, W, X, e, G, h => by
    simp only [ckTe] at h
    split at h
    · rename_i r hr; have := asCmp2_ok hr; subst this
      simp only [Bool.and_eq_true] at h
      obtain ⟨⟨⟨⟨h1, h2⟩, h3⟩, h4⟩, h5⟩ := h
      obtain ⟨e1, n1, n2⟩ := copB_ok h1
      obtain ⟨e2, n3, n4⟩ := copB_ok h2
      rw [← e1, ← e2]
      exact g_chainT G (by rw [e1]; exact n1) (by rw [e1]; exact n2) (by rw [e2]; exact n3) (by rw [e2]; exact n4) (sE a sc W X _ G h3) (sE b sc W X _ G h4) (sE c sc W X _ G h5)
    · cases h
  | .call f a, sc, W, X, e, G, h => by
    simp only [ckTe] at h
    split at h
    · rename_i r hr; have := asCall_ok hr; subst this
      simp only [Bool.and_eq_true, decide_eq_true_eq] at h
      exact h_val (g_call G h.1.1.1 h.1.1.2 h.1.2 (sA a sc W X _ G h.2)) (fun _ => rfl)
    · cases h
  | .blt b a, sc, W, X, e, G, h => by
    simp only [ckTe] at h
    split at h
    · rename_i r hr; have := asCall_ok hr; subst this
      simp only [Bool.and_eq_true, decide_eq_true_eq] at h
      exact h_val (g_blt G h.1.1.1 h.1.1.2 h.1.2 (sA a sc W X _ G h.2)) (fun _ => rfl)
    · cases h
  | .isi t a, sc, W, X, e, G, h => by
    simp only [ckTe] at h
    split at h
    · rename_i r hr; have := asCall_ok hr; subst this
      split at h
      · rename_i y hy
        split at h
        · rename_i z hz
          have := asName_ok hz
          rw [hy, this]
          simp only [Bool.and_eq_true, decide_eq_true_eq] at h
          obtain ⟨⟨⟨⟨⟨h1, h2⟩, h3⟩, h4⟩, h5⟩, h6⟩ := h
          exact h_val (g_isi G h1 h2 h3 h4 h5 (sE a sc W X _ G h6)) (fun _ => rfl)
        · cases h
      · cases h
    · cases h
  | .var i, sc, W, X, e, G, h => by
    simp only [ckTe] at h
    split at h
    · rename_i r hr; have := asName_ok hr; subst this
      simp only [Bool.and_eq_true, decide_eq_true_eq, Bool.not_eq_true'] at h
      exact h_val (g_var G h.1.1.1 (visB_ok h.1.1.2) h.1.2 h.2) (fun _ => rfl)
    · cases h
  | .call0 f, sc, W, X, e, G, h => by
    simp only [ckTe] at h
    split at h
    · rename_i r hr; have := asCall0_ok hr; subst this
      simp only [Bool.and_eq_true, decide_eq_true_eq] at h
      exact h_val (g_call0 G h.1 h.2) (fun _ => rfl)
    · cases h
  | .int _, sc, W, X, e, G, h => by simp [ckTe] at h
  | .bl _, sc, W, X, e, G, h => by simp [ckTe] at h
  | .non, sc, W, X, e, G, h => by simp [ckTe] at h
  | .str _, sc, W, X, e, G, h => by simp [ckTe] at h
  | .glob _, sc, W, X, e, G, h => by simp [ckTe] at h
  | .nil, sc, W, X, e, G, h => by simp [ckTe] at h
  | .cons _ _, sc, W, X, e, G, h => by simp [ckTe] at h
  | .tup _, sc, W, X, e, G, h => by simp [ckTe] at h
  | .lst _, sc, W, X, e, G, h => by simp [ckTe] at h
  | .bin _ _ _, sc, W, X, e, G, h => by simp [ckTe] at h
  | .neg _, sc, W, X, e, G, h => by simp [ckTe] at h
  | .ife _ _ _, sc, W, X, e, G, h => by simp [ckTe] at h
  | .idx _ _, sc, W, X, e, G, h => by simp [ckTe] at h
  | .slice _ _ _, sc, W, X, e, G, h => by simp [ckTe] at h
  | .no, sc, W, X, e, G, h => by simp [ckTe] at h
  | .comp _ _ _ _ _, sc, W, X, e, G, h => by simp [ckTe] at h
  | .app _ _, sc, W, X, e, G, h => by simp [ckTe] at h
  | .meth _ _ _, sc, W, X, e, G, h => by simp [ckTe] at h
  | .comp2 _ _ _ _ _ _ _ _, sc, W, X, e, G, h => by simp [ckTe] at h
  | .star _ _, sc, W, X, e, G, h => by simp [ckTe] at h
  | .dix _ _, sc, W, X, e, G, h => by simp [ckTe] at h
  | .ddisp _, sc, W, X, e, G, h => by simp [ckTe] at h
  | .rev _, sc, W, X, e, G, h => by simp [ckTe] at h
  | .tn _, sc, W, X, e, G, h => by simp [ckTe] at h
  | .tt _, sc, W, X, e, G, h => by simp [ckTe] at h
  | .ts _ _, sc, W, X, e, G, h => by simp [ckTe] at h
  | .iseq _, sc, W, X, e, G, h => by simp [ckTe] at h
  | .irng _, sc, W, X, e, G, h => by simp [ckTe] at h
  | .irng2 _ _, sc, W, X, e, G, h => by simp [ckTe] at h
  | .ienum _, sc, W, X, e, G, h => by simp [ckTe] at h
  | .izip _, sc, W, X, e, G, h => by simp [ckTe] at h
  | .izip3 _, sc, W, X, e, G, h => by simp [ckTe] at h
  | .skip, sc, W, X, e, G, h => by simp [ckTe] at h
  | .seq _ _, sc, W, X, e, G, h => by simp [ckTe] at h
  | .set _ _, sc, W, X, e, G, h => by simp [ckTe] at h
  | .ret _, sc, W, X, e, G, h => by simp [ckTe] at h
  | .retN, sc, W, X, e, G, h => by simp [ckTe] at h
  | .expr _, sc, W, X, e, G, h => by simp [ckTe] at h
  | .pass, sc, W, X, e, G, h => by simp [ckTe] at h
  | .cont, sc, W, X, e, G, h => by simp [ckTe] at h
  | .brk, sc, W, X, e, G, h => by simp [ckTe] at h
  | .sif _ _ _, sc, W, X, e, G, h => by simp [ckTe] at h
  | .whl _ _, sc, W, X, e, G, h => by simp [ckTe] at h
  | .sfor _ _ _, sc, W, X, e, G, h => by simp [ckTe] at h
  | .raise _ _, sc, W, X, e, G, h => by simp [ckTe] at h
  | .stl _ _ _, sc, W, X, e, G, h => by simp [ckTe] at h
  | .std _ _ _, sc, W, X, e, G, h => by simp [ckTe] at h
  | .setC _ _, sc, W, X, e, G, h => by simp [ckTe] at h
  | .par _ _, sc, W, X, e, G, h => by simp [ckTe] at h
theorem sA : ∀ (c : E) (sc : Scope) (W : WX) (X : Cx) (es : List Expr), Good cl T call k N sc W X → ckA T N c sc es = true → PA X es (tIA X.kw cl W T call c)
  | .nil, sc, W, X, es, G, h => by
    simp only [ckA] at h
    cases es with
    | nil => exact a_nil
    | cons _ _ => cases h
  | .cons a r, sc, W, X, es, G, h => by
    simp only [ckA] at h
    cases es with
    | nil => cases h
    | cons e es =>
      simp only [Bool.and_eq_true] at h
      exact a_cons h.1.1 (sE a sc W X _ G h.1.2) (sA r sc W X _ G h.2)
  | .star a r, sc, W, X, es, G, h => by
    simp only [ckA] at h
    cases es with
    | nil => cases h
    | cons e es =>
      dsimp only at h
      split at h
      · rename_i x hx; have := asStar_ok hx; subst this
        simp only [Bool.and_eq_true] at h
        exact a_star (sE a sc W X _ G h.1) (sA r sc W X _ G h.2)
      · cases h
  | .int _, sc, W, X, e, G, h => by simp [ckA] at h
  | .bl _, sc, W, X, e, G, h => by simp [ckA] at h
  | .non, sc, W, X, e, G, h => by simp [ckA] at h
  | .str _, sc, W, X, e, G, h => by simp [ckA] at h
  | .var _, sc, W, X, e, G, h => by simp [ckA] at h
  | .glob _, sc, W, X, e, G, h => by simp [ckA] at h
  | .tup _, sc, W, X, e, G, h => by simp [ckA] at h
  | .lst _, sc, W, X, e, G, h => by simp [ckA] at h
  | .bin _ _ _, sc, W, X, e, G, h => by simp [ckA] at h
  | .cmp _ _ _, sc, W, X, e, G, h => by simp [ckA] at h
  | .chain _ _ _ _ _, sc, W, X, e, G, h => by simp [ckA] at h
  | .neg _, sc, W, X, e, G, h => by simp [ckA] at h
  | .not _, sc, W, X, e, G, h => by simp [ckA] at h
  | .and _ _, sc, W, X, e, G, h => by simp [ckA] at h
  | .or _ _, sc, W, X, e, G, h => by simp [ckA] at h
  | .one _, sc, W, X, e, G, h => by simp [ckA] at h
  | .ife _ _ _, sc, W, X, e, G, h => by simp [ckA] at h
  | .idx _ _, sc, W, X, e, G, h => by simp [ckA] at h
  | .slice _ _ _, sc, W, X, e, G, h => by simp [ckA] at h
  | .no, sc, W, X, e, G, h => by simp [ckA] at h
  | .isi _ _, sc, W, X, e, G, h => by simp [ckA] at h
  | .call _ _, sc, W, X, e, G, h => by simp [ckA] at h
  | .blt _ _, sc, W, X, e, G, h => by simp [ckA] at h
  | .comp _ _ _ _ _, sc, W, X, e, G, h => by simp [ckA] at h
  | .app _ _, sc, W, X, e, G, h => by simp [ckA] at h
  | .call0 _, sc, W, X, e, G, h => by simp [ckA] at h
  | .meth _ _ _, sc, W, X, e, G, h => by simp [ckA] at h
  | .comp2 _ _ _ _ _ _ _ _, sc, W, X, e, G, h => by simp [ckA] at h
  | .never, sc, W, X, e, G, h => by simp [ckA] at h
  | .dix _ _, sc, W, X, e, G, h => by simp [ckA] at h
  | .ddisp _, sc, W, X, e, G, h => by simp [ckA] at h
  | .rev _, sc, W, X, e, G, h => by simp [ckA] at h
  | .tn _, sc, W, X, e, G, h => by simp [ckA] at h
  | .tt _, sc, W, X, e, G, h => by simp [ckA] at h
  | .ts _ _, sc, W, X, e, G, h => by simp [ckA] at h
  | .iseq _, sc, W, X, e, G, h => by simp [ckA] at h
  | .irng _, sc, W, X, e, G, h => by simp [ckA] at h
  | .irng2 _ _, sc, W, X, e, G, h => by simp [ckA] at h
  | .ienum _, sc, W, X, e, G, h => by simp [ckA] at h
  | .izip _, sc, W, X, e, G, h => by simp [ckA] at h
  | .izip3 _, sc, W, X, e, G, h => by simp [ckA] at h
  | .skip, sc, W, X, e, G, h => by simp [ckA] at h
  | .seq _ _, sc, W, X, e, G, h => by simp [ckA] at h
  | .set _ _, sc, W, X, e, G, h => by simp [ckA] at h
  | .ret _, sc, W, X, e, G, h => by simp [ckA] at h
  | .retN, sc, W, X, e, G, h => by simp [ckA] at h
  | .expr _, sc, W, X, e, G, h => by simp [ckA] at h
  | .pass, sc, W, X, e, G, h => by simp [ckA] at h
  | .cont, sc, W, X, e, G, h => by simp [ckA] at h
  | .brk, sc, W, X, e, G, h => by simp [ckA] at h
  | .sif _ _ _, sc, W, X, e, G, h => by simp [ckA] at h
  | .whl _ _, sc, W, X, e, G, h => by simp [ckA] at h
  | .sfor _ _ _, sc, W, X, e, G, h => by simp [ckA] at h
  | .raise _ _, sc, W, X, e, G, h => by simp [ckA] at h
  | .stl _ _ _, sc, W, X, e, G, h => by simp [ckA] at h
  | .std _ _ _, sc, W, X, e, G, h => by simp [ckA] at h
  | .setC _ _, sc, W, X, e, G, h => by simp [ckA] at h
  | .par _ _, sc, W, X, e, G, h => by simp [ckA] at h
theorem sP : ∀ (c : E) (sc : Scope) (W : WX) (X : Cx) (ks : List (Option Expr)) (vs : List Expr), Good cl T call k N sc W X → ckP T N c sc ks vs = true → PP X cl W T call ks vs c
  | .nil, sc, W, X, ks, vs, G, h => by
    simp only [ckP, Bool.and_eq_true] at h
    cases ks with
    | nil =>
      cases vs with
      | nil => exact .nil
      | cons _ _ => cases h.2
    | cons _ _ => cases h.1
  | .cons a (.cons b r), sc, W, X, ks, vs, G, h => by
    simp only [ckP] at h
    split at h
    · simp only [Bool.and_eq_true] at h
      exact .cons (sE a sc W X _ G h.1.1) (sE b sc W X _ G h.1.2) (sP r sc W X _ _ G h.2)
    · cases h
  | .cons _ (.int _), sc, W, X, ks, vs, G, h => by simp [ckP] at h
  | .cons _ (.bl _), sc, W, X, ks, vs, G, h => by simp [ckP] at h
  | .cons _ (.non), sc, W, X, ks, vs, G, h => by simp [ckP] at h
  | .cons _ (.str _), sc, W, X, ks, vs, G, h => by simp [ckP] at h
  | .cons _ (.var _), sc, W, X, ks, vs, G, h => by simp [ckP] at h
  | .cons _ (.glob _), sc, W, X, ks, vs, G, h => by simp [ckP] at h
  | .cons _ (.nil), sc, W, X, ks, vs, G, h => by simp [ckP] at h
  | .cons _ (.tup _), sc, W, X, ks, vs, G, h => by simp [ckP] at h
  | .cons _ (.lst _), sc, W, X, ks, vs, G, h => by simp [ckP] at h
  | .cons _ (.bin _ _ _), sc, W, X, ks, vs, G, h => by simp [ckP] at h
  | .cons _ (.cmp _ _ _), sc, W, X, ks, vs, G, h => by simp [ckP] at h
  | .cons _ (.chain _ _ _ _ _), sc, W, X, ks, vs, G, h => by simp [ckP] at h
  | .cons _ (.neg _), sc, W, X, ks, vs, G, h => by simp [ckP] at h
  | .cons _ (.not _), sc, W, X, ks, vs, G, h => by simp [ckP] at h
  | .cons _ (.and _ _), sc, W, X, ks, vs, G, h => by simp [ckP] at h
  | .cons _ (.or _ _), sc, W, X, ks, vs, G, h => by simp [ckP] at h
  | .cons _ (.one _), sc, W, X, ks, vs, G, h => by simp [ckP] at h
  | .cons _ (.ife _ _ _), sc, W, X, ks, vs, G, h => by simp [ckP] at h
  | .cons _ (.idx _ _), sc, W, X, ks, vs, G, h => by simp [ckP] at h
  | .cons _ (.slice _ _ _), sc, W, X, ks, vs, G, h => by simp [ckP] at h
  | .cons _ (.no), sc, W, X, ks, vs, G, h => by simp [ckP] at h
  | .cons _ (.isi _ _), sc, W, X, ks, vs, G, h => by simp [ckP] at h
  | .cons _ (.call _ _), sc, W, X, ks, vs, G, h => by simp [ckP] at h
  | .cons _ (.blt _ _), sc, W, X, ks, vs, G, h => by simp [ckP] at h
  | .cons _ (.comp _ _ _ _ _), sc, W, X, ks, vs, G, h => by simp [ckP] at h
  | .cons _ (.app _ _), sc, W, X, ks, vs, G, h => by simp [ckP] at h
  | .cons _ (.call0 _), sc, W, X, ks, vs, G, h => by simp [ckP] at h
  | .cons _ (.meth _ _ _), sc, W, X, ks, vs, G, h => by simp [ckP] at h
  | .cons _ (.comp2 _ _ _ _ _ _ _ _), sc, W, X, ks, vs, G, h => by simp [ckP] at h
  | .cons _ (.never), sc, W, X, ks, vs, G, h => by simp [ckP] at h
  | .cons _ (.star _ _), sc, W, X, ks, vs, G, h => by simp [ckP] at h
  | .cons _ (.dix _ _), sc, W, X, ks, vs, G, h => by simp [ckP] at h
  | .cons _ (.ddisp _), sc, W, X, ks, vs, G, h => by simp [ckP] at h
  | .cons _ (.rev _), sc, W, X, ks, vs, G, h => by simp [ckP] at h
  | .cons _ (.tn _), sc, W, X, ks, vs, G, h => by simp [ckP] at h
  | .cons _ (.tt _), sc, W, X, ks, vs, G, h => by simp [ckP] at h
  | .cons _ (.ts _ _), sc, W, X, ks, vs, G, h => by simp [ckP] at h
  | .cons _ (.iseq _), sc, W, X, ks, vs, G, h => by simp [ckP] at h
  | .cons _ (.irng _), sc, W, X, ks, vs, G, h => by simp [ckP] at h
  | .cons _ (.irng2 _ _), sc, W, X, ks, vs, G, h => by simp [ckP] at h
  | .cons _ (.ienum _), sc, W, X, ks, vs, G, h => by simp [ckP] at h
  | .cons _ (.izip _), sc, W, X, ks, vs, G, h => by simp [ckP] at h
  | .cons _ (.izip3 _), sc, W, X, ks, vs, G, h => by simp [ckP] at h
  | .cons _ (.skip), sc, W, X, ks, vs, G, h => by simp [ckP] at h
  | .cons _ (.seq _ _), sc, W, X, ks, vs, G, h => by simp [ckP] at h
  | .cons _ (.set _ _), sc, W, X, ks, vs, G, h => by simp [ckP] at h
  | .cons _ (.ret _), sc, W, X, ks, vs, G, h => by simp [ckP] at h
  | .cons _ (.retN), sc, W, X, ks, vs, G, h => by simp [ckP] at h
  | .cons _ (.expr _), sc, W, X, ks, vs, G, h => by simp [ckP] at h
  | .cons _ (.pass), sc, W, X, ks, vs, G, h => by simp [ckP] at h
  | .cons _ (.cont), sc, W, X, ks, vs, G, h => by simp [ckP] at h
  | .cons _ (.brk), sc, W, X, ks, vs, G, h => by simp [ckP] at h
  | .cons _ (.sif _ _ _), sc, W, X, ks, vs, G, h => by simp [ckP] at h
  | .cons _ (.whl _ _), sc, W, X, ks, vs, G, h => by simp [ckP] at h
  | .cons _ (.sfor _ _ _), sc, W, X, ks, vs, G, h => by simp [ckP] at h
  | .cons _ (.raise _ _), sc, W, X, ks, vs, G, h => by simp [ckP] at h
  | .cons _ (.stl _ _ _), sc, W, X, ks, vs, G, h => by simp [ckP] at h
  | .cons _ (.std _ _ _), sc, W, X, ks, vs, G, h => by simp [ckP] at h
  | .cons _ (.setC _ _), sc, W, X, ks, vs, G, h => by simp [ckP] at h
  | .cons _ (.par _ _), sc, W, X, ks, vs, G, h => by simp [ckP] at h
  | .int _, sc, W, X, ks, vs, G, h => by simp [ckP] at h
  | .bl _, sc, W, X, ks, vs, G, h => by simp [ckP] at h
  | .non, sc, W, X, ks, vs, G, h => by simp [ckP] at h
  | .str _, sc, W, X, ks, vs, G, h => by simp [ckP] at h
  | .var _, sc, W, X, ks, vs, G, h => by simp [ckP] at h
  | .glob _, sc, W, X, ks, vs, G, h => by simp [ckP] at h
  | .tup _, sc, W, X, ks, vs, G, h => by simp [ckP] at h
  | .lst _, sc, W, X, ks, vs, G, h => by simp [ckP] at h
  | .bin _ _ _, sc, W, X, ks, vs, G, h => by simp [ckP] at h
  | .cmp _ _ _, sc, W, X, ks, vs, G, h => by simp [ckP] at h
  | .chain _ _ _ _ _, sc, W, X, ks, vs, G, h => by simp [ckP] at h
  | .neg _, sc, W, X, ks, vs, G, h => by simp [ckP] at h
  | .not _, sc, W, X, ks, vs, G, h => by simp [ckP] at h
  | .and _ _, sc, W, X, ks, vs, G, h => by simp [ckP] at h
  | .or _ _, sc, W, X, ks, vs, G, h => by simp [ckP] at h
  | .one _, sc, W, X, ks, vs, G, h => by simp [ckP] at h
  | .ife _ _ _, sc, W, X, ks, vs, G, h => by simp [ckP] at h
  | .idx _ _, sc, W, X, ks, vs, G, h => by simp [ckP] at h
  | .slice _ _ _, sc, W, X, ks, vs, G, h => by simp [ckP] at h
  | .no, sc, W, X, ks, vs, G, h => by simp [ckP] at h
  | .isi _ _, sc, W, X, ks, vs, G, h => by simp [ckP] at h
  | .call _ _, sc, W, X, ks, vs, G, h => by simp [ckP] at h
  | .blt _ _, sc, W, X, ks, vs, G, h => by simp [ckP] at h
  | .comp _ _ _ _ _, sc, W, X, ks, vs, G, h => by simp [ckP] at h
  | .app _ _, sc, W, X, ks, vs, G, h => by simp [ckP] at h
  | .call0 _, sc, W, X, ks, vs, G, h => by simp [ckP] at h
  | .meth _ _ _, sc, W, X, ks, vs, G, h => by simp [ckP] at h
  | .comp2 _ _ _ _ _ _ _ _, sc, W, X, ks, vs, G, h => by simp [ckP] at h
  | .never, sc, W, X, ks, vs, G, h => by simp [ckP] at h
  | .star _ _, sc, W, X, ks, vs, G, h => by simp [ckP] at h
  | .dix _ _, sc, W, X, ks, vs, G, h => by simp [ckP] at h
  | .ddisp _, sc, W, X, ks, vs, G, h => by simp [ckP] at h
  | .rev _, sc, W, X, ks, vs, G, h => by simp [ckP] at h
  | .tn _, sc, W, X, ks, vs, G, h => by simp [ckP] at h
  | .tt _, sc, W, X, ks, vs, G, h => by simp [ckP] at h
  | .ts _ _, sc, W, X, ks, vs, G, h => by simp [ckP] at h
  | .iseq _, sc, W, X, ks, vs, G, h => by simp [ckP] at h
  | .irng _, sc, W, X, ks, vs, G, h => by simp [ckP] at h
  | .irng2 _ _, sc, W, X, ks, vs, G, h => by simp [ckP] at h
  | .ienum _, sc, W, X, ks, vs, G, h => by simp [ckP] at h
  | .izip _, sc, W, X, ks, vs, G, h => by simp [ckP] at h
  | .izip3 _, sc, W, X, ks, vs, G, h => by simp [ckP] at h
  | .skip, sc, W, X, ks, vs, G, h => by simp [ckP] at h
  | .seq _ _, sc, W, X, ks, vs, G, h => by simp [ckP] at h
  | .set _ _, sc, W, X, ks, vs, G, h => by simp [ckP] at h
  | .ret _, sc, W, X, ks, vs, G, h => by simp [ckP] at h
  | .retN, sc, W, X, ks, vs, G, h => by simp [ckP] at h
  | .expr _, sc, W, X, ks, vs, G, h => by simp [ckP] at h
  | .pass, sc, W, X, ks, vs, G, h => by simp [ckP] at h
  | .cont, sc, W, X, ks, vs, G, h => by simp [ckP] at h
  | .brk, sc, W, X, ks, vs, G, h => by simp [ckP] at h
  | .sif _ _ _, sc, W, X, ks, vs, G, h => by simp [ckP] at h
  | .whl _ _, sc, W, X, ks, vs, G, h => by simp [ckP] at h
  | .sfor _ _ _, sc, W, X, ks, vs, G, h => by simp [ckP] at h
  | .raise _ _, sc, W, X, ks, vs, G, h => by simp [ckP] at h
  | .stl _ _ _, sc, W, X, ks, vs, G, h => by simp [ckP] at h
  | .std _ _ _, sc, W, X, ks, vs, G, h => by simp [ckP] at h
  | .setC _ _, sc, W, X, ks, vs, G, h => by simp [ckP] at h
  | .par _ _, sc, W, X, ks, vs, G, h => by simp [ckP] at h
theorem sI : ∀ (c : E) (sc : Scope) (W : WX) (X : Cx) (tg e : Expr), Good cl T call k N sc W X → ckI T N c sc tg e = true → PI X tg e (tII X.kw cl W T call c)
  | .iseq a, sc, W, X, tg, e, G, h => by
    simp only [ckI] at h
    exact i_seq (sE a sc W X _ G h)
  | .irng a, sc, W, X, tg, e, G, h => by
    simp only [ckI] at h
    split at h
    · rename_i r hr; have := asCall_ok hr; subst this
      split at h
      · rename_i hn
        rw [hn]
        simp only [Bool.and_eq_true, decide_eq_true_eq] at h
        exact i_rng G h.1.1.1 h.1.1.2 h.1.2 (sE a sc W X _ G h.2)
      · cases h
    · cases h
  | .ienum a, sc, W, X, tg, e, G, h => by
    simp only [ckI] at h
    split at h
    · rename_i q r hq hr; have := asCall_ok hr; subst this
      have := asTup_ok hq; subst this
      split at h
      · rename_i hn
        rw [hn]
        simp only [Bool.and_eq_true, decide_eq_true_eq] at h
        exact i_enum G h.1.1.1 h.1.1.2 h.1.2 (sE a sc W X _ G h.2)
      · cases h
    · cases h
  | .izip a, sc, W, X, tg, e, G, h => by
    simp only [ckI] at h
    split at h
    · rename_i q r hq hr; have := asCall_ok hr; subst this
      have := asTup_ok hq; subst this
      split at h
      · rename_i y hn
        rw [hn]
        simp only [Bool.and_eq_true, decide_eq_true_eq] at h
        exact i_zip2 G h.1.1.1 h.1.1.2 h.1.2 (sA a sc W X _ G h.2)
      · cases h
    · cases h
  | .izip3 a, sc, W, X, tg, e, G, h => by
    simp only [ckI] at h
    split at h
    · rename_i q r hq hr; have := asCall_ok hr; subst this
      have := asTup_ok hq; subst this
      split at h
      · rename_i y z hn
        rw [hn]
        simp only [Bool.and_eq_true, decide_eq_true_eq] at h
        exact i_zip3 G h.1.1.1 h.1.1.2 h.1.2 (sA a sc W X _ G h.2)
      · cases h
    · cases h
  | .int _, sc, W, X, tg, e, G, h => by simp [ckI] at h
  | .bl _, sc, W, X, tg, e, G, h => by simp [ckI] at h
  | .non, sc, W, X, tg, e, G, h => by simp [ckI] at h
  | .str _, sc, W, X, tg, e, G, h => by simp [ckI] at h
  | .var _, sc, W, X, tg, e, G, h => by simp [ckI] at h
  | .glob _, sc, W, X, tg, e, G, h => by simp [ckI] at h
  | .nil, sc, W, X, tg, e, G, h => by simp [ckI] at h
  | .cons _ _, sc, W, X, tg, e, G, h => by simp [ckI] at h
  | .tup _, sc, W, X, tg, e, G, h => by simp [ckI] at h
  | .lst _, sc, W, X, tg, e, G, h => by simp [ckI] at h
  | .bin _ _ _, sc, W, X, tg, e, G, h => by simp [ckI] at h
  | .cmp _ _ _, sc, W, X, tg, e, G, h => by simp [ckI] at h
  | .chain _ _ _ _ _, sc, W, X, tg, e, G, h => by simp [ckI] at h
  | .neg _, sc, W, X, tg, e, G, h => by simp [ckI] at h
  | .not _, sc, W, X, tg, e, G, h => by simp [ckI] at h
  | .and _ _, sc, W, X, tg, e, G, h => by simp [ckI] at h
  | .or _ _, sc, W, X, tg, e, G, h => by simp [ckI] at h
  | .one _, sc, W, X, tg, e, G, h => by simp [ckI] at h
  | .ife _ _ _, sc, W, X, tg, e, G, h => by simp [ckI] at h
  | .idx _ _, sc, W, X, tg, e, G, h => by simp [ckI] at h
  | .slice _ _ _, sc, W, X, tg, e, G, h => by simp [ckI] at h
  | .no, sc, W, X, tg, e, G, h => by simp [ckI] at h
  | .isi _ _, sc, W, X, tg, e, G, h => by simp [ckI] at h
  | .call _ _, sc, W, X, tg, e, G, h => by simp [ckI] at h
  | .blt _ _, sc, W, X, tg, e, G, h => by simp [ckI] at h
  | .comp _ _ _ _ _, sc, W, X, tg, e, G, h => by simp [ckI] at h
  | .app _ _, sc, W, X, tg, e, G, h => by simp [ckI] at h
  | .call0 _, sc, W, X, tg, e, G, h => by simp [ckI] at h
  | .meth _ _ _, sc, W, X, tg, e, G, h => by simp [ckI] at h
  | .comp2 _ _ _ _ _ _ _ _, sc, W, X, tg, e, G, h => by simp [ckI] at h
  | .never, sc, W, X, tg, e, G, h => by simp [ckI] at h
  | .star _ _, sc, W, X, tg, e, G, h => by simp [ckI] at h
  | .dix _ _, sc, W, X, tg, e, G, h => by simp [ckI] at h
  | .ddisp _, sc, W, X, tg, e, G, h => by simp [ckI] at h
  | .rev _, sc, W, X, tg, e, G, h => by simp [ckI] at h
  | .tn _, sc, W, X, tg, e, G, h => by simp [ckI] at h
  | .tt _, sc, W, X, tg, e, G, h => by simp [ckI] at h
  | .ts _ _, sc, W, X, tg, e, G, h => by simp [ckI] at h
  | .irng2 _ _, sc, W, X, tg, e, G, h => by simp [ckI] at h
  | .skip, sc, W, X, tg, e, G, h => by simp [ckI] at h
  | .seq _ _, sc, W, X, tg, e, G, h => by simp [ckI] at h
  | .set _ _, sc, W, X, tg, e, G, h => by simp [ckI] at h
  | .ret _, sc, W, X, tg, e, G, h => by simp [ckI] at h
  | .retN, sc, W, X, tg, e, G, h => by simp [ckI] at h
  | .expr _, sc, W, X, tg, e, G, h => by simp [ckI] at h
  | .pass, sc, W, X, tg, e, G, h => by simp [ckI] at h
  | .cont, sc, W, X, tg, e, G, h => by simp [ckI] at h
  | .brk, sc, W, X, tg, e, G, h => by simp [ckI] at h
  | .sif _ _ _, sc, W, X, tg, e, G, h => by simp [ckI] at h
  | .whl _ _, sc, W, X, tg, e, G, h => by simp [ckI] at h
  | .sfor _ _ _, sc, W, X, tg, e, G, h => by simp [ckI] at h
  | .raise _ _, sc, W, X, tg, e, G, h => by simp [ckI] at h
  | .stl _ _ _, sc, W, X, tg, e, G, h => by simp [ckI] at h
  | .std _ _ _, sc, W, X, tg, e, G, h => by simp [ckI] at h
  | .setC _ _, sc, W, X, tg, e, G, h => by simp [ckI] at h
  | .par _ _, sc, W, X, tg, e, G, h => by simp [ckI] at h
theorem sG : ∀ (c : E) (sc : Scope) (W : WX) (X : Cx) (fb : Str → Bool) (e : Expr), Good cl T call k N sc W X → X.fn = fb → ckT N fb c sc e = true → PG X e (tG X.kw c)
  | .tn i, sc, W, X, fb, e, G, hf, h => by
    simp only [ckT] at h
    split at h
    · rename_i r hr; have := asName_ok hr; subst this
      simp only [Bool.and_eq_true, Bool.or_eq_true, decide_eq_true_eq] at h
      obtain ⟨h1, h2⟩ := h
      rcases h2 with h2 | ⟨h2, h3⟩
      · have : sc.names.lookup r.1 = some .local := by
          unfold locB at h2
          split at h2
          · assumption
          · cases h2
        exact g_tn G h1 (.inl this) (.inr this)
      · have : sc.names.lookup r.1 = some .cell := by
          unfold isCell at h2
          split at h2
          · assumption
          · cases h2
        exact g_tn G h1 (.inr this) (.inl (by rw [hf]; exact h3))
    · cases h
  | .tt a, sc, W, X, fb, e, G, hf, h => by
    simp only [ckT] at h
    split at h
    · rename_i r hr; have := asTup_ok hr; subst this
      simp only [Bool.and_eq_true, decide_eq_true_eq] at h
      obtain ⟨⟨⟨h1, h2⟩, h3⟩, h4⟩ := h
      exact g_tt G h1 h2 h3 (sGs a sc W X fb _ G hf h4)
    · cases h
  | .int _, sc, W, X, fb, e, G, hf, h => by simp [ckT] at h
  | .bl _, sc, W, X, fb, e, G, hf, h => by simp [ckT] at h
  | .non, sc, W, X, fb, e, G, hf, h => by simp [ckT] at h
  | .str _, sc, W, X, fb, e, G, hf, h => by simp [ckT] at h
  | .var _, sc, W, X, fb, e, G, hf, h => by simp [ckT] at h
  | .glob _, sc, W, X, fb, e, G, hf, h => by simp [ckT] at h
  | .nil, sc, W, X, fb, e, G, hf, h => by simp [ckT] at h
  | .cons _ _, sc, W, X, fb, e, G, hf, h => by simp [ckT] at h
  | .tup _, sc, W, X, fb, e, G, hf, h => by simp [ckT] at h
  | .lst _, sc, W, X, fb, e, G, hf, h => by simp [ckT] at h
  | .bin _ _ _, sc, W, X, fb, e, G, hf, h => by simp [ckT] at h
  | .cmp _ _ _, sc, W, X, fb, e, G, hf, h => by simp [ckT] at h
  | .chain _ _ _ _ _, sc, W, X, fb, e, G, hf, h => by simp [ckT] at h
  | .neg _, sc, W, X, fb, e, G, hf, h => by simp [ckT] at h
  | .not _, sc, W, X, fb, e, G, hf, h => by simp [ckT] at h
  | .and _ _, sc, W, X, fb, e, G, hf, h => by simp [ckT] at h
  | .or _ _, sc, W, X, fb, e, G, hf, h => by simp [ckT] at h
  | .one _, sc, W, X, fb, e, G, hf, h => by simp [ckT] at h
  | .ife _ _ _, sc, W, X, fb, e, G, hf, h => by simp [ckT] at h
  | .idx _ _, sc, W, X, fb, e, G, hf, h => by simp [ckT] at h
  | .slice _ _ _, sc, W, X, fb, e, G, hf, h => by simp [ckT] at h
  | .no, sc, W, X, fb, e, G, hf, h => by simp [ckT] at h
  | .isi _ _, sc, W, X, fb, e, G, hf, h => by simp [ckT] at h
  | .call _ _, sc, W, X, fb, e, G, hf, h => by simp [ckT] at h
  | .blt _ _, sc, W, X, fb, e, G, hf, h => by simp [ckT] at h
  | .comp _ _ _ _ _, sc, W, X, fb, e, G, hf, h => by simp [ckT] at h
  | .app _ _, sc, W, X, fb, e, G, hf, h => by simp [ckT] at h
  | .call0 _, sc, W, X, fb, e, G, hf, h => by simp [ckT] at h
  | .meth _ _ _, sc, W, X, fb, e, G, hf, h => by simp [ckT] at h
  | .comp2 _ _ _ _ _ _ _ _, sc, W, X, fb, e, G, hf, h => by simp [ckT] at h
  | .never, sc, W, X, fb, e, G, hf, h => by simp [ckT] at h
  | .star _ _, sc, W, X, fb, e, G, hf, h => by simp [ckT] at h
  | .dix _ _, sc, W, X, fb, e, G, hf, h => by simp [ckT] at h
  | .ddisp _, sc, W, X, fb, e, G, hf, h => by simp [ckT] at h
  | .rev _, sc, W, X, fb, e, G, hf, h => by simp [ckT] at h
  | .ts _ _, sc, W, X, fb, e, G, hf, h => by simp [ckT] at h
  | .iseq _, sc, W, X, fb, e, G, hf, h => by simp [ckT] at h
  | .irng _, sc, W, X, fb, e, G, hf, h => by simp [ckT] at h
  | .irng2 _ _, sc, W, X, fb, e, G, hf, h => by simp [ckT] at h
  | .ienum _, sc, W, X, fb, e, G, hf, h => by simp [ckT] at h
  | .izip _, sc, W, X, fb, e, G, hf, h => by simp [ckT] at h
  | .izip3 _, sc, W, X, fb, e, G, hf, h => by simp [ckT] at h
  | .skip, sc, W, X, fb, e, G, hf, h => by simp [ckT] at h
  | .seq _ _, sc, W, X, fb, e, G, hf, h => by simp [ckT] at h
  | .set _ _, sc, W, X, fb, e, G, hf, h => by simp [ckT] at h
  | .ret _, sc, W, X, fb, e, G, hf, h => by simp [ckT] at h
  | .retN, sc, W, X, fb, e, G, hf, h => by simp [ckT] at h
  | .expr _, sc, W, X, fb, e, G, hf, h => by simp [ckT] at h
  | .pass, sc, W, X, fb, e, G, hf, h => by simp [ckT] at h
  | .cont, sc, W, X, fb, e, G, hf, h => by simp [ckT] at h
  | .brk, sc, W, X, fb, e, G, hf, h => by simp [ckT] at h
  | .sif _ _ _, sc, W, X, fb, e, G, hf, h => by simp [ckT] at h
  | .whl _ _, sc, W, X, fb, e, G, hf, h => by simp [ckT] at h
  | .sfor _ _ _, sc, W, X, fb, e, G, hf, h => by simp [ckT] at h
  | .raise _ _, sc, W, X, fb, e, G, hf, h => by simp [ckT] at h
  | .stl _ _ _, sc, W, X, fb, e, G, hf, h => by simp [ckT] at h
  | .std _ _ _, sc, W, X, fb, e, G, hf, h => by simp [ckT] at h
  | .setC _ _, sc, W, X, fb, e, G, hf, h => by simp [ckT] at h
  | .par _ _, sc, W, X, fb, e, G, hf, h => by simp [ckT] at h
theorem sGs : ∀ (c : E) (sc : Scope) (W : WX) (X : Cx) (fb : Str → Bool) (es : List Expr), Good cl T call k N sc W X → X.fn = fb → ckTs N fb c sc es = true → PGs X es (tGs X.kw c)
  | .nil, sc, W, X, fb, es, G, hf, h => by
    simp only [ckTs] at h
    cases es with
    | nil => exact g_tnil
    | cons _ _ => cases h
  | .cons a r, sc, W, X, fb, es, G, hf, h => by
    simp only [ckTs] at h
    cases es with
    | nil => cases h
    | cons e es =>
      simp only [Bool.and_eq_true] at h
      exact g_tcons h.1.1 (sG a sc W X fb _ G hf h.1.2) (sGs r sc W X fb _ G hf h.2)
  | .int _, sc, W, X, fb, e, G, hf, h => by simp [ckTs] at h
  | .bl _, sc, W, X, fb, e, G, hf, h => by simp [ckTs] at h
  | .non, sc, W, X, fb, e, G, hf, h => by simp [ckTs] at h
  | .str _, sc, W, X, fb, e, G, hf, h => by simp [ckTs] at h
  | .var _, sc, W, X, fb, e, G, hf, h => by simp [ckTs] at h
  | .glob _, sc, W, X, fb, e, G, hf, h => by simp [ckTs] at h
  | .tup _, sc, W, X, fb, e, G, hf, h => by simp [ckTs] at h
  | .lst _, sc, W, X, fb, e, G, hf, h => by simp [ckTs] at h
  | .bin _ _ _, sc, W, X, fb, e, G, hf, h => by simp [ckTs] at h
  | .cmp _ _ _, sc, W, X, fb, e, G, hf, h => by simp [ckTs] at h
  | .chain _ _ _ _ _, sc, W, X, fb, e, G, hf, h => by simp [ckTs] at h
  | .neg _, sc, W, X, fb, e, G, hf, h => by simp [ckTs] at h
  | .not _, sc, W, X, fb, e, G, hf, h => by simp [ckTs] at h
  | .and _ _, sc, W, X, fb, e, G, hf, h => by simp [ckTs] at h
  | .or _ _, sc, W, X, fb, e, G, hf, h => by simp [ckTs] at h
  | .one _, sc, W, X, fb, e, G, hf, h => by simp [ckTs] at h
  | .ife _ _ _, sc, W, X, fb, e, G, hf, h => by simp [ckTs] at h
  | .idx _ _, sc, W, X, fb, e, G, hf, h => by simp [ckTs] at h
  | .slice _ _ _, sc, W, X, fb, e, G, hf, h => by simp [ckTs] at h
  | .no, sc, W, X, fb, e, G, hf, h => by simp [ckTs] at h
  | .isi _ _, sc, W, X, fb, e, G, hf, h => by simp [ckTs] at h
  | .call _ _, sc, W, X, fb, e, G, hf, h => by simp [ckTs] at h
  | .blt _ _, sc, W, X, fb, e, G, hf, h => by simp [ckTs] at h
  | .comp _ _ _ _ _, sc, W, X, fb, e, G, hf, h => by simp [ckTs] at h
  | .app _ _, sc, W, X, fb, e, G, hf, h => by simp [ckTs] at h
  | .call0 _, sc, W, X, fb, e, G, hf, h => by simp [ckTs] at h
  | .meth _ _ _, sc, W, X, fb, e, G, hf, h => by simp [ckTs] at h
  | .comp2 _ _ _ _ _ _ _ _, sc, W, X, fb, e, G, hf, h => by simp [ckTs] at h
  | .never, sc, W, X, fb, e, G, hf, h => by simp [ckTs] at h
  | .star _ _, sc, W, X, fb, e, G, hf, h => by simp [ckTs] at h
  | .dix _ _, sc, W, X, fb, e, G, hf, h => by simp [ckTs] at h
  | .ddisp _, sc, W, X, fb, e, G, hf, h => by simp [ckTs] at h
  | .rev _, sc, W, X, fb, e, G, hf, h => by simp [ckTs] at h
  | .tn _, sc, W, X, fb, e, G, hf, h => by simp [ckTs] at h
  | .tt _, sc, W, X, fb, e, G, hf, h => by simp [ckTs] at h
  | .ts _ _, sc, W, X, fb, e, G, hf, h => by simp [ckTs] at h
  | .iseq _, sc, W, X, fb, e, G, hf, h => by simp [ckTs] at h
  | .irng _, sc, W, X, fb, e, G, hf, h => by simp [ckTs] at h
  | .irng2 _ _, sc, W, X, fb, e, G, hf, h => by simp [ckTs] at h
  | .ienum _, sc, W, X, fb, e, G, hf, h => by simp [ckTs] at h
  | .izip _, sc, W, X, fb, e, G, hf, h => by simp [ckTs] at h
  | .izip3 _, sc, W, X, fb, e, G, hf, h => by simp [ckTs] at h
  | .skip, sc, W, X, fb, e, G, hf, h => by simp [ckTs] at h
  | .seq _ _, sc, W, X, fb, e, G, hf, h => by simp [ckTs] at h
  | .set _ _, sc, W, X, fb, e, G, hf, h => by simp [ckTs] at h
  | .ret _, sc, W, X, fb, e, G, hf, h => by simp [ckTs] at h
  | .retN, sc, W, X, fb, e, G, hf, h => by simp [ckTs] at h
  | .expr _, sc, W, X, fb, e, G, hf, h => by simp [ckTs] at h
  | .pass, sc, W, X, fb, e, G, hf, h => by simp [ckTs] at h
  | .cont, sc, W, X, fb, e, G, hf, h => by simp [ckTs] at h
  | .brk, sc, W, X, fb, e, G, hf, h => by simp [ckTs] at h
  | .sif _ _ _, sc, W, X, fb, e, G, hf, h => by simp [ckTs] at h
  | .whl _ _, sc, W, X, fb, e, G, hf, h => by simp [ckTs] at h
  | .sfor _ _ _, sc, W, X, fb, e, G, hf, h => by simp [ckTs] at h
  | .raise _ _, sc, W, X, fb, e, G, hf, h => by simp [ckTs] at h
  | .stl _ _ _, sc, W, X, fb, e, G, hf, h => by simp [ckTs] at h
  | .std _ _ _, sc, W, X, fb, e, G, hf, h => by simp [ckTs] at h
  | .setC _ _, sc, W, X, fb, e, G, hf, h => by simp [ckTs] at h
  | .par _ _, sc, W, X, fb, e, G, hf, h => by simp [ckTs] at h
theorem sW : ∀ (c : E) (sc : Scope) (W : WX) (X : Cx) (e : Expr), Good cl T call k N sc W X → ckTe T N c sc e = true → isBo c = true → PW X e (tIT X.kw cl W T call c)
  | .never, sc, W, X, e, G, h, _ => ⟨fun _ _ _ _ _ _ _ ⟨_, _, _, _, _, h⟩ => by simp only [ev] at h; exact h.elim⟩
  | .one a, sc, W, X, e, G, h, _ => by
    simp only [ckTe] at h
    split at h
    · rename_i r hr; have := asBo1_ok hr; subst this
      obtain ⟨o, x, p⟩ := r
      have i : ∀ σ H Q, tIT X.kw cl W T call (.one a) σ H Q → tIT X.kw cl W T call a σ H Q := fun σ H Q h => one_read h
      cases o with
      | And => exact PW_imp (pw_and1 (sT a sc W X _ G h)) i
      | Or => exact PW_imp (pw_or1 (sT a sc W X _ G h)) i
    · cases h
  | .and a b, sc, W, X, e, G, h, _ => by
    simp only [ckTe] at h
    split at h
    · rename_i r hr; have := asBo2_ok hr; subst this
      simp only [Bool.and_eq_true, decide_eq_true_eq] at h
      obtain ⟨⟨h1, h2⟩, h3⟩ := h
      rw [h1] at h3 ⊢
      refine PW_imp (pw_and (sT a sc W X _ G h2) (sW b sc W X _ G h3 (bo_of h3))) fun σ H Q h => ?_
      exact tI_imp (and_read h) and_fit
    · cases h
  | .or a b, sc, W, X, e, G, h, _ => by
    simp only [ckTe] at h
    split at h
    · rename_i r hr; have := asBo2_ok hr; subst this
      simp only [Bool.and_eq_true, decide_eq_true_eq] at h
      obtain ⟨⟨h1, h2⟩, h3⟩ := h
      rw [h1] at h3 ⊢
      refine PW_imp (pw_or (sT a sc W X _ G h2) (sW b sc W X _ G h3 (bo_of h3))) fun σ H Q h => ?_
      exact tI_imp (or_read h) or_fit
    · cases h
  | .int _, sc, W, X, e, G, h, hb => by simp [isBo] at hb
  | .bl _, sc, W, X, e, G, h, hb => by simp [isBo] at hb
  | .non, sc, W, X, e, G, h, hb => by simp [isBo] at hb
  | .str _, sc, W, X, e, G, h, hb => by simp [isBo] at hb
  | .var _, sc, W, X, e, G, h, hb => by simp [isBo] at hb
  | .glob _, sc, W, X, e, G, h, hb => by simp [isBo] at hb
  | .nil, sc, W, X, e, G, h, hb => by simp [isBo] at hb
  | .cons _ _, sc, W, X, e, G, h, hb => by simp [isBo] at hb
  | .tup _, sc, W, X, e, G, h, hb => by simp [isBo] at hb
  | .lst _, sc, W, X, e, G, h, hb => by simp [isBo] at hb
  | .bin _ _ _, sc, W, X, e, G, h, hb => by simp [isBo] at hb
  | .cmp _ _ _, sc, W, X, e, G, h, hb => by simp [isBo] at hb
  | .chain _ _ _ _ _, sc, W, X, e, G, h, hb => by simp [isBo] at hb
  | .neg _, sc, W, X, e, G, h, hb => by simp [isBo] at hb
  | .not _, sc, W, X, e, G, h, hb => by simp [isBo] at hb
  | .ife _ _ _, sc, W, X, e, G, h, hb => by simp [isBo] at hb
  | .idx _ _, sc, W, X, e, G, h, hb => by simp [isBo] at hb
  | .slice _ _ _, sc, W, X, e, G, h, hb => by simp [isBo] at hb
  | .no, sc, W, X, e, G, h, hb => by simp [isBo] at hb
  | .isi _ _, sc, W, X, e, G, h, hb => by simp [isBo] at hb
  | .call _ _, sc, W, X, e, G, h, hb => by simp [isBo] at hb
  | .blt _ _, sc, W, X, e, G, h, hb => by simp [isBo] at hb
  | .comp _ _ _ _ _, sc, W, X, e, G, h, hb => by simp [isBo] at hb
  | .app _ _, sc, W, X, e, G, h, hb => by simp [isBo] at hb
  | .call0 _, sc, W, X, e, G, h, hb => by simp [isBo] at hb
  | .meth _ _ _, sc, W, X, e, G, h, hb => by simp [isBo] at hb
  | .comp2 _ _ _ _ _ _ _ _, sc, W, X, e, G, h, hb => by simp [isBo] at hb
  | .star _ _, sc, W, X, e, G, h, hb => by simp [isBo] at hb
  | .dix _ _, sc, W, X, e, G, h, hb => by simp [isBo] at hb
  | .ddisp _, sc, W, X, e, G, h, hb => by simp [isBo] at hb
  | .rev _, sc, W, X, e, G, h, hb => by simp [isBo] at hb
  | .tn _, sc, W, X, e, G, h, hb => by simp [isBo] at hb
  | .tt _, sc, W, X, e, G, h, hb => by simp [isBo] at hb
  | .ts _ _, sc, W, X, e, G, h, hb => by simp [isBo] at hb
  | .iseq _, sc, W, X, e, G, h, hb => by simp [isBo] at hb
  | .irng _, sc, W, X, e, G, h, hb => by simp [isBo] at hb
  | .irng2 _ _, sc, W, X, e, G, h, hb => by simp [isBo] at hb
  | .ienum _, sc, W, X, e, G, h, hb => by simp [isBo] at hb
  | .izip _, sc, W, X, e, G, h, hb => by simp [isBo] at hb
  | .izip3 _, sc, W, X, e, G, h, hb => by simp [isBo] at hb
  | .skip, sc, W, X, e, G, h, hb => by simp [isBo] at hb
  | .seq _ _, sc, W, X, e, G, h, hb => by simp [isBo] at hb
  | .set _ _, sc, W, X, e, G, h, hb => by simp [isBo] at hb
  | .ret _, sc, W, X, e, G, h, hb => by simp [isBo] at hb
  | .retN, sc, W, X, e, G, h, hb => by simp [isBo] at hb
  | .expr _, sc, W, X, e, G, h, hb => by simp [isBo] at hb
  | .pass, sc, W, X, e, G, h, hb => by simp [isBo] at hb
  | .cont, sc, W, X, e, G, h, hb => by simp [isBo] at hb
  | .brk, sc, W, X, e, G, h, hb => by simp [isBo] at hb
  | .sif _ _ _, sc, W, X, e, G, h, hb => by simp [isBo] at hb
  | .whl _ _, sc, W, X, e, G, h, hb => by simp [isBo] at hb
  | .sfor _ _ _, sc, W, X, e, G, h, hb => by simp [isBo] at hb
  | .raise _ _, sc, W, X, e, G, h, hb => by simp [isBo] at hb
  | .stl _ _ _, sc, W, X, e, G, h, hb => by simp [isBo] at hb
  | .std _ _ _, sc, W, X, e, G, h, hb => by simp [isBo] at hb
  | .setC _ _, sc, W, X, e, G, h, hb => by simp [isBo] at hb
  | .par _ _, sc, W, X, e, G, h, hb => by simp [isBo] at hb
end
end
end FI

namespace FI
open PySem PySem.Spec PyProof.Rows L2

def swNo (sc : Scope) (tg e : Expr) : Bool := !(isTup tg && isTup e) || (match asTup tg, asTup e with | some a, some b => (match swP sc a.1 b.1 with | some none => true | _ => false) | _, _ => false)
theorem swNo_ok {sc : Scope} {tg e : Expr} {env : Env} (hs : env.scope = sc) (h : swNo sc tg e = true) : swappedStores [tg] e env = pure none := by
  unfold swNo at h
  rw [Bool.or_eq_true] at h
  rcases h with h | h
  · exact swN_ok (by rw [Bool.not_eq_true'] at h; exact h)
  · split at h
    · rename_i a b ha hb
      have e1 := asTup_ok ha
      have e2 := asTup_ok hb
      rw [e1, e2]
      split at h
      · rename_i hw
        exact swP_ok (by rw [hs]; exact hw)
      · cases h
    · cases h
def ckC (T : Tab) (N : List Str) (i : Nat) (c : E) (sc : Scope) (tg e : Expr) : Bool := match c with
  | .comp own ctg it cc elt => match asName tg, asComp e with
    | some y, some r => decide (N[i]? = some y.1) && locB sc y.1 && decide (sc.kind = .function) && (y.2.line == r.2.2.2.2.2.line) && !(r.2.2.2.2.1.names.any fun (n, k) => n == y.1 && (k == .local || k == .cell)) &&
      ckE T N c sc e
    | _, _ => false
  | _ => false
mutual
def ckS (T : Tab) (N : List Str) : E → Scope → Stmt → Bool
  | .never, _, _ => true
  | .ret c, sc, st => match asRet st with | some r => ckE T N c sc r.1 | none => false
  | .retN, _, st => (asRetN st).isSome
  | .expr c, sc, st => match asExpr st with | some r => noComp r.1 && ckE T N c sc r.1 | none => false
  | .pass, _, st => (asPass st).isSome
  | .cont, _, st => (asCont st).isSome
  | .brk, _, st => (asBrk st).isSome
  | .sif c a b, sc, st => match asIfS st with | some r => ckTe T N c sc r.1 && ckB T N a sc r.2.1 && ckB T N b sc r.2.2.1 | none => false
  | .whl c a, sc, st => match asWh st with | some r => ckTe T N c sc r.1 && ckB T N a sc r.2.1 | none => false
  | .sfor g it a, sc, st => match asFor st with | some r => noSet r.2.1 && ckI T N it sc r.1 r.2.1 && ckT N (fun _ => true) g sc r.1 && ckB T N a sc r.2.2.1 | none => false
  | .set g e, sc, st => match asAsg st with
    | some r => nostar r.1 && ckT N (fun _ => true) g sc r.1 && ckE T N e sc r.2.1 && ((noComp r.2.1 && swNo sc r.1 r.2.1) || (match asName r.1, asComp r.2.1 with | some y, some _ => isCell sc y.1 | _, _ => false))
    | none => false
  | .setC i e, sc, st => match asAsg st with | some r => ckC T N i e sc r.1 r.2.1 | none => false
  | .par js a, sc, st => match asAsg st with
    | some r => (match asTup r.1, asTup r.2.1 with
      | some x, some y => ckA T N a sc y.1 && (match js with
        | [i, j] => (match asN2 x.1, as2 y.1 with
          | some n, some _ => decide (N[i]? = some n.1) && decide (N[j]? = some n.2.2.1) && !Nat.beq i j && locB sc n.1 && locB sc n.2.2.1 && decide (swP sc x.1 y.1 = some (some [n.1, n.2.2.1]))
          | _, _ => false)
        | [i, j, l] => (match asN3 x.1, as3 y.1 with
          | some n, some _ => decide (N[i]? = some n.1) && decide (N[j]? = some n.2.2.1) && decide (N[l]? = some n.2.2.2.2.1) && !Nat.beq i j && !Nat.beq i l && !Nat.beq j l && locB sc n.1 && locB sc n.2.2.1 && locB sc n.2.2.2.2.1 && decide (swP sc x.1 y.1 = some (some [n.1, n.2.2.1, n.2.2.2.2.1]))
          | _, _ => false)
        | _ => false)
      | _, _ => false)
    | none => false
  | .stl o i e, sc, st => match asAsg st with
    | some r => (match asSub r.1 with | some x => noComp r.2.1 && noSub x.2.1 && ckE T N o sc x.1 && ckE T N i sc x.2.1 && ckE T N e sc r.2.1 | none => false)
    | none => false
  | .std o i e, sc, st => match asAsg st with
    | some r => (match asSub r.1 with | some x => noComp r.2.1 && ckE T N o sc x.1 && ckE T N i sc x.2.1 && ckE T N e sc r.2.1 | none => false)
    | none => false
  | .raise c a, sc, st => match asRaise st with
    | some r => (match T.errs[c]? with | some y => decide (y.1 = r.1) && glB sc r.1 && nostar r.2.2.1 && ckA T N a sc [r.2.2.1] | none => false)
    | none => false
  | _, _, _ => false
def ckB (T : Tab) (N : List Str) : E → Scope → List Stmt → Bool
  | .never, _, _ => true
  | .skip, _, ss => ss.isEmpty
  | .seq a r, sc, ss => match ss with | st :: ss => ckS T N a sc st && ckB T N r sc ss | [] => false
  | _, _, _ => false
end
theorem locB_ok {sc : Scope} {x : Str} (h : locB sc x = true) : sc.names.lookup x = some .local := by
  unfold locB at h
  split at h
  · assumption
  · cases h
theorem isCell_ok {sc : Scope} {x : Str} (h : isCell sc x = true) : sc.names.lookup x = some .cell := by
  unfold isCell at h
  split at h
  · assumption
  · cases h
theorem nbeq_ok {i j : Nat} (h : (!Nat.beq i j) = true) : i ≠ j := fun z => by
  subst z
  rw [Nat.beq_refl] at h
  cases h
section
variable {cl : Cls0} {T : Tab} {call : Nat → List PV → Sto → Res PV} {k : Nat} {N : List Str}
mutual
theorem sS : ∀ (c : E) (sc : Scope) (W : WX) (X : Cx) (st : Stmt), Good cl T call k N sc W X → X.fn = (fun _ => true) → PassesOwn (model X.prog X.w) X.A X.env X.xe → Takes X W → ckS T N c sc st = true → PS X st (tS X.kw cl W T call c)
  | .never, sc, W, X, st, G, hf, hp, tk, h => s_never
  | .ret c, sc, W, X, st, G, hf, hp, tk, h => by
    simp only [ckS] at h
    split at h
    · rename_i r hr; have := asRet_ok hr; subst this
      exact s_ret (sE c sc W X _ G h)
    · cases h
  | .retN, sc, W, X, st, G, hf, hp, tk, h => by
    simp only [ckS] at h
    obtain ⟨r, hr⟩ := Option.isSome_iff_exists.mp h
    have := asRetN_ok hr; subst this
    exact s_retN
  | .expr c, sc, W, X, st, G, hf, hp, tk, h => by
    simp only [ckS] at h
    split at h
    · rename_i r hr; have := asExpr_ok hr; subst this
      simp only [Bool.and_eq_true] at h
      exact s_expr h.1 (sE c sc W X _ G h.2)
    · cases h
  | .pass, sc, W, X, st, G, hf, hp, tk, h => by
    simp only [ckS] at h
    obtain ⟨r, hr⟩ := Option.isSome_iff_exists.mp h
    have := asPass_ok hr; subst this
    exact s_pass
  | .cont, sc, W, X, st, G, hf, hp, tk, h => by
    simp only [ckS] at h
    obtain ⟨r, hr⟩ := Option.isSome_iff_exists.mp h
    have := asCont_ok hr; subst this
    exact s_cont
  | .brk, sc, W, X, st, G, hf, hp, tk, h => by
    simp only [ckS] at h
    obtain ⟨r, hr⟩ := Option.isSome_iff_exists.mp h
    have := asBrk_ok hr; subst this
    exact s_brk
  | .sif c a b, sc, W, X, st, G, hf, hp, tk, h => by
    simp only [ckS] at h
    split at h
    · rename_i r hr; have := asIfS_ok hr; subst this
      simp only [Bool.and_eq_true] at h
      exact s_if (sT c sc W X _ G h.1.1) (sB a sc W X _ G hf hp tk h.1.2) (sB b sc W X _ G hf hp tk h.2)
    · cases h
  | .whl c a, sc, W, X, st, G, hf, hp, tk, h => by
    simp only [ckS] at h
    split at h
    · rename_i r hr; have := asWh_ok hr; subst this
      simp only [Bool.and_eq_true] at h
      exact s_while hp (sT c sc W X _ G h.1) (sB a sc W X _ G hf hp tk h.2)
    · cases h
  | .sfor g it a, sc, W, X, st, G, hf, hp, tk, h => by
    simp only [ckS] at h
    split at h
    · rename_i r hr; have := asFor_ok hr; subst this
      simp only [Bool.and_eq_true] at h
      obtain ⟨⟨⟨h1, h2⟩, h3⟩, h4⟩ := h
      exact s_for G hp h1 (sI it sc W X _ _ G h2) (sG g sc W X _ _ G hf h3) (sB a sc W X _ G hf hp tk h4)
    · cases h
  | .set g e, sc, W, X, st, G, hf, hp, tk, h => by
    simp only [ckS] at h
    split at h
    · rename_i r hr; have := asAsg_ok hr; subst this
      simp only [Bool.and_eq_true, Bool.or_eq_true] at h
      obtain ⟨⟨⟨h1, h2⟩, h3⟩, h4⟩ := h
      rcases h4 with ⟨h4, h5⟩ | h4
      · exact s_set h4 (swNo_ok G.hsc h5) h1 (sE e sc W X _ G h3) (sG g sc W X _ _ G hf h2)
      · split at h4
        · rename_i y z hy hz
          have e1 := asName_ok hy
          have e2 := asComp_ok hz
          have PEe := sE e sc W X _ G h3
          have PGe := sG g sc W X _ _ G hf h2
          rw [e1] at PGe ⊢
          rw [e2] at PEe ⊢
          exact s_setX (by rw [G.hsc]; exact isCell_ok h4) PEe PGe
        · cases h4
    · cases h
  | .setC i e, sc, W, X, st, G, hf, hp, tk, h => by
    simp only [ckS] at h
    split at h
    · rename_i r hr; have := asAsg_ok hr; subst this
      cases e with
      | comp own ctg it cc elt =>
        simp only [ckC] at h
        split at h
        · rename_i y q hy hq
          have e1 := asName_ok hy
          have e2 := asComp_ok hq
          rw [e1, e2]
          simp only [Bool.and_eq_true, decide_eq_true_eq, Bool.not_eq_true'] at h
          obtain ⟨⟨⟨⟨⟨h1, h2⟩, h3⟩, h4⟩, h5⟩, h6⟩ := h
          simp only [ckE, hq, Bool.and_eq_true] at h6
          obtain ⟨⟨⟨⟨⟨⟨g1, g2⟩, g3⟩, g4⟩, g5⟩, g6⟩, g7⟩ := h6
          refine s_setC (g_setC G h1 (locB_ok h2) h3 h4 h5 (fun i hi => by simpa using List.all_eq_true.mp g1 i hi) (sI it sc W X _ _ G g4) (blkOk_by g2) g3 (fun Y GY e1 e2 => by rw [← e1]; exact sG ctg _ WF Y _ _ GY e2 g5) (fun Y GY e1 _ => ?_) (fun Y GY e1 _ => by rw [← e1]; exact sE elt _ WF Y _ GY g7))
          rw [← e1]
          generalize q.2.2.2.1 = fs at g6
          cases fs with
          | nil =>
            dsimp only at g6
            split at g6
            · exact pts_yes
            · cases g6
          | cons t fs =>
            cases fs with
            | nil => exact pts_one (sT cc _ WF Y _ GY g6)
            | cons _ _ => cases g6
        · cases h
      | _ => simp [ckC] at h
    · cases h
  | .par js a, sc, W, X, st, G, hf, hp, tk, h => by
    simp only [ckS] at h
    split at h
    · rename_i r hr; have := asAsg_ok hr; subst this
      split at h
      · rename_i x y hx hy
        have e1 := asTup_ok hx
        have e2 := asTup_ok hy
        rw [e1, e2]
        rw [Bool.and_eq_true] at h
        obtain ⟨h0, h⟩ := h
        have hA := sA a sc W X _ G h0
        split at h
        · split at h
          · rename_i n m hn hm
            have e3 := asN2_ok hn
            have e4 := as2_ok hm
            simp only [Bool.and_eq_true, decide_eq_true_eq] at h
            obtain ⟨⟨⟨⟨⟨h1, h2⟩, h3⟩, h4⟩, h5⟩, h6⟩ := h
            rw [e4] at hA h6 ⊢
            rw [e3] at h6 ⊢
            exact s_par2 G h1 h2 (nbeq_ok h3) (locB_ok h4) (locB_ok h5) hA h6
          · cases h
        · split at h
          · rename_i n m hn hm
            have e3 := asN3_ok hn
            have e4 := as3_ok hm
            simp only [Bool.and_eq_true, decide_eq_true_eq] at h
            obtain ⟨⟨⟨⟨⟨⟨⟨⟨⟨h1, h2⟩, h3⟩, h4⟩, h5⟩, h6⟩, h7⟩, h8⟩, h9⟩, h10⟩ := h
            rw [e4] at hA h10 ⊢
            rw [e3] at h10 ⊢
            exact s_par3 G h1 h2 h3 (nbeq_ok h4) (nbeq_ok h5) (nbeq_ok h6) (locB_ok h7) (locB_ok h8) (locB_ok h9) hA h10
          · cases h
        · cases h
      · cases h
    · cases h
  | .stl o i e, sc, W, X, st, G, hf, hp, tk, h => by
    simp only [ckS] at h
    split at h
    · rename_i r hr; have := asAsg_ok hr; subst this
      split at h
      · rename_i x hx
        have e1 := asSub_ok hx
        rw [e1]
        simp only [Bool.and_eq_true] at h
        obtain ⟨⟨⟨⟨h1, h2⟩, h3⟩, h4⟩, h5⟩ := h
        exact s_stl h1 h2 (sE o sc W X _ G h3) (sE i sc W X _ G h4) (sE e sc W X _ G h5)
      · cases h
    · cases h
  | .std o i e, sc, W, X, st, G, hf, hp, tk, h => by
    simp only [ckS] at h
    split at h
    · rename_i r hr; have := asAsg_ok hr; subst this
      split at h
      · rename_i x hx
        have e1 := asSub_ok hx
        rw [e1]
        simp only [Bool.and_eq_true] at h
        obtain ⟨⟨⟨h1, h3⟩, h4⟩, h5⟩ := h
        exact s_std G h1 (sE o sc W X _ G h3) (sE i sc W X _ G h4) (sE e sc W X _ G h5)
      · cases h
    · cases h
  | .raise c a, sc, W, X, st, G, hf, hp, tk, h => by
    simp only [ckS] at h
    split at h
    · rename_i r hr
      have := asRaise_ok hr
      subst this
      split at h
      · rename_i y hy
        simp only [Bool.and_eq_true, decide_eq_true_eq] at h
        obtain ⟨⟨⟨h1, h2⟩, h3⟩, h4⟩ := h
        refine s_raise G tk (x := r.1) (f := y.2) ?_ h2 h3 (sA a sc W X _ G h4)
        rw [hy, ← h1]
      · cases h
    · cases h
  | .int _, sc, W, X, e, G, hf, hp, tk, h => by simp [ckS] at h
  | .bl _, sc, W, X, e, G, hf, hp, tk, h => by simp [ckS] at h
  | .non, sc, W, X, e, G, hf, hp, tk, h => by simp [ckS] at h
  | .str _, sc, W, X, e, G, hf, hp, tk, h => by simp [ckS] at h
  | .var _, sc, W, X, e, G, hf, hp, tk, h => by simp [ckS] at h
  | .glob _, sc, W, X, e, G, hf, hp, tk, h => by simp [ckS] at h
  | .nil, sc, W, X, e, G, hf, hp, tk, h => by simp [ckS] at h
  | .cons _ _, sc, W, X, e, G, hf, hp, tk, h => by simp [ckS] at h
  | .tup _, sc, W, X, e, G, hf, hp, tk, h => by simp [ckS] at h
  | .lst _, sc, W, X, e, G, hf, hp, tk, h => by simp [ckS] at h
  | .bin _ _ _, sc, W, X, e, G, hf, hp, tk, h => by simp [ckS] at h
  | .cmp _ _ _, sc, W, X, e, G, hf, hp, tk, h => by simp [ckS] at h
  | .chain _ _ _ _ _, sc, W, X, e, G, hf, hp, tk, h => by simp [ckS] at h
  | .neg _, sc, W, X, e, G, hf, hp, tk, h => by simp [ckS] at h
  | .not _, sc, W, X, e, G, hf, hp, tk, h => by simp [ckS] at h
  | .and _ _, sc, W, X, e, G, hf, hp, tk, h => by simp [ckS] at h
  | .or _ _, sc, W, X, e, G, hf, hp, tk, h => by simp [ckS] at h
  | .one _, sc, W, X, e, G, hf, hp, tk, h => by simp [ckS] at h
  | .ife _ _ _, sc, W, X, e, G, hf, hp, tk, h => by simp [ckS] at h
  | .idx _ _, sc, W, X, e, G, hf, hp, tk, h => by simp [ckS] at h
  | .slice _ _ _, sc, W, X, e, G, hf, hp, tk, h => by simp [ckS] at h
  | .no, sc, W, X, e, G, hf, hp, tk, h => by simp [ckS] at h
  | .isi _ _, sc, W, X, e, G, hf, hp, tk, h => by simp [ckS] at h
  | .call _ _, sc, W, X, e, G, hf, hp, tk, h => by simp [ckS] at h
  | .blt _ _, sc, W, X, e, G, hf, hp, tk, h => by simp [ckS] at h
  | .comp _ _ _ _ _, sc, W, X, e, G, hf, hp, tk, h => by simp [ckS] at h
  | .app _ _, sc, W, X, e, G, hf, hp, tk, h => by simp [ckS] at h
  | .call0 _, sc, W, X, e, G, hf, hp, tk, h => by simp [ckS] at h
  | .meth _ _ _, sc, W, X, e, G, hf, hp, tk, h => by simp [ckS] at h
  | .comp2 _ _ _ _ _ _ _ _, sc, W, X, e, G, hf, hp, tk, h => by simp [ckS] at h
  | .star _ _, sc, W, X, e, G, hf, hp, tk, h => by simp [ckS] at h
  | .dix _ _, sc, W, X, e, G, hf, hp, tk, h => by simp [ckS] at h
  | .ddisp _, sc, W, X, e, G, hf, hp, tk, h => by simp [ckS] at h
  | .rev _, sc, W, X, e, G, hf, hp, tk, h => by simp [ckS] at h
  | .tn _, sc, W, X, e, G, hf, hp, tk, h => by simp [ckS] at h
  | .tt _, sc, W, X, e, G, hf, hp, tk, h => by simp [ckS] at h
  | .ts _ _, sc, W, X, e, G, hf, hp, tk, h => by simp [ckS] at h
  | .iseq _, sc, W, X, e, G, hf, hp, tk, h => by simp [ckS] at h
  | .irng _, sc, W, X, e, G, hf, hp, tk, h => by simp [ckS] at h
  | .irng2 _ _, sc, W, X, e, G, hf, hp, tk, h => by simp [ckS] at h
  | .ienum _, sc, W, X, e, G, hf, hp, tk, h => by simp [ckS] at h
  | .izip _, sc, W, X, e, G, hf, hp, tk, h => by simp [ckS] at h
  | .izip3 _, sc, W, X, e, G, hf, hp, tk, h => by simp [ckS] at h
  | .skip, sc, W, X, e, G, hf, hp, tk, h => by simp [ckS] at h
  | .seq _ _, sc, W, X, e, G, hf, hp, tk, h => by simp [ckS] at h
theorem sB : ∀ (c : E) (sc : Scope) (W : WX) (X : Cx) (ss : List Stmt), Good cl T call k N sc W X → X.fn = (fun _ => true) → PassesOwn (model X.prog X.w) X.A X.env X.xe → Takes X W → ckB T N c sc ss = true → PSs X ss (tS X.kw cl W T call c)
  | .never, sc, W, X, ss, G, hf, hp, tk, h => PSs_imp pss_never fun D σ H ⟨rho, s, sl, R, S, h⟩ => by simp only [ex] at h; exact h
  | .skip, sc, W, X, ss, G, hf, hp, tk, h => by
    simp only [ckB] at h
    cases ss with
    | nil => exact b_nil
    | cons _ _ => cases h
  | .seq a r, sc, W, X, ss, G, hf, hp, tk, h => by
    simp only [ckB] at h
    cases ss with
    | nil => cases h
    | cons st ss =>
      simp only [Bool.and_eq_true] at h
      exact b_cons (sS a sc W X _ G hf hp tk h.1) (sB r sc W X _ G hf hp tk h.2)
  | .int _, sc, W, X, e, G, hf, hp, tk, h => by simp [ckB] at h
  | .bl _, sc, W, X, e, G, hf, hp, tk, h => by simp [ckB] at h
  | .non, sc, W, X, e, G, hf, hp, tk, h => by simp [ckB] at h
  | .str _, sc, W, X, e, G, hf, hp, tk, h => by simp [ckB] at h
  | .var _, sc, W, X, e, G, hf, hp, tk, h => by simp [ckB] at h
  | .glob _, sc, W, X, e, G, hf, hp, tk, h => by simp [ckB] at h
  | .nil, sc, W, X, e, G, hf, hp, tk, h => by simp [ckB] at h
  | .cons _ _, sc, W, X, e, G, hf, hp, tk, h => by simp [ckB] at h
  | .tup _, sc, W, X, e, G, hf, hp, tk, h => by simp [ckB] at h
  | .lst _, sc, W, X, e, G, hf, hp, tk, h => by simp [ckB] at h
  | .bin _ _ _, sc, W, X, e, G, hf, hp, tk, h => by simp [ckB] at h
  | .cmp _ _ _, sc, W, X, e, G, hf, hp, tk, h => by simp [ckB] at h
  | .chain _ _ _ _ _, sc, W, X, e, G, hf, hp, tk, h => by simp [ckB] at h
  | .neg _, sc, W, X, e, G, hf, hp, tk, h => by simp [ckB] at h
  | .not _, sc, W, X, e, G, hf, hp, tk, h => by simp [ckB] at h
  | .and _ _, sc, W, X, e, G, hf, hp, tk, h => by simp [ckB] at h
  | .or _ _, sc, W, X, e, G, hf, hp, tk, h => by simp [ckB] at h
  | .one _, sc, W, X, e, G, hf, hp, tk, h => by simp [ckB] at h
  | .ife _ _ _, sc, W, X, e, G, hf, hp, tk, h => by simp [ckB] at h
  | .idx _ _, sc, W, X, e, G, hf, hp, tk, h => by simp [ckB] at h
  | .slice _ _ _, sc, W, X, e, G, hf, hp, tk, h => by simp [ckB] at h
  | .no, sc, W, X, e, G, hf, hp, tk, h => by simp [ckB] at h
  | .isi _ _, sc, W, X, e, G, hf, hp, tk, h => by simp [ckB] at h
  | .call _ _, sc, W, X, e, G, hf, hp, tk, h => by simp [ckB] at h
  | .blt _ _, sc, W, X, e, G, hf, hp, tk, h => by simp [ckB] at h
  | .comp _ _ _ _ _, sc, W, X, e, G, hf, hp, tk, h => by simp [ckB] at h
  | .app _ _, sc, W, X, e, G, hf, hp, tk, h => by simp [ckB] at h
  | .call0 _, sc, W, X, e, G, hf, hp, tk, h => by simp [ckB] at h
  | .meth _ _ _, sc, W, X, e, G, hf, hp, tk, h => by simp [ckB] at h
  | .comp2 _ _ _ _ _ _ _ _, sc, W, X, e, G, hf, hp, tk, h => by simp [ckB] at h
  | .star _ _, sc, W, X, e, G, hf, hp, tk, h => by simp [ckB] at h
  | .dix _ _, sc, W, X, e, G, hf, hp, tk, h => by simp [ckB] at h
  | .ddisp _, sc, W, X, e, G, hf, hp, tk, h => by simp [ckB] at h
  | .rev _, sc, W, X, e, G, hf, hp, tk, h => by simp [ckB] at h
  | .tn _, sc, W, X, e, G, hf, hp, tk, h => by simp [ckB] at h
  | .tt _, sc, W, X, e, G, hf, hp, tk, h => by simp [ckB] at h
  | .ts _ _, sc, W, X, e, G, hf, hp, tk, h => by simp [ckB] at h
  | .iseq _, sc, W, X, e, G, hf, hp, tk, h => by simp [ckB] at h
  | .irng _, sc, W, X, e, G, hf, hp, tk, h => by simp [ckB] at h
  | .irng2 _ _, sc, W, X, e, G, hf, hp, tk, h => by simp [ckB] at h
  | .ienum _, sc, W, X, e, G, hf, hp, tk, h => by simp [ckB] at h
  | .izip _, sc, W, X, e, G, hf, hp, tk, h => by simp [ckB] at h
  | .izip3 _, sc, W, X, e, G, hf, hp, tk, h => by simp [ckB] at h
  | .set _ _, sc, W, X, e, G, hf, hp, tk, h => by simp [ckB] at h
  | .ret _, sc, W, X, e, G, hf, hp, tk, h => by simp [ckB] at h
  | .retN, sc, W, X, e, G, hf, hp, tk, h => by simp [ckB] at h
  | .expr _, sc, W, X, e, G, hf, hp, tk, h => by simp [ckB] at h
  | .pass, sc, W, X, e, G, hf, hp, tk, h => by simp [ckB] at h
  | .cont, sc, W, X, e, G, hf, hp, tk, h => by simp [ckB] at h
  | .brk, sc, W, X, e, G, hf, hp, tk, h => by simp [ckB] at h
  | .sif _ _ _, sc, W, X, e, G, hf, hp, tk, h => by simp [ckB] at h
  | .whl _ _, sc, W, X, e, G, hf, hp, tk, h => by simp [ckB] at h
  | .sfor _ _ _, sc, W, X, e, G, hf, hp, tk, h => by simp [ckB] at h
  | .raise _ _, sc, W, X, e, G, hf, hp, tk, h => by simp [ckB] at h
  | .stl _ _ _, sc, W, X, e, G, hf, hp, tk, h => by simp [ckB] at h
  | .std _ _ _, sc, W, X, e, G, hf, hp, tk, h => by simp [ckB] at h
  | .setC _ _, sc, W, X, e, G, hf, hp, tk, h => by simp [ckB] at h
  | .par _ _, sc, W, X, e, G, hf, hp, tk, h => by simp [ckB] at h
end
end

/-! ### defs -/
/-- a def of the text, its codes -/
structure DefOk (K : PySem.W.Frag) (mg : Str → Option Value) (T : Tab) (f : Nat) (x : Str) : Prop where
  ex : ∃ (a : Addr) (fd : FuncData) (qual : Str) (st : Stmt) (N ps : List Str) (d : Df), mg x = some (.ref a) ∧ Fun K x qual st a fd ∧ Binds K fd ps [] ∧ FnScope N ps (defScope st) ∧
    T.defs[f]? = some d ∧ d.np = ps.length ∧ d.ns = N.length ∧ ckB T N d.body (defScope st) (defBody st) = true
theorem start_ok {K : KW} {n : Nat} {rho : Nat → Addr} {H : Hp} {N : List Str} {ps : List PV} {vs : List V} (h : VRs K n rho H ps vs) : SlR K n rho H (ps.map some ++ List.replicate (N.length - ps.length) none) (L2.start N vs) := by
  have hl := h.len
  unfold L2.start
  refine ⟨by simp [hl], fun i p e => ?_⟩
  by_cases hi : i < ps.length
  · rw [List.getElem?_append_left (by simpa using hi), List.getElem?_map] at e
    cases q : ps[i]? with
    | none => rw [q] at e; cases e
    | some p' =>
      rw [q] at e
      cases e
      obtain ⟨v, e1, e2⟩ := h.get q
      exact ⟨v, by rw [List.getElem?_append_left (by rw [List.length_map, ← hl]; exact hi), List.getElem?_map, e1]; rfl, e2⟩
  · rw [List.getElem?_append_right (by simpa using hi)] at e
    have := List.mem_of_getElem? e
    rw [List.mem_replicate] at this
    cases this.2
section
variable {P : Program} {w : World} {K : PySem.W.Frag} {mg : Str → Option Value} {base : Heap} {cl : Cls0} {T : Tab}
theorem fn_bad {CX : CXT} {k : Nat} {a : Addr} {fd : FuncData} {ps : List Str} {sp : Sp} (h : ∀ vs H Q E, ¬ sp vs H Q E) : FnG P w K mg base CX k a fd ps sp := ⟨fun vs H Q E q => (h _ _ _ _ q).elim, fun A outer s H args us vs Q E _ _ _ _ _ q => (h _ _ _ _ q).elim⟩
mutual
theorem VR.pure {K : KW} {n n' : Nat} {rho rho' : Nat → Addr} {H : Hp} : ∀ (p : PV) (v : V), pureV p = true → VR K n rho H p v → VR K n' rho' H p v
  | .non, v, _, h => by simpa only [VR] using h
  | .bl _, v, _, h => by simpa only [VR] using h
  | .int _, v, _, h => by simpa only [VR] using h
  | .str _, v, _, h => by simpa only [VR] using h
  | .rep _, v, _, h => by simpa only [VR] using h
  | .tup xs, v, hp, h => by
    simp only [pureV] at hp
    simp only [VR] at h ⊢
    obtain ⟨a, vs, e, t, r⟩ := h
    exact ⟨a, vs, e, t, VRs.pure xs vs hp r⟩
  | .lst _, v, hp, h => by simp [pureV] at hp
  | .dct _, v, hp, h => by simp [pureV] at hp
theorem VRs.pure {K : KW} {n n' : Nat} {rho rho' : Nat → Addr} {H : Hp} : ∀ (ps : List PV) (vs : List V), pureVs ps = true → VRs K n rho H ps vs → VRs K n' rho' H ps vs
  | [], vs, _, h => by simpa only [VRs] using h
  | p :: ps, vs, hp, h => by
    simp only [pureVs, Bool.and_eq_true] at hp
    simp only [VRs] at h ⊢
    obtain ⟨v, r, e, h1, h2⟩ := h
    exact ⟨v, r, e, VR.pure p v hp.1 h1, VRs.pure ps r hp.2 h2⟩
end
theorem RSt.more {K : KW} {rho : Nat → Addr} {H H' : Hp} {s : Sto} (R : RSt K rho H s) (k : ∀ b o, H b = some o → H' b = some o) : RSt K rho H' s ∧ Ext s rho rho H H' s :=
  ⟨⟨fun i o hi => sok_mono (Nat.le_refl _) (fun _ _ => rfl) (fun a vs t => by
      rcases t with (t | ⟨q, t⟩) | t
      · exact .inl (.inl (k _ _ t))
      · exact .inl (.inr ⟨q, k _ _ t⟩)
      · exact .inr t) (fun c q e => k _ _ e) (R.lt i o hi) (fun w e _ => k _ _ e) (R.ok i o hi), R.lt, R.inj⟩,
    ⟨Nat.le_refl _, fun _ _ => rfl, fun b o e _ => k b o e, fun _ o h => ⟨o, h, rfl⟩, fun _ u h => .inl ⟨u, h, rfl⟩⟩⟩
theorem rst00 {K : KW} {rho : Nat → Addr} {H : Hp} : RSt K rho H sto00 := ⟨fun i o h => by simp [sto00, look] at h, fun i o h => by simp [sto00, look] at h, fun i j o u h => by simp [sto00, look] at h⟩
/-- from a body's end to a call's -/
theorem out_post {K : KW} {cl : Cls0} {Ex : XK} {rho : Nat → Addr} {s : Sto} {H : Hp} {Q : VK} {r : Res Fl} (h : Post K cl (fun c d _ H => Ex c d H) [] rho s H (outF r) Q) : PostS K cl (fun c d _ H => Ex c d H) rho s H r { nx := fun _ H' => Q .non H', rt := Q } := by
  cases r with
  | bad => exact h
  | exc c fs s1 =>
    obtain ⟨C, names, e3, h⟩ := h
    exact ⟨C, names, e3, fun rho' H' d' vs' σ' x R' hd' V' => h rho' H' d' vs' x R' hd' V'⟩
  | ok fl s1 =>
    cases fl with
    | nx sl1 => exact fun rho' H' σ' x R' S' => h rho' H' .non x R' (by simp only [VR])
    | rt v => exact fun rho' H' v' x R' V' => h rho' H' v' x R' V'
    | bk sl1 => exact h.elim
    | ct sl1 => exact h.elim
/-- from an empty store back -/
theorem back_post {K : KW} {cl : Cls0} {W : WX} {rho : Nat → Addr} {s : Sto} {H : Hp} {Q : VK} {r : Res PV} (R : RSt K rho H s) (h : Post K cl W [] rho s H (backTo' s r) Q) : Post K cl W [] rho sto00 H r Q := by
  cases r with
  | bad => exact h
  | exc c fs s1 =>
    simp only [backTo'] at h
    split at h
    · rename_i hp
      obtain ⟨C, names, e3, h⟩ := h
      refine ⟨C, names, e3, fun rho' H' d' vs' x R' hd' V' => ?_⟩
      obtain ⟨R2, x2⟩ := R.more (H' := H') fun b o e => x.fr b o e fun i u hi => by simp [sto00, look] at hi
      exact h rho H' d' vs' x2 R2 hd' (VRs.pure _ _ hp V')
    · exact h.elim
  | ok v s1 =>
    simp only [backTo'] at h
    split at h
    · rename_i hp
      intro rho' H' v' x R' V'
      obtain ⟨R2, x2⟩ := R.more (H' := H') fun b o e => x.fr b o e fun i u hi => by simp [sto00, look] at hi
      exact h rho H' v' x2 R2 (VR.pure _ _ hp V')
    · exact h.elim
theorem fn_stepD {n f : Nat} {x : Str} {a : Addr} {fd : FuncData} {qual : Str} {st : Stmt} {N ps : List Str} {d : Df} (F : Facts P w K mg base cl T (runF T n) n) (hF : Fun K x qual st a fd) (hS : FnScope N ps (defScope st)) (hd : T.defs[f]? = some d) (hnp : d.np = ps.length) (hns : d.ns = N.length) (hck : ckB T N d.body (defScope st) (defBody st) = true) : FnG P w K mg base (L2.CX P w) (n + 1) a fd ps (spI ⟨K, P, w⟩ cl (runF T (n + 1)) f) := by
  have hlen : ∀ vs H Q E, spI ⟨K, P, w⟩ cl (runF T (n + 1)) f vs H Q E → vs.length = ps.length := fun vs H Q E ⟨rho, s, qs, R, V1, h⟩ => by
    simp only [runF, hd] at h
    split at h
    · rename_i e
      rw [← V1.len, ← hnp]
      exact Nat.eq_of_beq_eq_true e
    · exact h.elim
  obtain ⟨oc, od, kV, doc, pm, an, cdv, ct, osl, rfl, lk, hcd⟩ := hF.ex
  refine ⟨hlen, fun A outer s0 H args us vs Q E hr0 hgd e0 hb0 r0 hsp => LamX.run_ofS lk hcd hS hr0 e0 hb0 r0 (hlen _ _ _ _ hsp) fun hr => ?_⟩
  obtain ⟨rho, s, qs, R, V1, h⟩ := hsp
  let X := cxOf (L2.CX P w) P w K mg base N qual (defScope st) a cdv A outer s0 H E
  let W : WX := fun c d _ H => E c d H
  have tk : Takes X W := takes_of rfl rfl rfl rfl
  have G : Good cl T (runF T n) n N (defScope st) W X := ⟨rfl, hS.nd, rfl, rfl, hr, hgd, F, fun σ => passAt tk σ⟩
  refine ⟨tS X.kw cl W T (runF T n) d.body, sB d.body (defScope st) W X (defBody st) G rfl (passes_of rfl) tk hck, ?_⟩
  simp only [runF, hd] at h
  split at h
  · rename_i e
    have e := Nat.eq_of_beq_eq_true e
    split at h
    · split at h
      · rename_i hp
        refine ⟨rho, sto00, qs.map some ++ List.replicate (d.ns - d.np) none, rst00, ?_, out_post (back_post R h)⟩
        rw [hns, ← e]; exact start_ok (VRs.pure _ _ hp V1)
      · exact h.elim
    · refine ⟨rho, s, qs.map some ++ List.replicate (d.ns - d.np) none, R, ?_, out_post h⟩
      rw [hns, ← e]; exact start_ok V1
  · exact h.elim
theorem fn_step {n f : Nat} {x : Str} (F : Facts P w K mg base cl T (runF T n) n) (D : DefOk K mg T f x) : ∃ a fd ps, mg x = some (.ref a) ∧ PySem.W.keepIn K (.ref a) = true ∧ Binds K fd ps [] ∧ FnG P w K mg base (L2.CX P w) (n + 1) a fd ps (spI ⟨K, P, w⟩ cl (runF T (n + 1)) f) := by
  obtain ⟨a, fd, qual, st, N, ps, d, hm, hF, hB, hS, hd, hnp, hns, hck⟩ := D.ex
  exact ⟨a, fd, ps, hm, hF.kp, hB, fn_stepD F hF hS hd hnp hns hck⟩
/-- what stands behind the top: the defs, the constants, the built-ins -/
structure Top (K : PySem.W.Frag) (mg : Str → Option Value) (T : Tab) (cl : Cls0) : Prop where
  defs : ∀ (f : Nat) (x : Str), T.fns[f]? = some x → DefOk K mg T f x
  consts : ∀ (i : Nat) (x : Str) (p : PV), T.cnames[i]? = some x → T.consts[i]? = some p → ∃ u v, mg x = some u ∧ RelV v u ∧ ∀ n rho H, ∀ P w, VR ⟨K, P, w⟩ n rho H p v
  blt : ∀ x ∈ bltNames, mg x = none
  errs : ∀ (c : Nat) (x f : Str), T.errs[c]? = some (x, f) → ∃ C, cl c = some (C, [f]) ∧ ErrOk K mg x f C
theorem facts (t : Top K mg T cl) : ∀ n, Facts P w K mg base cl T (runF T n) n
  | 0 => ⟨fun f x h => by
      obtain ⟨a, fd, qual, st, N, ps, d, hm, hF, hB, _⟩ := (t.defs f x h).ex
      exact ⟨a, fd, ps, hm, hF.kp, hB, fn_bad fun vs H Q E ⟨_, _, _, _, _, h⟩ => by simp only [runF] at h; exact h⟩, (fun i x p h1 h2 => let ⟨u, v, a, b, c⟩ := t.consts i x p h1 h2; ⟨u, v, a, b, fun n rho H => c n rho H P w⟩), t.blt, t.errs⟩
  | n + 1 => ⟨fun f x h => fn_step (facts t n) (t.defs f x h), (fun i x p h1 h2 => let ⟨u, v, a, b, c⟩ := t.consts i x p h1 h2; ⟨u, v, a, b, fun n rho H => c n rho H P w⟩), t.blt, t.errs⟩
end
end FI

namespace FI
open PySem PySem.Spec PyProof.Rows L2

/-! ### constants of the top -/
mutual
def constB (K : PySem.W.Frag) : PV → Value → Bool
  | .non, u => (match u with | .none => true | _ => false)
  | .bl b, u => (match u with | .bool c => b == c | _ => false)
  | .int i, u => (match u with | .int j _ => decide (i = j) | _ => false)
  | .str x, u => (match u with | .str y _ => decide (x = y) | _ => false)
  | .tup xs, u => (match u with
    | .ref a => (match K.lookup a with
      | some ⟨.type c, _, .seq its _, _⟩ => decide (c = "tuple") && decide (its.size ≤ sizeLine) && constsB K xs its.toList
      | _ => false)
    | _ => false)
  | _, _ => false
def constsB (K : PySem.W.Frag) : List PV → List Value → Bool
  | [], us => us.isEmpty
  | x :: xs, us => (match us with | u :: us => constB K x u && constsB K xs us | [] => false)
end
mutual
theorem constB_ok {K : PySem.W.Frag} : ∀ (p : PV) (u : Value), constB K p u = true → ∃ v, RelV v u ∧ ∀ n rho H, ∀ P w, VR ⟨K, P, w⟩ n rho H p v
  | .non, u, h => by
    simp only [constB] at h
    cases u with
    | none => exact ⟨.non, rfl, fun _ _ _ _ _ => by simp only [VR]⟩
    | _ => cases h
  | .bl b, u, h => by
    simp only [constB] at h
    cases u with
    | bool c => exact ⟨.bl c, rfl, fun _ _ _ _ _ => by simp only [VR]; rw [eq_of_beq h]⟩
    | _ => cases h
  | .int i, u, h => by
    simp only [constB] at h
    cases u with
    | int c t => exact ⟨.int c, ⟨t, rfl⟩, fun _ _ _ _ _ => by simp only [VR]; rw [of_decide_eq_true h]⟩
    | _ => cases h
  | .str i, u, h => by
    simp only [constB] at h
    cases u with
    | str c t => exact ⟨.str c, ⟨t, rfl⟩, fun _ _ _ _ _ => by simp only [VR]; rw [of_decide_eq_true h]⟩
    | _ => cases h
  | .tup xs, u, h => by
    simp only [constB] at h
    cases u with
    | ref a =>
      dsimp only at h
      cases q : K.lookup a with
      | none => rw [q] at h; cases h
      | some o =>
        obtain ⟨oc, od, dt, osl⟩ := o
        rw [q] at h
        cases oc with
        | type c =>
          cases dt with
          | seq its n =>
            simp only [Bool.and_eq_true, decide_eq_true_eq] at h
            obtain ⟨⟨h1, h2⟩, h3⟩ := h
            obtain ⟨vs, r, hv⟩ := constsB_ok xs its.toList h3
            refine ⟨.ref a, rfl, fun n' rho H P w => ?_⟩
            simp only [VR]
            exact ⟨a, vs, rfl, .inr ⟨_, its, n, q, congrArg Value.type h1, rfl, h2, r⟩, hv n' rho H P w⟩
          | _ => cases h
        | _ => cases dt <;> cases h
    | _ => cases h
  | .lst _, u, h => by simp [constB] at h
  | .dct _, u, h => by simp [constB] at h
  | .rep _, u, h => by simp [constB] at h
theorem constsB_ok {K : PySem.W.Frag} : ∀ (ps : List PV) (us : List Value), constsB K ps us = true → ∃ vs, Vals vs us ∧ ∀ n rho H, ∀ P w, VRs ⟨K, P, w⟩ n rho H ps vs
  | [], us, h => by
    simp only [constsB] at h
    cases us with
    | nil => exact ⟨[], .nil, fun _ _ _ _ _ => by simp only [VRs]⟩
    | cons _ _ => cases h
  | p :: ps, us, h => by
    simp only [constsB] at h
    cases us with
    | nil => cases h
    | cons u us =>
      simp only [Bool.and_eq_true] at h
      obtain ⟨v, r, hv⟩ := constB_ok p u h.1
      obtain ⟨vs, rs, hvs⟩ := constsB_ok ps us h.2
      exact ⟨v :: vs, .cons r rs, fun n rho H P w => by simp only [VRs]; exact ⟨v, vs, rfl, hv n rho H P w, hvs n rho H P w⟩⟩
end
/-- a constant by its name -/
def conB (K : PySem.W.Frag) (x : Str) (p : PV) : Bool := match PySem.W.nsIn K mainGlobals x with
  | some (some u) => constB K p u
  | _ => false
def consB (K : PySem.W.Frag) : List Str → List PV → Bool
  | x :: xs, p :: ps => conB K x p && consB K xs ps
  | [], [] => true
  | _, _ => false
theorem consB_ok {K : PySem.W.Frag} {h : Heap} {mg : Str → Option Value} (X : K.In h) (G : h.Ns mainGlobals mg) : ∀ {xs : List Str} {ps : List PV}, consB K xs ps = true → ∀ (i : Nat) (x : Str) (p : PV), xs[i]? = some x → ps[i]? = some p → ∃ u v, mg x = some u ∧ RelV v u ∧ ∀ n rho H, ∀ P w, VR ⟨K, P, w⟩ n rho H p v
  | [], [], _, i, x, p, h1, _ => by simp at h1
  | [], _ :: _, c, _, _, _, _, _ => by simp [consB] at c
  | _ :: _, [], c, _, _, _, _, _ => by simp [consB] at c
  | y :: ys, q :: qs, c, 0, x, p, h1, h2 => by
    simp only [consB, Bool.and_eq_true] at c
    simp at h1 h2
    subst h1; subst h2
    have c1 := c.1
    unfold conB at c1
    split at c1
    · rename_i u e
      obtain ⟨v, r, hv⟩ := constB_ok q u c1
      exact ⟨u, v, PySem.W.mg_of X G e, r, hv⟩
    · cases c1
  | y :: ys, q :: qs, c, i + 1, x, p, h1, h2 => by
    simp only [consB, Bool.and_eq_true] at c
    exact consB_ok X G c.2 i x p (by simpa using h1) (by simpa using h2)
/-! ### the Hook: facts, defs, and a Bool more -/
abbrev AlB : Type := He.AlD × Bool
def obsB (n : Nat) (fa : List He.Fa) (fn : List He.DefD) (ex : PySem.W.Frag → Bool) (g : Addr → Option Obj) : AlB := (He.obsD fa fn (He.frG g (He.asD g n)), ex (He.frG g (He.asD g n)))
structure SaysB (fa : List He.Fa) (fn : List He.DefD) (ex : PySem.W.Frag → Bool) (K : PySem.W.Frag) : Prop where
  d : He.SaysD fa fn K
  more : ex K = true
def hookB (n : Nat) (fa : List He.Fa) (fn : List He.DefD) (ex : PySem.W.Frag → Bool) : PySem.W.Hook where
  α := AlB
  obs := fun s => obsB n fa fn ex s.heap.get?
  val := fun _ => (He.valD fn, true)
  says := fun _ h => ∃ K : PySem.W.Frag, K.In h ∧ SaysB fa fn ex K
  of := fun _ _ e => ⟨_, He.frG_in, congrArg (fun z : AlB => z.1) e, congrArg (fun z : AlB => z.2) e⟩
  keeps := fun _ _ _ ⟨K, hK, c⟩ k => ⟨K, PySem.W.Frag.In.keeps hK k, c⟩
theorem obsB_eq {n : Nat} {fa : List He.Fa} {fn : List He.DefD} {ex : PySem.W.Frag → Bool} {g : Addr → Option Obj} {s : Shared} (h : ∀ a, g a = s.heap.get? a) : obsB n fa fn ex g = (hookB n fa fn ex).obs s := by
  have e : g = s.heap.get? := funext h
  rw [e] <;> rfl
/-! ### a def by its datum -/
/-- a def: its name, its statement, its names by slots, its parameters -/
structure DI where
  name : Str
  st : Stmt
  N : List Str
  ps : List Str
def DI.d (i : DI) : He.DefD := ⟨(i.name, none), i.name, i.name, defArgs i.st, defBody i.st, defScope i.st, [], []⟩
def nodupB : List Str → Bool
  | [] => true
  | x :: xs => !xs.contains x && nodupB xs
theorem nodupB_ok : ∀ {xs : List Str}, nodupB xs = true → xs.Nodup
  | [], _ => List.nodup_nil
  | x :: xs, h => by
    simp only [nodupB, Bool.and_eq_true, Bool.not_eq_true'] at h
    refine List.nodup_cons.mpr ⟨fun z => ?_, nodupB_ok h.2⟩
    have this : xs.contains x = true := List.contains_iff_mem.mpr z
    rw [h.1] at this
    cases this
def scopeB (N ps : List Str) (sc : Scope) : Bool := decide (sc.kind = .function) && !sc.isCoroutine && !sc.isGenerator && nodupB N && decide (N.take ps.length = ps) && (ps.all fun x => locB sc x || isCell sc x) && (sc.names.all fun y => !decide (y.2 = .free))
theorem scopeB_ok {N ps : List Str} {sc : Scope} (h : scopeB N ps sc = true) : FnScope N ps sc := by
  simp only [scopeB, Bool.and_eq_true, decide_eq_true_eq, Bool.not_eq_true', List.all_eq_true, Bool.or_eq_true, decide_eq_false_iff_not] at h
  obtain ⟨⟨⟨⟨⟨⟨h1, h2⟩, h3⟩, h4⟩, h5⟩, h6⟩, h7⟩ := h
  refine ⟨h1, h2, h3, nodupB_ok h4, h5, fun x hx => ?_, h7⟩
  rcases h6 x hx with z | z
  · exact .inl (locB_ok z)
  · exact .inr (isCell_ok z)
/-- all that the kernel looks at of a def -/
def defB (T : Tab) (f : Nat) (i : DI) : Bool := scopeB i.N i.ps (defScope i.st) && (match T.defs[f]? with | some d => Nat.beq d.np i.ps.length && Nat.beq d.ns i.N.length && ckB T i.N d.body (defScope i.st) (defBody i.st) | none => false)
theorem mkDef {K : PySem.W.Frag} {h : Heap} {mg : Str → Option Value} {T : Tab} {f : Nat} {i : DI} {fa : List He.Fa} {fn : List He.DefD} (X : K.In h) (G : h.Ns mainGlobals mg) (c : He.SaysD fa fn K) (hd : i.d ∈ fn) (hg : He.Fa.glo i.name ∈ fa) (hc : defB T f i = true)
    (hb : ∀ (kV doc pm : Value) (an : Option Addr) (cdv ct : Value) (us : List Value), us.length = i.ps.length → bindArgs (PySem.W.fnOf i.name i.name (defArgs i.st) (defBody i.st) (defScope i.st) .none kV doc pm an cdv ct) ⟨us, []⟩ = pure (i.ps.zip us)) : DefOk K mg T f i.name := by
  obtain ⟨j, hj, ej⟩ := List.mem_iff_getElem.mp hd
  obtain ⟨fd, F⟩ := c.def_ j (d := i.d) (by rw [List.getElem?_eq_getElem hj, ej])
  obtain ⟨m, hm, em⟩ := List.mem_iff_getElem.mp hg
  have hgl := He.glo_ok X G (c.fact m (f := .glo i.name) (by rw [List.getElem?_eq_getElem hm, em]))
  have hB : Binds K fd i.ps [] := FunD.bindsN F hb
  obtain ⟨oc, od, dV, kV, doc, pm, an, cdv, ct, osl, efd, lk, hcd, hD, hK⟩ := F.ex
  rcases hD with ⟨_, rfl⟩ | ⟨e, _⟩
  · unfold defB at hc
    rw [Bool.and_eq_true] at hc
    obtain ⟨h1, h2⟩ := hc
    split at h2
    · rename_i d ed
      simp only [Bool.and_eq_true] at h2
      exact ⟨He.ga K i.name, fd, i.name, i.st, i.N, i.ps, d, hgl, ⟨⟨oc, od, kV, doc, pm, an, cdv, ct, osl, efd, lk, hcd⟩, F.kp⟩, hB, scopeB_ok h1, ed, Nat.eq_of_beq_eq_true h2.1.1, Nat.eq_of_beq_eq_true h2.1.2, h2.2⟩
    · cases h2
  · exact absurd rfl e
/-! ### the start -/
def sto0 (ns : List Int) : Sto := ⟨1, [(0, .rol (ns.map .int))]⟩
theorem ints_vr {K : KW} {n : Nat} {rho : Nat → Addr} {H : Hp} : ∀ ns : List Int, VRs K n rho H (ns.map .int) (ns.map V.int)
  | [] => by simp only [List.map_nil, VRs]
  | i :: ns => by simp only [List.map_cons, VRs, VR]; exact ⟨_, _, rfl, rfl, ints_vr ns⟩
theorem sp_start {K : KW} {mg : Str → Option Value} {cl : Cls0} {call : Nat → List PV → Sto → Res PV} {f : Nat} {a : Addr} {us : List Value} {ns : List Int} {sh : Shared} (S : Start K.K mg [] a us sh) (hi : IntsAre us ns) (hl : ns.length ≤ sizeLine) (hr : ∃ s', call f [.lst 0] (sto0 ns) = .ok (.bl true) s') : spI K cl call f [.ref a] (Hp0 K.K [] a us ns) (fun v _ => v = .bl true) (fun _ _ _ => False) := by
  obtain ⟨s', hr⟩ := hr
  have ro : RoL K (Hp0 K.K [] a us ns) a (ns.map V.int) := by
    rcases Hp0.seq S hi hl with hS | hS
    · rcases hS with hS | hS
      · rcases Hp0.cases S hS with ⟨z, _⟩ | ⟨_, _, _, z⟩
        · cases z
        · cases z
      · exact .inl hS
    · exact .inr fun H' => .inr hS
  refine ⟨fun _ => a, sto0 ns, [.lst 0], ⟨fun i o h => ?_, fun i o h => ?_, fun i j o u h h' t _ _ => ?_⟩, by simp only [VRs, VR]; exact ⟨_, _, rfl, ⟨Nat.zero_lt_one, rfl⟩, rfl⟩, ?_⟩
  · simp only [sto0, look] at h
    split at h
    · cases h
      exact ⟨_, ro, ints_vr ns⟩
    · cases h
  · simp only [sto0, look] at h
    split at h
    · rename_i e
      rw [Nat.eq_of_beq_eq_true e]
      exact Nat.zero_lt_one
    · cases h
  · simp only [sto0, look] at h
    split at h
    · cases h; cases t
    · cases h
  · rw [hr]
    intro rho' H' v _ _ V1
    simpa only [VR] using V1
end FI

namespace FI
open PySem PySem.Spec PyProof.Rows L2
/-! ### the top by a list of defs -/
def BindEq (i : DI) : Prop := ∀ (kV doc pm : Value) (an : Option Addr) (cdv ct : Value) (us : List Value), us.length = i.ps.length → bindArgs (PySem.W.fnOf i.name i.name (defArgs i.st) (defBody i.st) (defScope i.st) .none kV doc pm an cdv ct) ⟨us, []⟩ = pure (i.ps.zip us)
def AllI (p : Nat → DI → Prop) : Nat → List DI → Prop
  | _, [] => True
  | k, i :: is => p k i ∧ AllI p (k + 1) is
theorem AllI.get {p : Nat → DI → Prop} : ∀ {is : List DI} {k f : Nat} {i : DI}, AllI p k is → is[f]? = some i → p (k + f) i
  | [], _, _, _, _, h => by simp at h
  | i :: is, k, 0, j, a, h => by
    simp at h
    subst h
    exact a.1
  | i :: is, k, f + 1, j, a, h => by
    have z := AllI.get a.2 (f := f) (by simpa using h)
    rwa [Nat.add_assoc, Nat.add_comm 1 f] at z
/-- what a law looks at beside its defs: facts, functions of classes, a Bool -/
structure Mo where
  fa : List He.Fa := []
  fn : List He.DefD := []
  b : PySem.W.Frag → Bool := fun _ => true
def faI (ds : List DI) (m : Mo) : List He.Fa := ds.map (fun i => He.Fa.glo i.name) ++ (bltNames.map He.Fa.free ++ m.fa)
def fnI (ds : List DI) (m : Mo) : List He.DefD := ds.map DI.d ++ m.fn
/-- the constants, and what else is looked at -/
def exI (T : Tab) (m : Mo) : PySem.W.Frag → Bool := fun K => consB K T.cnames T.consts && m.b K
def clI (T : Tab) (K : PySem.W.Frag) : Cls0 := fun c => (T.errs[c]?).map fun e => (He.ga K e.1, [e.2])
/-- the law's own errors, out of what is looked at -/
def ErrsI (T : Tab) (ds : List DI) (m : Mo) : Prop := ∀ (K : PySem.W.Frag) (h : Heap) (mg : Str → Option Value), K.In h → h.Ns mainGlobals mg → He.SaysD (faI ds m) (fnI ds m) K → m.b K = true → ∀ (c : Nat) (x f : Str), T.errs[c]? = some (x, f) → ErrOk K mg x f (He.ga K x)
def okI (T : Tab) (f : Nat) (i : DI) : Prop := defB T f i = true ∧ BindEq i
theorem topI {K : PySem.W.Frag} {h : Heap} {mg : Str → Option Value} {T : Tab} {m : Mo} {ds : List DI} (he : ErrsI T ds m) (X : K.In h) (G : h.Ns mainGlobals mg) (c : SaysB (faI ds m) (fnI ds m) (exI T m) K) (hf : T.fns = ds.map (·.name)) (ha : AllI (okI T) 0 ds) : Top K mg T (clI T K) := by
  have cm := c.more
  have c0 := c.d
  simp only [exI, Bool.and_eq_true] at cm
  refine ⟨fun f x e => ?_, consB_ok X G cm.1, fun x hx => ?_, fun c x f e => ⟨He.ga K x, by simp only [clI, e, Option.map_some], he K h mg X G c0 cm.2 c x f e⟩⟩
  · rw [hf, List.getElem?_map] at e
    cases q : ds[f]? with
    | none => rw [q] at e; cases e
    | some i =>
      rw [q] at e
      cases e
      have z := ha.get q
      rw [Nat.zero_add] at z
      have hm : i ∈ ds := List.mem_of_getElem? q
      exact mkDef X G c.d (List.mem_append_left _ (List.mem_map.mpr ⟨i, hm, rfl⟩)) (List.mem_append_left _ (List.mem_map.mpr ⟨i, hm, rfl⟩)) z.1 z.2
  · have hg : He.Fa.free x ∈ faI ds m := List.mem_append_right _ (List.mem_append_left _ (List.mem_map.mpr ⟨x, hx, rfl⟩))
    obtain ⟨m, hm, em⟩ := List.mem_iff_getElem.mp hg
    exact He.free_ok X G (c.d.fact m (f := .free x) (by rw [List.getElem?_eq_getElem hm, em]))
theorem lawI {P : Program} {w : World} {K : PySem.W.Frag} {h : Heap} {mg : Str → Option Value} {T : Tab} {m : Mo} {ds : List DI} {n f : Nat} {i : DI} {x : Str} (he : ErrsI T ds m) (X : K.In h) (G : h.Ns mainGlobals mg) (c : SaysB (faI ds m) (fnI ds m) (exI T m) K) (hf : T.fns = ds.map (·.name)) (ha : AllI (okI T) 0 ds)
    (hi : ds[f]? = some i) (hx : i.ps = [x]) : ∃ fd, mg i.name = some (.ref (He.ga K i.name)) ∧ (∀ (s : Shared) (u : Value), BindsTo s fd ⟨[u], []⟩ [(x, u)]) ∧ ∀ base, FnG P w K mg base (L2.CX P w) (n + 1) (He.ga K i.name) fd [x] (spI ⟨K, P, w⟩ (clI T K) (runF T (n + 1)) f) := by
  have t := topI he X G c hf ha
  have z := ha.get hi
  rw [Nat.zero_add] at z
  obtain ⟨hc, hb⟩ := z
  have hm : i ∈ ds := List.mem_of_getElem? hi
  have hm1 : i.d ∈ fnI ds m := List.mem_append_left _ (List.mem_map.mpr ⟨i, hm, rfl⟩)
  obtain ⟨j, hj, ej⟩ := List.mem_iff_getElem.mp hm1
  obtain ⟨fd, F⟩ := c.d.def_ j (d := i.d) (by rw [List.getElem?_eq_getElem hj, ej])
  have hm2 : He.Fa.glo i.name ∈ faI ds m := List.mem_append_left _ (List.mem_map.mpr ⟨i, hm, rfl⟩)
  obtain ⟨m, hm, em⟩ := List.mem_iff_getElem.mp hm2
  have hgl := He.glo_ok X G (c.d.fact m (f := .glo i.name) (by rw [List.getElem?_eq_getElem hm, em]))
  have b := FunD.bindsA (ps := i.ps) F hb
  refine ⟨fd, hgl, fun s u => ?_, fun base => ?_⟩
  · have z := b s [u] (by rw [hx]; rfl)
    rw [hx] at z
    exact z
  · obtain ⟨oc, od, dV, kV, doc, pm, an, cdv, ct, osl, efd, lk, hcd, hD, hK⟩ := F.ex
    rcases hD with ⟨_, rfl⟩ | ⟨e, _⟩
    · unfold defB at hc
      rw [Bool.and_eq_true] at hc
      obtain ⟨h1, h2⟩ := hc
      split at h2
      · rename_i d ed
        simp only [Bool.and_eq_true] at h2
        rw [← hx]
        exact fn_stepD (x := i.name) (qual := i.name) (st := i.st) (N := i.N) (facts t n) ⟨⟨oc, od, kV, doc, pm, an, cdv, ct, osl, efd, lk, hcd⟩, F.kp⟩ (scopeB_ok h1) ed (Nat.eq_of_beq_eq_true h2.1.1) (Nat.eq_of_beq_eq_true h2.1.2) h2.2
      · cases h2
    · exact absurd rfl e
theorem walkI {l : PySem.W.OpenLaw} {n k : Nat} {q : Program} {loose : List Str} {XP : (Str → Option Value) → Heap → Prop} {d : DefRec} {x : Str} {T : Tab} {m : Mo} {ds : List DI} {f : Nat} {i : DI} {YP : World → Heap → Prop}
    (hY : ∀ w h, YP w h → ∃ K : PySem.W.Frag, K.In h ∧ SaysB (faI ds m) (fnI ds m) (exI T m) K) (he : ErrsI T ds m)
    (hn : l.most = some n) (hn2 : n ≤ sizeLine) (hdf : d.params.defaults = []) (hr : Room (k + 1) callerA)
    (hf : T.fns = ds.map (·.name)) (ha : AllI (okI T) 0 ds) (hi : ds[f]? = some i) (hx : i.ps = [x]) (hd : d.name = i.name)
    (hrun : ∀ ns : List Int, ns.length ≤ n → ∃ s', runF T (k + 1) f [.lst 0] (sto0 ns) = .ok (.bl true) s') :
    PySem.W.WalkO q loose XP YP l.row.toRowW d [] (fun f vs => PySem.call f vs) := by
  refine Att.attach_call hn hdf fun w s₀ s₁ mg mb fa o pm cd doc a vs ns G Y ho hd' hcd hmg hobj hints hlen hg => ?_
  obtain ⟨K, KX, c⟩ := hY _ _ Y
  obtain ⟨fd, hgl, hb, hF⟩ := lawI (P := l.prog) (w := w) (n := k) he KX G.T.g c hf ha hi hx
  rw [hd] at hmg
  have e := hmg.symm.trans hgl
  cases e
  have S : Start K mg [] a vs s₁ := ⟨KX, G.T.g, ⟨mb, G.T.b, G.T.builtins⟩, G.T.nolimit, hg, hobj, fun _ z => (by cases z), fun _ z => (by cases z), fun _ z => (by cases z), fun z => absurd rfl z⟩
  refine law_callG S hints (Nat.le_trans hlen hn2) hr (fun base _ => hF base) hb (sp_start (K := ⟨K, l.prog, w⟩) S hints (Nat.le_trans hlen hn2) (hrun ns hlen)) fun e s' z => ?_
  obtain ⟨_, _, _, _, _, _, _, _, _, _, _, _, hE⟩ := z
  exact hE
end FI

namespace K39
open PySem FI L2

def top (i : Nat) : Stmt := PySem.Challenge.pw_forehouse_k39_whole_runs_and_chances.main.body.getD i (.Pass ⟨0, 0, 0, 0⟩)

abbrev f_is_integer : Nat := 0
abbrev f_common : Nat := 1
abbrev f_made : Nat := 2
abbrev f_is_fraction : Nat := 3
abbrev f_add : Nat := 4
abbrev f_sub : Nat := 5
abbrev f_mul : Nat := 6
abbrev f_is_under : Nat := 7
abbrev f_sum_in : Nat := 8
abbrev f_need_length : Nat := 9
abbrev f_longer_runs : Nat := 10
abbrev f_layers_in : Nat := 11
abbrev f_runs : Nat := 12
abbrev f_whole_runs : Nat := 13
abbrev f_spot_of : Nat := 14
abbrev f_inner_count : Nat := 15
abbrev f_is_run : Nat := 16
abbrev f_need_run : Nat := 17
abbrev f_is_within : Nat := 18
abbrev f_is_range : Nat := 19
abbrev f_is_forecaster : Nat := 20
abbrev f_need_forecaster : Nat := 21
abbrev f_is_exact : Nat := 22
abbrev f_is_mild_in : Nat := 23
abbrev f_is_mild : Nat := 24
abbrev f_need_chances : Nat := 25
abbrev f_chance_in : Nat := 26
abbrev f_chance : Nat := 27
abbrev f_is_payoff : Nat := 28
abbrev f_need_payoff : Nat := 29
abbrev f_mean_in : Nat := 30
abbrev f_mean_by : Nat := 31
abbrev f__law_mixed : Nat := 32
abbrev f__law_begin : Nat := 33
abbrev f__law_draw : Nat := 34
abbrev f__law_of : Nat := 35
abbrev f__law_ratio : Nat := 36
abbrev f__law_plus : Nat := 37
abbrev f__law_less : Nat := 38
abbrev f__law_times : Nat := 39
abbrev f__law_over : Nat := 40
abbrev f__law_under : Nat := 41
abbrev f__law_sum : Nat := 42
abbrev f__law_all_runs : Nat := 43
abbrev f__law_between : Nat := 44
abbrev f__law_ranges : Nat := 45
abbrev f__law_sorted_two : Nat := 46
abbrev f__law_within : Nat := 47
abbrev f__law_likely : Nat := 48
abbrev f__law_pays : Nat := 49
abbrev f__law_are_chances_right : Nat := 50
abbrev f__law_is_kind_right : Nat := 51
abbrev f__law_hand_right : Nat := 52
abbrev f_law : Nat := 53
/-- is_integer -/
def c_is_integer : E :=
  (.seq (.ret (.and (.isi .int (.var 0)) (.one (.not (.isi .bool (.var 0)))))) .skip)

/-- common -/
def c_common : E :=
  (.seq (.par [0, 1] (.cons (.blt .abs (.cons (.var 0) .nil)) (.cons (.blt .abs (.cons (.var 1) .nil)) .nil))) (.seq (.whl (.cmp .ne (.var 1) (.int 0))
    (.seq (.par [0, 1] (.cons (.var 1) (.cons (.bin .mod (.var 0) (.blt .int (.cons (.var 1) .nil))) .nil))) .skip)) (.seq (.ret (.var 0)) .skip)))

/-- made -/
def c_made : E :=
  (.seq (.sif (.cmp .lt (.var 1) (.int 0))
    (.seq (.par [0, 1] (.cons (.bin .sub (.int 0) (.var 0)) (.cons (.bin .sub (.int 0) (.var 1)) .nil))) .skip)
    .skip) (.seq (.set (.tn 2) (.call f_common (.cons (.var 0) (.cons (.var 1) .nil)))) (.seq (.ret (.tup (.cons (.bin .fdiv (.var 0) (.var 2)) (.cons (.bin .fdiv (.var 1) (.var 2)) .nil)))) .skip)))

/-- is_fraction -/
def c_is_fraction : E :=
  (.seq (.sif (.or (.not (.isi .tuple (.var 0))) (.or (.cmp .ne (.blt .len (.cons (.var 0) .nil)) (.int 2)) (.one (.not (.blt .all (.cons (.comp [("one", 1)] (.tn 1) (.iseq (.var 0)) (.bl true) (.call f_is_integer (.cons (.var 1) .nil))) .nil))))))
    (.seq (.ret (.bl false)) .skip)
    .skip) (.seq (.ret (.and (.cmp .ge (.idx (.var 0) (.int 1)) (.int 1)) (.one (.cmp .eq (.call f_common (.cons (.idx (.var 0) (.int 0)) (.cons (.idx (.var 0) (.int 1)) .nil))) (.int 1))))) .skip))

/-- add -/
def c_add : E :=
  (.seq (.ret (.call f_made (.cons (.bin .add (.bin .mul (.idx (.var 0) (.int 0)) (.idx (.var 1) (.int 1))) (.bin .mul (.idx (.var 1) (.int 0)) (.idx (.var 0) (.int 1)))) (.cons (.bin .mul (.idx (.var 0) (.int 1)) (.idx (.var 1) (.int 1))) .nil)))) .skip)

/-- sub -/
def c_sub : E :=
  (.seq (.ret (.call f_made (.cons (.bin .sub (.bin .mul (.idx (.var 0) (.int 0)) (.idx (.var 1) (.int 1))) (.bin .mul (.idx (.var 1) (.int 0)) (.idx (.var 0) (.int 1)))) (.cons (.bin .mul (.idx (.var 0) (.int 1)) (.idx (.var 1) (.int 1))) .nil)))) .skip)

/-- mul -/
def c_mul : E :=
  (.seq (.ret (.call f_made (.cons (.bin .mul (.idx (.var 0) (.int 0)) (.idx (.var 1) (.int 0))) (.cons (.bin .mul (.idx (.var 0) (.int 1)) (.idx (.var 1) (.int 1))) .nil)))) .skip)

/-- is_under -/
def c_is_under : E :=
  (.seq (.ret (.cmp .lt (.bin .mul (.idx (.var 0) (.int 0)) (.idx (.var 1) (.int 1))) (.bin .mul (.idx (.var 1) (.int 0)) (.idx (.var 0) (.int 1))))) .skip)

/-- sum_in -/
def c_sum_in : E :=
  (.seq (.set (.tn 1) (.glob 0)) (.seq (.sfor (.tn 2) (.iseq (.var 0))
    (.seq (.set (.tn 1) (.call f_add (.cons (.var 1) (.cons (.var 2) .nil)))) .skip)) (.seq (.ret (.var 1)) .skip)))

/-- need_length -/
def c_need_length : E :=
  (.seq (.sif (.or (.not (.call f_is_integer (.cons (.var 0) .nil))) (.one (.not (.chain .le .le (.int 1) (.var 0) (.glob 1)))))
    (.seq .never .skip)
    .skip) .skip)

/-- longer_runs -/
def c_longer_runs : E :=
  (.seq (.ret (.comp2 [("run", 1), ("outcome", 2)] (.tn 1) (.iseq (.var 0)) (.bl true) (.tn 2) (.iseq (.tup (.cons (.int 0) (.cons (.int 1) .nil)))) (.bl true) (.tup (.star (.var 1) (.cons (.var 2) .nil))))) .skip)

/-- layers_in -/
def c_layers_in : E :=
  (.seq (.set (.tn 1) (.lst (.cons (.lst (.cons (.tup .nil) .nil)) .nil))) (.seq (.sfor (.tn 2) (.irng (.var 0))
    (.seq (.expr (.app (.var 1) (.call f_longer_runs (.cons (.idx (.var 1) (.neg (.int 1))) .nil)))) .skip)) (.seq (.ret (.var 1)) .skip)))

/-- runs -/
def c_runs : E :=
  (.seq (.expr (.call f_need_length (.cons (.var 0) .nil))) (.seq (.ret (.blt .tuple (.cons (.comp2 [("layer", 1), ("run", 2)] (.tn 1) (.iseq (.slice (.call f_layers_in (.cons (.var 0) .nil)) .no (.neg (.int 1)))) (.bl true) (.tn 2) (.iseq (.var 1)) (.bl true) (.var 2)) .nil))) .skip))

/-- whole_runs -/
def c_whole_runs : E :=
  (.seq (.expr (.call f_need_length (.cons (.var 0) .nil))) (.seq (.ret (.blt .tuple (.cons (.idx (.call f_layers_in (.cons (.var 0) .nil)) (.neg (.int 1))) .nil))) .skip))

/-- spot_of -/
def c_spot_of : E :=
  (.seq (.set (.tn 1) (.int 0)) (.seq (.sfor (.tn 2) (.iseq (.var 0))
    (.seq (.set (.tn 1) (.bin .add (.bin .add (.bin .mul (.int 2) (.var 1)) (.int 1)) (.var 2))) .skip)) (.seq (.ret (.var 1)) .skip)))

/-- inner_count -/
def c_inner_count : E :=
  (.seq (.ret (.blt .len (.cons (.comp2 [("layer", 1), ("run", 2)] (.tn 1) (.iseq (.slice (.call f_layers_in (.cons (.var 0) .nil)) .no (.neg (.int 1)))) (.bl true) (.tn 2) (.iseq (.var 1)) (.bl true) (.var 2)) .nil))) .skip)

/-- is_run -/
def c_is_run : E :=
  (.seq (.sif (.or (.not (.isi .tuple (.var 1))) (.one (.cmp .gt (.blt .len (.cons (.var 1) .nil)) (.var 0))))
    (.seq (.ret (.bl false)) .skip)
    .skip) (.seq (.ret (.blt .all (.cons (.comp [("one", 2)] (.tn 2) (.iseq (.var 1)) (.bl true) (.and (.call f_is_integer (.cons (.var 2) .nil)) (.one (.chain .le .le (.int 0) (.var 2) (.int 1))))) .nil))) .skip))

/-- need_run -/
def c_need_run : E :=
  (.seq (.sif (.not (.call f_is_run (.cons (.var 0) (.cons (.var 1) .nil))))
    (.seq .never .skip)
    .skip) .skip)

/-- is_within -/
def c_is_within : E :=
  (.seq (.ret (.and (.call f_is_fraction (.cons (.var 2) .nil)) (.and (.not (.call f_is_under (.cons (.var 2) (.cons (.var 0) .nil)))) (.one (.not (.call f_is_under (.cons (.var 1) (.cons (.var 2) .nil)))))))) .skip)

/-- is_range -/
def c_is_range : E :=
  (.seq (.sif (.or (.not (.isi .tuple (.var 0))) (.or (.cmp .ne (.blt .len (.cons (.var 0) .nil)) (.int 2)) (.one (.not (.blt .all (.cons (.comp [("one", 1)] (.tn 1) (.iseq (.var 0)) (.bl true) (.call f_is_within (.cons (.glob 0) (.cons (.glob 2) (.cons (.var 1) .nil))))) .nil))))))
    (.seq (.ret (.bl false)) .skip)
    .skip) (.seq (.ret (.not (.call f_is_under (.cons (.idx (.var 0) (.int 1)) (.cons (.idx (.var 0) (.int 0)) .nil))))) .skip))

/-- is_forecaster -/
def c_is_forecaster : E :=
  (.seq (.sif (.or (.not (.isi .tuple (.var 1))) (.one (.cmp .ne (.blt .len (.cons (.var 1) .nil)) (.call f_inner_count (.cons (.var 0) .nil)))))
    (.seq (.ret (.bl false)) .skip)
    .skip) (.seq (.ret (.blt .all (.cons (.comp [("one", 2)] (.tn 2) (.iseq (.var 1)) (.bl true) (.call f_is_range (.cons (.var 2) .nil))) .nil))) .skip))

/-- need_forecaster -/
def c_need_forecaster : E :=
  (.seq (.expr (.call f_need_length (.cons (.var 0) .nil))) (.seq (.sif (.not (.call f_is_forecaster (.cons (.var 0) (.cons (.var 1) .nil))))
    (.seq .never .skip)
    .skip) (.seq (.ret (.var 1)) .skip)))

/-- is_exact -/
def c_is_exact : E :=
  (.seq (.ret (.blt .all (.cons (.comp [("low", 2), ("high", 3)] (.tt (.cons (.tn 2) (.cons (.tn 3) .nil))) (.iseq (.call f_need_forecaster (.cons (.var 0) (.cons (.var 1) .nil)))) (.bl true) (.cmp .eq (.var 2) (.var 3))) .nil))) .skip)

/-- is_mild_in -/
def c_is_mild_in : E :=
  (.seq (.ret (.blt .all (.cons (.comp [("low", 1), ("high", 2)] (.tt (.cons (.tn 1) (.cons (.tn 2) .nil))) (.iseq (.var 0)) (.bl true) (.and (.cmp .eq (.var 1) (.var 2)) (.and (.cmp .ne (.var 1) (.glob 0)) (.one (.cmp .ne (.var 2) (.glob 2)))))) .nil))) .skip)

/-- is_mild -/
def c_is_mild : E :=
  (.seq (.ret (.call f_is_mild_in (.cons (.call f_need_forecaster (.cons (.var 0) (.cons (.var 1) .nil))) .nil))) .skip)

/-- need_chances -/
def c_need_chances : E :=
  (.seq (.sif (.or (.not (.isi .tuple (.var 1))) (.one (.cmp .ne (.blt .len (.cons (.var 1) .nil)) (.blt .len (.cons (.var 0) .nil)))))
    (.seq .never .skip)
    .skip) (.seq (.sif (.not (.blt .all (.cons (.comp [("low", 2), ("high", 3), ("one", 4)] (.tt (.cons (.tt (.cons (.tn 2) (.cons (.tn 3) .nil))) (.cons (.tn 4) .nil))) (.izip (.cons (.var 0) (.cons (.var 1) .nil))) (.bl true) (.call f_is_within (.cons (.var 2) (.cons (.var 3) (.cons (.var 4) .nil))))) .nil)))
    (.seq .never .skip)
    .skip) .skip))

/-- chance_in -/
def c_chance_in : E :=
  (.seq (.set (.tn 2) (.glob 2)) (.seq (.sfor (.tt (.cons (.tn 3) (.cons (.tn 4) .nil))) (.ienum (.var 1))
    (.seq (.set (.tn 5) (.idx (.var 0) (.call f_spot_of (.cons (.slice (.var 1) .no (.var 3)) .nil)))) (.seq (.set (.tn 2) (.call f_mul (.cons (.var 2) (.cons (.ife (.cmp .eq (.var 4) (.int 1)) (.var 5) (.call f_sub (.cons (.glob 2) (.cons (.var 5) .nil)))) .nil)))) .skip))) (.seq (.ret (.var 2)) .skip)))

/-- chance -/
def c_chance : E :=
  (.seq (.expr (.call f_need_chances (.cons (.call f_need_forecaster (.cons (.var 0) (.cons (.var 1) .nil))) (.cons (.var 2) .nil)))) (.seq (.expr (.call f_need_run (.cons (.var 0) (.cons (.var 3) .nil)))) (.seq (.ret (.call f_chance_in (.cons (.var 2) (.cons (.var 3) .nil)))) .skip)))

/-- is_payoff -/
def c_is_payoff : E :=
  (.seq (.sif (.or (.not (.isi .tuple (.var 1))) (.one (.cmp .ne (.blt .len (.cons (.var 1) .nil)) (.blt .len (.cons (.idx (.call f_layers_in (.cons (.var 0) .nil)) (.neg (.int 1))) .nil)))))
    (.seq (.ret (.bl false)) .skip)
    .skip) (.seq (.ret (.blt .all (.cons (.comp [("one", 2)] (.tn 2) (.iseq (.var 1)) (.bl true) (.call f_is_fraction (.cons (.var 2) .nil))) .nil))) .skip))

/-- need_payoff -/
def c_need_payoff : E :=
  (.seq (.sif (.not (.call f_is_payoff (.cons (.var 0) (.cons (.var 1) .nil))))
    (.seq .never .skip)
    .skip) .skip)

/-- mean_in -/
def c_mean_in : E :=
  (.seq (.ret (.call f_sum_in (.cons (.comp [("run", 3), ("one", 4)] (.tt (.cons (.tn 3) (.cons (.tn 4) .nil))) (.izip (.cons (.idx (.call f_layers_in (.cons (.var 0) .nil)) (.neg (.int 1))) (.cons (.var 2) .nil))) (.bl true) (.call f_mul (.cons (.call f_chance_in (.cons (.var 1) (.cons (.var 3) .nil))) (.cons (.var 4) .nil)))) .nil))) .skip)

/-- mean_by -/
def c_mean_by : E :=
  (.seq (.expr (.call f_need_chances (.cons (.call f_need_forecaster (.cons (.var 0) (.cons (.var 1) .nil))) (.cons (.var 2) .nil)))) (.seq (.expr (.call f_need_payoff (.cons (.var 0) (.cons (.var 3) .nil)))) (.seq (.ret (.call f_mean_in (.cons (.var 0) (.cons (.var 2) (.cons (.var 3) .nil))))) .skip)))

/-- _law_mixed -/
def c__law_mixed : E :=
  (.seq (.set (.tn 0) (.bin .mod (.blt .int (.cons (.var 0) .nil)) (.int 2147483647))) (.seq (.ret (.bin .mod (.bin .mul (.bin .mod (.bin .add (.bin .add (.bin .mul (.var 0) (.bin .add (.int 48271) (.bin .mul (.bin .mul (.int 2) (.var 1)) (.var 1)))) (.bin .mul (.int 69621) (.var 1))) (.int 11)) (.int 2147483647)) (.int 69621)) (.int 2147483629))) .skip))

/-- _law_begin -/
def c__law_begin : E :=
  (.seq (.set (.tn 1) (.ife (.cmp .ne (.var 0) (.lst .nil)) (.blt .list (.cons (.var 0) .nil)) (.lst (.cons (.int 0) .nil)))) (.seq (.ret (.ddisp (.cons (.str "cells") (.cons (.var 1) (.cons (.str "lefts") (.cons (.comp [("_law_cell", 2)] (.tn 2) (.iseq (.var 1)) (.bl true) (.ife (.cmp .ge (.var 2) (.bin .pow (.int 10) (.int 18))) (.var 2) (.int 0))) (.cons (.str "at") (.cons (.int 0) (.cons (.str "room") (.cons (.int 0) .nil)))))))))) .skip))

/-- _law_draw -/
def c__law_draw : E :=
  (.seq (.set (.tn 2) (.dix (.var 0) (.str "at"))) (.seq (.std (.var 0) (.str "at") (.bin .add (.var 2) (.int 1))) (.seq (.set (.tn 3) (.bin .mod (.blt .int (.cons (.var 2) .nil)) (.blt .len (.cons (.dix (.var 0) (.str "cells")) .nil)))) (.seq (.set (.tn 4) (.idx (.dix (.var 0) (.str "lefts")) (.var 3))) (.seq (.sif (.cmp .gt (.var 4) (.int 0))
    (.seq (.stl (.dix (.var 0) (.str "lefts")) (.var 3) (.bin .fdiv (.var 4) (.var 1))) (.seq (.ret (.bin .mod (.blt .int (.cons (.var 4) .nil)) (.var 1))) .skip))
    .skip) (.seq (.set (.tn 5) (.call f__law_mixed (.cons (.call f__law_mixed (.cons (.idx (.dix (.var 0) (.str "cells")) (.var 3)) (.cons (.var 2) .nil))) (.cons (.bin .add (.int 40) (.var 2)) .nil)))) (.seq (.ret (.bin .mod (.bin .fdiv (.blt .int (.cons (.bin .add (.bin .mul (.var 5) (.int 2147483647)) (.call f__law_mixed (.cons (.var 5) (.cons (.bin .add (.int 7) (.var 2)) .nil)))) .nil)) (.int 64)) (.var 1))) .skip)))))))

/-- _law_of -/
def c__law_of : E :=
  (.seq (.ret (.idx (.var 1) (.call f__law_draw (.cons (.var 0) (.cons (.blt .len (.cons (.var 1) .nil)) .nil))))) .skip)

/-- _law_ratio -/
def c__law_ratio : E :=
  (.seq (.par [2, 3] (.cons (.blt .abs (.cons (.var 0) .nil)) (.cons (.var 1) .nil))) (.seq (.whl (.cmp .ne (.var 3) (.int 0))
    (.seq (.par [2, 3] (.cons (.var 3) (.cons (.bin .mod (.blt .int (.cons (.var 2) .nil)) (.var 3)) .nil))) .skip)) (.seq (.ret (.tup (.cons (.bin .fdiv (.var 0) (.var 2)) (.cons (.bin .fdiv (.var 1) (.var 2)) .nil)))) .skip)))

/-- _law_plus -/
def c__law_plus : E :=
  (.seq (.ret (.call f__law_ratio (.cons (.bin .add (.bin .mul (.idx (.var 0) (.int 0)) (.idx (.var 1) (.int 1))) (.bin .mul (.idx (.var 1) (.int 0)) (.idx (.var 0) (.int 1)))) (.cons (.bin .mul (.idx (.var 0) (.int 1)) (.idx (.var 1) (.int 1))) .nil)))) .skip)

/-- _law_less -/
def c__law_less : E :=
  (.seq (.ret (.call f__law_ratio (.cons (.bin .sub (.bin .mul (.idx (.var 0) (.int 0)) (.idx (.var 1) (.int 1))) (.bin .mul (.idx (.var 1) (.int 0)) (.idx (.var 0) (.int 1)))) (.cons (.bin .mul (.idx (.var 0) (.int 1)) (.idx (.var 1) (.int 1))) .nil)))) .skip)

/-- _law_times -/
def c__law_times : E :=
  (.seq (.ret (.call f__law_ratio (.cons (.bin .mul (.idx (.var 0) (.int 0)) (.idx (.var 1) (.int 0))) (.cons (.bin .mul (.idx (.var 0) (.int 1)) (.idx (.var 1) (.int 1))) .nil)))) .skip)

/-- _law_over -/
def c__law_over : E :=
  (.seq (.ret (.call f__law_ratio (.cons (.bin .mul (.idx (.var 0) (.int 0)) (.idx (.var 1) (.int 1))) (.cons (.bin .mul (.idx (.var 0) (.int 1)) (.idx (.var 1) (.int 0))) .nil)))) .skip)

/-- _law_under -/
def c__law_under : E :=
  (.seq (.ret (.cmp .lt (.bin .mul (.idx (.var 0) (.int 0)) (.idx (.var 1) (.int 1))) (.bin .mul (.idx (.var 1) (.int 0)) (.idx (.var 0) (.int 1))))) .skip)

/-- _law_sum -/
def c__law_sum : E :=
  (.seq (.set (.tn 1) (.tup (.cons (.int 0) (.cons (.int 1) .nil)))) (.seq (.sfor (.tn 2) (.iseq (.var 0))
    (.seq (.set (.tn 1) (.call f__law_plus (.cons (.var 1) (.cons (.var 2) .nil)))) .skip)) (.seq (.ret (.var 1)) .skip)))

/-- _law_all_runs -/
def c__law_all_runs : E :=
  (.seq (.par [1, 2] (.cons (.lst .nil) (.cons (.lst (.cons (.tup .nil) .nil)) .nil))) (.seq (.sfor (.tn 3) (.irng (.var 0))
    (.seq (.par [1, 4] (.cons (.bin .add (.var 1) (.var 2)) (.cons (.lst .nil) .nil))) (.seq (.sfor (.tn 5) (.iseq (.var 2))
    (.seq (.set (.tn 4) (.bin .add (.var 4) (.lst (.cons (.bin .add (.var 5) (.tup (.cons (.int 0) .nil))) (.cons (.bin .add (.var 5) (.tup (.cons (.int 1) .nil))) .nil))))) .skip)) (.seq (.set (.tn 2) (.var 4)) .skip)))) (.seq (.ret (.tup (.cons (.var 1) (.cons (.var 2) .nil)))) .skip)))

/-- _law_between -/
def c__law_between : E :=
  (.seq (.set (.tn 1) (.bin .add (.int 1) (.call f__law_draw (.cons (.var 0) (.cons (.int 5) .nil))))) (.seq (.ret (.call f__law_ratio (.cons (.call f__law_draw (.cons (.var 0) (.cons (.bin .add (.var 1) (.int 1)) .nil))) (.cons (.var 1) .nil)))) .skip))

/-- _law_ranges -/
def c__law_ranges : E :=
  (.seq (.set (.tn 3) (.lst .nil)) (.seq (.sfor (.tn 4) (.iseq (.idx (.call f__law_all_runs (.cons (.var 1) .nil)) (.int 0)))
    (.seq (.set (.tt (.cons (.tn 5) (.cons (.tn 6) .nil))) (.call f__law_sorted_two (.cons (.call f__law_between (.cons (.var 0) .nil)) (.cons (.call f__law_between (.cons (.var 0) .nil)) .nil)))) (.seq (.sif (.cmp .eq (.var 2) (.str "exact"))
    (.seq (.set (.tn 6) (.var 5)) .skip)
    .skip) (.seq (.sif (.cmp .eq (.var 2) (.str "mild"))
    (.seq (.set (.tn 7) (.bin .add (.int 2) (.call f__law_draw (.cons (.var 0) (.cons (.int 4) .nil))))) (.seq (.set (.tn 5) (.call f__law_ratio (.cons (.bin .add (.int 1) (.call f__law_draw (.cons (.var 0) (.cons (.bin .sub (.var 7) (.int 1)) .nil)))) (.cons (.var 7) .nil)))) (.seq (.set (.tn 6) (.var 5)) .skip)))
    .skip) (.seq (.expr (.app (.var 3) (.tup (.cons (.var 5) (.cons (.var 6) .nil))))) .skip))))) (.seq (.ret (.blt .tuple (.cons (.var 3) .nil))) .skip)))

/-- _law_sorted_two -/
def c__law_sorted_two : E :=
  (.seq (.ret (.ife (.call f__law_under (.cons (.var 1) (.cons (.var 0) .nil))) (.tup (.cons (.var 1) (.cons (.var 0) .nil))) (.tup (.cons (.var 0) (.cons (.var 1) .nil))))) .skip)

/-- _law_within -/
def c__law_within : E :=
  (.seq (.set (.tn 2) (.lst .nil)) (.seq (.sfor (.tt (.cons (.tn 3) (.cons (.tn 4) .nil))) (.iseq (.var 1))
    (.seq (.set (.tn 5) (.call f__law_over (.cons (.call f__law_plus (.cons (.var 3) (.cons (.var 4) .nil))) (.cons (.tup (.cons (.int 2) (.cons (.int 1) .nil))) .nil)))) (.seq (.expr (.app (.var 2) (.idx (.lst (.cons (.var 3) (.cons (.var 4) (.cons (.var 5) .nil)))) (.call f__law_draw (.cons (.var 0) (.cons (.int 3) .nil)))))) .skip))) (.seq (.ret (.blt .tuple (.cons (.var 2) .nil))) .skip)))

/-- _law_likely -/
def c__law_likely : E :=
  (.seq (.par [3, 4] (.cons (.idx (.call f__law_all_runs (.cons (.var 0) .nil)) (.int 0)) (.cons (.tup (.cons (.int 1) (.cons (.int 1) .nil))) .nil))) (.seq (.sfor (.tt (.cons (.tn 5) (.cons (.tn 6) .nil))) (.ienum (.var 2))
    (.seq (.set (.tn 7) (.idx (.var 1) (.meth .index (.var 3) (.cons (.slice (.var 2) .no (.var 5)) .nil)))) (.seq (.set (.tn 4) (.call f__law_times (.cons (.var 4) (.cons (.ife (.cmp .eq (.var 6) (.int 1)) (.var 7) (.call f__law_less (.cons (.tup (.cons (.int 1) (.cons (.int 1) .nil))) (.cons (.var 7) .nil)))) .nil)))) .skip))) (.seq (.ret (.var 4)) .skip)))

/-- _law_pays -/
def c__law_pays : E :=
  (.seq (.ret (.blt .tuple (.cons (.comp [("_law_one", 2)] (.tn 2) (.iseq (.idx (.call f__law_all_runs (.cons (.var 1) .nil)) (.int 1))) (.bl true) (.call f__law_ratio (.cons (.bin .sub (.call f__law_draw (.cons (.var 0) (.cons (.int 9) .nil))) (.int 3)) (.cons (.bin .add (.int 1) (.call f__law_draw (.cons (.var 0) (.cons (.int 2) .nil)))) .nil)))) .nil))) .skip)

/-- _law_are_chances_right -/
def c__law_are_chances_right : E :=
  (.seq (.set (.tt (.cons (.tn 3) (.cons (.tn 4) .nil))) (.call f__law_all_runs (.cons (.var 0) .nil))) (.seq (.sfor (.tn 5) (.iseq (.bin .add (.var 3) (.var 4)))
    (.seq (.sif (.cmp .ne (.blt .repr (.cons (.call f_chance (.cons (.var 0) (.cons (.var 1) (.cons (.var 2) (.cons (.var 5) .nil))))) .nil)) (.blt .repr (.cons (.call f__law_likely (.cons (.var 0) (.cons (.var 2) (.cons (.var 5) .nil)))) .nil)))
    (.seq (.ret (.bl false)) .skip)
    .skip) .skip)) (.seq (.sfor (.tn 5) (.iseq (.var 3))
    (.seq (.set (.tn 6) (.lst (.cons (.call f_chance (.cons (.var 0) (.cons (.var 1) (.cons (.var 2) (.cons (.bin .add (.var 5) (.tup (.cons (.int 0) .nil))) .nil))))) (.cons (.call f_chance (.cons (.var 0) (.cons (.var 1) (.cons (.var 2) (.cons (.bin .add (.var 5) (.tup (.cons (.int 1) .nil))) .nil))))) .nil)))) (.seq (.sif (.cmp .ne (.call f__law_plus (.cons (.idx (.var 6) (.int 0)) (.cons (.idx (.var 6) (.int 1)) .nil))) (.call f_chance (.cons (.var 0) (.cons (.var 1) (.cons (.var 2) (.cons (.var 5) .nil))))))
    (.seq (.ret (.bl false)) .skip)
    .skip) .skip))) (.seq (.ret (.cmp .eq (.call f__law_sum (.cons (.comp [("_law_one", 5)] (.tn 5) (.iseq (.var 4)) (.bl true) (.call f_chance (.cons (.var 0) (.cons (.var 1) (.cons (.var 2) (.cons (.var 5) .nil)))))) .nil)) (.tup (.cons (.int 1) (.cons (.int 1) .nil))))) .skip))))

/-- _law_is_kind_right -/
def c__law_is_kind_right : E :=
  (.seq (.set (.tn 2) (.cmp .eq (.comp [("_law_low", 5), ("_law_high", 6)] (.tt (.cons (.tn 5) (.cons (.tn 6) .nil))) (.iseq (.var 1)) (.cmp .ne (.var 5) (.var 6)) (.int 1)) (.lst .nil))) (.seq (.set (.tn 3) (.and (.var 2) (.one (.cmp .eq (.comp [("_law_low", 5), ("_law_high", 6)] (.tt (.cons (.tn 5) (.cons (.tn 6) .nil))) (.iseq (.var 1)) (.cmp .inn (.var 5) (.tup (.cons (.tup (.cons (.int 0) (.cons (.int 1) .nil))) (.cons (.tup (.cons (.int 1) (.cons (.int 1) .nil))) .nil)))) (.int 1)) (.lst .nil))))) (.seq (.set (.tn 4) (.lst (.cons (.call f_is_exact (.cons (.var 0) (.cons (.var 1) .nil))) (.cons (.call f_is_mild (.cons (.var 0) (.cons (.var 1) .nil))) (.cons (.call f_need_forecaster (.cons (.var 0) (.cons (.var 1) .nil))) .nil))))) (.seq (.ret (.cmp .eq (.blt .repr (.cons (.var 4) .nil)) (.blt .repr (.cons (.lst (.cons (.var 2) (.cons (.var 3) (.cons (.var 1) .nil)))) .nil)))) .skip))))

/-- _law_hand_right -/
def c__law_hand_right : E :=
  (.seq (.set (.tn 0) (.tup (.cons (.tup (.cons (.tup (.cons (.int 1) (.cons (.int 2) .nil))) (.cons (.tup (.cons (.int 1) (.cons (.int 1) .nil))) .nil))) (.cons (.tup (.cons (.tup (.cons (.int 0) (.cons (.int 1) .nil))) (.cons (.tup (.cons (.int 0) (.cons (.int 1) .nil))) .nil))) (.cons (.tup (.cons (.tup (.cons (.int 1) (.cons (.int 3) .nil))) (.cons (.tup (.cons (.int 1) (.cons (.int 2) .nil))) .nil))) .nil))))) (.seq (.set (.tn 1) (.tup (.cons (.tup (.cons (.int 1) (.cons (.int 2) .nil))) (.cons (.tup (.cons (.int 0) (.cons (.int 1) .nil))) (.cons (.tup (.cons (.int 1) (.cons (.int 3) .nil))) .nil))))) (.seq (.set (.tn 2) (.lst (.cons (.call f_runs (.cons (.int 2) .nil)) (.cons (.call f_whole_runs (.cons (.int 2) .nil)) (.cons (.call f_chance (.cons (.int 2) (.cons (.var 0) (.cons (.var 1) (.cons (.tup (.cons (.int 1) (.cons (.int 1) .nil))) .nil))))) (.cons (.call f_chance (.cons (.int 2) (.cons (.var 0) (.cons (.var 1) (.cons (.tup (.cons (.int 0) (.cons (.int 1) .nil))) .nil))))) .nil)))))) (.seq (.set (.tn 2) (.bin .add (.var 2) (.lst (.cons (.call f_mean_by (.cons (.int 2) (.cons (.var 0) (.cons (.var 1) (.cons (.tup (.cons (.tup (.cons (.int 1) (.cons (.int 1) .nil))) (.cons (.tup (.cons (.int 5) (.cons (.int 1) .nil))) (.cons (.tup (.cons (.int 3) (.cons (.int 1) .nil))) (.cons (.tup (.cons (.int 6) (.cons (.int 1) .nil))) .nil))))) .nil))))) (.cons (.call f_is_exact (.cons (.int 2) (.cons (.var 0) .nil))) .nil))))) (.seq (.set (.tn 3) (.lst (.cons (.tup (.cons (.tup .nil) (.cons (.tup (.cons (.int 0) .nil)) (.cons (.tup (.cons (.int 1) .nil)) .nil)))) (.cons (.tup (.cons (.tup (.cons (.int 0) (.cons (.int 0) .nil))) (.cons (.tup (.cons (.int 0) (.cons (.int 1) .nil))) (.cons (.tup (.cons (.int 1) (.cons (.int 0) .nil))) (.cons (.tup (.cons (.int 1) (.cons (.int 1) .nil))) .nil))))) (.cons (.tup (.cons (.int 1) (.cons (.int 6) .nil))) (.cons (.tup (.cons (.int 0) (.cons (.int 1) .nil))) (.cons (.tup (.cons (.int 5) (.cons (.int 2) .nil))) (.cons (.bl false) .nil)))))))) (.seq (.set (.tn 4) (.lst (.cons (.blt .len (.cons (.call f_runs (.cons (.int 5) .nil)) .nil)) (.cons (.blt .len (.cons (.call f_whole_runs (.cons (.int 5) .nil)) .nil)) (.cons (.call f_is_mild (.cons (.int 1) (.cons (.tup (.cons (.tup (.cons (.tup (.cons (.int 1) (.cons (.int 1) .nil))) (.cons (.tup (.cons (.int 1) (.cons (.int 1) .nil))) .nil))) .nil)) .nil))) (.cons (.call f_whole_runs (.cons (.int 1) .nil)) .nil)))))) (.seq (.set (.tn 4) (.bin .add (.var 4) (.lst (.cons (.idx (.call f_runs (.cons (.int 5) .nil)) (.int 30)) (.cons (.idx (.call f_whole_runs (.cons (.int 5) .nil)) (.int 0)) (.cons (.idx (.call f_whole_runs (.cons (.int 5) .nil)) (.int 31)) .nil)))))) (.seq (.expr (.app (.var 4) (.call f_chance (.cons (.int 5) (.cons (.bin .mul (.tup (.cons (.tup (.cons (.tup (.cons (.int 1) (.cons (.int 2) .nil))) (.cons (.tup (.cons (.int 1) (.cons (.int 2) .nil))) .nil))) .nil)) (.int 31)) (.cons (.bin .mul (.tup (.cons (.tup (.cons (.int 1) (.cons (.int 2) .nil))) .nil)) (.int 31)) (.cons (.bin .mul (.tup (.cons (.int 1) .nil)) (.int 5)) .nil))))))) (.seq (.set (.tn 5) (.lst (.cons (.int 31) (.cons (.int 32) (.cons (.bl false) (.cons (.tup (.cons (.tup (.cons (.int 0) .nil)) (.cons (.tup (.cons (.int 1) .nil)) .nil))) (.cons (.bin .mul (.tup (.cons (.int 1) .nil)) (.int 4)) (.cons (.bin .mul (.tup (.cons (.int 0) .nil)) (.int 5)) (.cons (.bin .mul (.tup (.cons (.int 1) .nil)) (.int 5)) (.cons (.tup (.cons (.int 1) (.cons (.int 32) .nil))) .nil)))))))))) (.seq (.ret (.and (.cmp .eq (.blt .repr (.cons (.var 2) .nil)) (.blt .repr (.cons (.var 3) .nil))) (.one (.cmp .eq (.blt .repr (.cons (.var 4) .nil)) (.blt .repr (.cons (.var 5) .nil)))))) .skip))))))))))

/-- law -/
def c_law : E :=
  (.seq (.set (.tn 1) (.call f__law_begin (.cons (.var 0) .nil))) (.seq (.sfor (.tn 2) (.irng (.bin .add (.int 2) (.bin .fdiv (.blt .len (.cons (.var 0) .nil)) (.int 30))))
    (.seq (.set (.tt (.cons (.tn 3) (.cons (.tn 4) .nil))) (.tup (.cons (.bin .add (.int 1) (.call f__law_draw (.cons (.var 1) (.cons (.bin .add (.int 3) (.blt .int (.cons (.cmp .eq (.var 2) (.int 0)) .nil))) .nil)))) (.cons (.idx (.lst (.cons (.str "any") (.cons (.str "exact") (.cons (.str "mild") .nil)))) (.call f__law_draw (.cons (.var 1) (.cons (.int 3) .nil)))) .nil)))) (.seq (.set (.tn 5) (.call f__law_ranges (.cons (.var 1) (.cons (.var 3) (.cons (.var 4) .nil))))) (.seq (.set (.tt (.cons (.tn 6) (.cons (.tn 7) .nil))) (.tup (.cons (.call f__law_within (.cons (.var 1) (.cons (.var 5) .nil))) (.cons (.call f__law_pays (.cons (.var 1) (.cons (.var 3) .nil))) .nil)))) (.seq (.set (.tt (.cons (.tn 8) (.cons (.tn 9) .nil))) (.call f__law_all_runs (.cons (.var 3) .nil))) (.seq (.sif (.cmp .ne (.blt .repr (.cons (.lst (.cons (.call f_runs (.cons (.var 3) .nil)) (.cons (.call f_whole_runs (.cons (.var 3) .nil)) .nil))) .nil)) (.blt .repr (.cons (.lst (.cons (.blt .tuple (.cons (.var 8) .nil)) (.cons (.blt .tuple (.cons (.var 9) .nil)) .nil))) .nil)))
    (.seq (.ret (.bl false)) .skip)
    .skip) (.seq (.sif (.or (.not (.call f__law_is_kind_right (.cons (.var 3) (.cons (.var 5) .nil)))) (.one (.not (.call f__law_are_chances_right (.cons (.var 3) (.cons (.var 5) (.cons (.var 6) .nil)))))))
    (.seq (.ret (.bl false)) .skip)
    .skip) (.seq (.set (.tn 10) (.call f__law_sum (.cons (.comp [("_law_one", 11), ("_law_pay", 12)] (.tt (.cons (.tn 11) (.cons (.tn 12) .nil))) (.izip (.cons (.var 9) (.cons (.var 7) .nil))) (.bl true) (.call f__law_times (.cons (.call f__law_likely (.cons (.var 3) (.cons (.var 6) (.cons (.var 11) .nil)))) (.cons (.var 12) .nil)))) .nil))) (.seq (.sif (.cmp .ne (.blt .repr (.cons (.call f_mean_by (.cons (.var 3) (.cons (.var 5) (.cons (.var 6) (.cons (.var 7) .nil))))) .nil)) (.blt .repr (.cons (.var 10) .nil)))
    (.seq (.ret (.bl false)) .skip)
    .skip) .skip))))))))) (.seq (.ret (.call0 f__law_hand_right)) .skip)))

def T : Tab where
  consts := ([(.tup [(.int 0), (.int 1)]), (.int 5), (.tup [(.int 1), (.int 1)])] : List PV)
  cnames := (["NOUGHT", "MOST_LENGTH", "SURE"] : List Str)
  fns := (["is_integer", "common", "made", "is_fraction", "add", "sub", "mul", "is_under", "sum_in", "need_length", "longer_runs", "layers_in"] : List Str) ++ (["runs", "whole_runs", "spot_of", "inner_count", "is_run", "need_run", "is_within", "is_range", "is_forecaster", "need_forecaster", "is_exact", "is_mild_in"] : List Str) ++ (["is_mild", "need_chances", "chance_in", "chance", "is_payoff", "need_payoff", "mean_in", "mean_by", "_law_mixed", "_law_begin", "_law_draw", "_law_of"] : List Str) ++ (["_law_ratio", "_law_plus", "_law_less", "_law_times", "_law_over", "_law_under", "_law_sum", "_law_all_runs", "_law_between", "_law_ranges", "_law_sorted_two", "_law_within"] : List Str) ++ (["_law_likely", "_law_pays", "_law_are_chances_right", "_law_is_kind_right", "_law_hand_right", "law"] : List Str)
  defs := ([⟨1, 1, c_is_integer, true⟩, ⟨2, 2, c_common, true⟩, ⟨2, 3, c_made, true⟩, ⟨1, 2, c_is_fraction, true⟩, ⟨2, 2, c_add, true⟩, ⟨2, 2, c_sub, true⟩, ⟨2, 2, c_mul, true⟩, ⟨2, 2, c_is_under, true⟩, ⟨1, 3, c_sum_in, false⟩, ⟨1, 1, c_need_length, true⟩, ⟨1, 3, c_longer_runs, false⟩, ⟨1, 3, c_layers_in, false⟩] : List Df) ++ ([⟨1, 3, c_runs, true⟩, ⟨1, 1, c_whole_runs, true⟩, ⟨1, 3, c_spot_of, true⟩, ⟨1, 3, c_inner_count, true⟩, ⟨2, 3, c_is_run, true⟩, ⟨2, 2, c_need_run, true⟩, ⟨3, 3, c_is_within, true⟩, ⟨1, 2, c_is_range, true⟩, ⟨2, 3, c_is_forecaster, true⟩, ⟨2, 2, c_need_forecaster, true⟩, ⟨2, 4, c_is_exact, true⟩, ⟨1, 3, c_is_mild_in, true⟩] : List Df) ++ ([⟨2, 2, c_is_mild, true⟩, ⟨2, 5, c_need_chances, true⟩, ⟨2, 6, c_chance_in, true⟩, ⟨4, 4, c_chance, true⟩, ⟨2, 3, c_is_payoff, true⟩, ⟨2, 2, c_need_payoff, true⟩, ⟨3, 5, c_mean_in, true⟩, ⟨4, 4, c_mean_by, true⟩, ⟨2, 2, c__law_mixed, true⟩, ⟨1, 3, c__law_begin, false⟩, ⟨2, 6, c__law_draw, false⟩, ⟨2, 2, c__law_of, false⟩] : List Df) ++ ([⟨2, 4, c__law_ratio, true⟩, ⟨2, 2, c__law_plus, true⟩, ⟨2, 2, c__law_less, true⟩, ⟨2, 2, c__law_times, true⟩, ⟨2, 2, c__law_over, true⟩, ⟨2, 2, c__law_under, true⟩, ⟨1, 3, c__law_sum, false⟩, ⟨1, 6, c__law_all_runs, false⟩, ⟨1, 2, c__law_between, false⟩, ⟨3, 8, c__law_ranges, false⟩, ⟨2, 2, c__law_sorted_two, true⟩, ⟨2, 6, c__law_within, false⟩] : List Df) ++ ([⟨3, 8, c__law_likely, true⟩, ⟨2, 3, c__law_pays, false⟩, ⟨3, 7, c__law_are_chances_right, true⟩, ⟨2, 7, c__law_is_kind_right, true⟩, ⟨0, 6, c__law_hand_right, true⟩, ⟨1, 13, c_law, false⟩] : List Df)
  fuel := 2 ^ 9000
  errs := ([] : List (Str × Str))

def i_is_integer : DI := ⟨"is_integer", top 9, ["thing"], ["thing"]⟩

def i_common : DI := ⟨"common", top 10, ["one", "other"], ["one", "other"]⟩

def i_made : DI := ⟨"made", top 11, ["top", "bottom", "divisor"], ["top", "bottom"]⟩

def i_is_fraction : DI := ⟨"is_fraction", top 12, ["thing", "one"], ["thing"]⟩

def i_add : DI := ⟨"add", top 13, ["one", "other"], ["one", "other"]⟩

def i_sub : DI := ⟨"sub", top 14, ["one", "other"], ["one", "other"]⟩

def i_mul : DI := ⟨"mul", top 15, ["one", "other"], ["one", "other"]⟩

def i_is_under : DI := ⟨"is_under", top 16, ["one", "other"], ["one", "other"]⟩

def i_sum_in : DI := ⟨"sum_in", top 17, ["some", "found", "one"], ["some"]⟩

def i_need_length : DI := ⟨"need_length", top 21, ["length"], ["length"]⟩

def i_longer_runs : DI := ⟨"longer_runs", top 22, ["some", "run", "outcome"], ["some"]⟩

def i_layers_in : DI := ⟨"layers_in", top 23, ["length", "found", "day"], ["length"]⟩

def i_runs : DI := ⟨"runs", top 24, ["length", "layer", "run"], ["length"]⟩

def i_whole_runs : DI := ⟨"whole_runs", top 25, ["length"], ["length"]⟩

def i_spot_of : DI := ⟨"spot_of", top 26, ["run", "found", "outcome"], ["run"]⟩

def i_inner_count : DI := ⟨"inner_count", top 27, ["length", "layer", "run"], ["length"]⟩

def i_is_run : DI := ⟨"is_run", top 28, ["length", "thing", "one"], ["length", "thing"]⟩

def i_need_run : DI := ⟨"need_run", top 29, ["length", "run"], ["length", "run"]⟩

def i_is_within : DI := ⟨"is_within", top 30, ["low", "high", "thing"], ["low", "high", "thing"]⟩

def i_is_range : DI := ⟨"is_range", top 31, ["thing", "one"], ["thing"]⟩

def i_is_forecaster : DI := ⟨"is_forecaster", top 32, ["length", "thing", "one"], ["length", "thing"]⟩

def i_need_forecaster : DI := ⟨"need_forecaster", top 33, ["length", "thing"], ["length", "thing"]⟩

def i_is_exact : DI := ⟨"is_exact", top 34, ["length", "forecaster", "low", "high"], ["length", "forecaster"]⟩

def i_is_mild_in : DI := ⟨"is_mild_in", top 35, ["forecaster", "low", "high"], ["forecaster"]⟩

def i_is_mild : DI := ⟨"is_mild", top 36, ["length", "forecaster"], ["length", "forecaster"]⟩

def i_need_chances : DI := ⟨"need_chances", top 37, ["forecaster", "chances", "low", "high", "one"], ["forecaster", "chances"]⟩

def i_chance_in : DI := ⟨"chance_in", top 38, ["chances", "run", "found", "day", "outcome", "one"], ["chances", "run"]⟩

def i_chance : DI := ⟨"chance", top 39, ["length", "forecaster", "chances", "run"], ["length", "forecaster", "chances", "run"]⟩

def i_is_payoff : DI := ⟨"is_payoff", top 40, ["length", "thing", "one"], ["length", "thing"]⟩

def i_need_payoff : DI := ⟨"need_payoff", top 41, ["length", "payoff"], ["length", "payoff"]⟩

def i_mean_in : DI := ⟨"mean_in", top 42, ["length", "chances", "payoff", "run", "one"], ["length", "chances", "payoff"]⟩

def i_mean_by : DI := ⟨"mean_by", top 43, ["length", "forecaster", "chances", "payoff"], ["length", "forecaster", "chances", "payoff"]⟩

def i__law_mixed : DI := ⟨"_law_mixed", top 45, ["_law_cell", "_law_k"], ["_law_cell", "_law_k"]⟩

def i__law_begin : DI := ⟨"_law_begin", top 46, ["_law_script", "_law_cells", "_law_cell"], ["_law_script"]⟩

def i__law_draw : DI := ⟨"_law_draw", top 47, ["_law_state", "_law_many", "_law_at", "_law_place", "_law_left", "_law_number"], ["_law_state", "_law_many"]⟩

def i__law_of : DI := ⟨"_law_of", top 48, ["_law_state", "_law_some"], ["_law_state", "_law_some"]⟩

def i__law_ratio : DI := ⟨"_law_ratio", top 49, ["_law_top", "_law_bottom", "_law_one", "_law_other"], ["_law_top", "_law_bottom"]⟩

def i__law_plus : DI := ⟨"_law_plus", top 50, ["_law_one", "_law_other"], ["_law_one", "_law_other"]⟩

def i__law_less : DI := ⟨"_law_less", top 51, ["_law_one", "_law_other"], ["_law_one", "_law_other"]⟩

def i__law_times : DI := ⟨"_law_times", top 52, ["_law_one", "_law_other"], ["_law_one", "_law_other"]⟩

def i__law_over : DI := ⟨"_law_over", top 53, ["_law_one", "_law_other"], ["_law_one", "_law_other"]⟩

def i__law_under : DI := ⟨"_law_under", top 54, ["_law_one", "_law_other"], ["_law_one", "_law_other"]⟩

def i__law_sum : DI := ⟨"_law_sum", top 55, ["_law_some", "_law_found", "_law_one"], ["_law_some"]⟩

def i__law_all_runs : DI := ⟨"_law_all_runs", top 56, ["_law_length", "_law_found", "_law_level", "_law_turn", "_law_longer", "_law_one"], ["_law_length"]⟩

def i__law_between : DI := ⟨"_law_between", top 57, ["_law_state", "_law_few"], ["_law_state"]⟩

def i__law_ranges : DI := ⟨"_law_ranges", top 58, ["_law_state", "_law_length", "_law_kind", "_law_got", "_law_one", "_law_low", "_law_high", "_law_few"], ["_law_state", "_law_length", "_law_kind"]⟩

def i__law_sorted_two : DI := ⟨"_law_sorted_two", top 59, ["_law_one", "_law_far"], ["_law_one", "_law_far"]⟩

def i__law_within : DI := ⟨"_law_within", top 60, ["_law_state", "_law_ranges_here", "_law_got", "_law_low", "_law_high", "_law_mean"], ["_law_state", "_law_ranges_here"]⟩

def i__law_likely : DI := ⟨"_law_likely", top 61, ["_law_length", "_law_fractions", "_law_one", "_law_some", "_law_found", "_law_k", "_law_outcome", "_law_here"], ["_law_length", "_law_fractions", "_law_one"]⟩

def i__law_pays : DI := ⟨"_law_pays", top 62, ["_law_state", "_law_length", "_law_one"], ["_law_state", "_law_length"]⟩

def i__law_are_chances_right : DI := ⟨"_law_are_chances_right", top 63, ["_law_length", "_law_ranges_here", "_law_fractions", "_law_some", "_law_ends", "_law_one", "_law_both"], ["_law_length", "_law_ranges_here", "_law_fractions"]⟩

def i__law_is_kind_right : DI := ⟨"_law_is_kind_right", top 64, ["_law_length", "_law_ranges_here", "_law_is_sure", "_law_is_soft", "_law_told", "_law_low", "_law_high"], ["_law_length", "_law_ranges_here"]⟩

def i__law_hand_right : DI := ⟨"_law_hand_right", top 65, ["_law_ranges_here", "_law_fractions", "_law_told", "_law_due", "_law_told_so", "_law_due_so"], []⟩

def i_law : DI := ⟨"law", top 66, ["_law_script", "_law_state", "_law_turn", "_law_length", "_law_kind", "_law_ranges_here", "_law_fractions", "_law_pays_here", "_law_some", "_law_ends", "_law_due", "_law_one", "_law_pay"], ["_law_script"]⟩

theorem b_is_integer : defB T 0 i_is_integer = true := by decide +kernel

theorem b_common : defB T 1 i_common = true := by decide +kernel

theorem b_made : defB T 2 i_made = true := by decide +kernel

theorem b_is_fraction : defB T 3 i_is_fraction = true := by decide +kernel

theorem b_add : defB T 4 i_add = true := by decide +kernel

theorem b_sub : defB T 5 i_sub = true := by decide +kernel

theorem b_mul : defB T 6 i_mul = true := by decide +kernel

theorem b_is_under : defB T 7 i_is_under = true := by decide +kernel

theorem b_sum_in : defB T 8 i_sum_in = true := by decide +kernel

theorem b_need_length : defB T 9 i_need_length = true := by decide +kernel

theorem b_longer_runs : defB T 10 i_longer_runs = true := by decide +kernel

theorem b_layers_in : defB T 11 i_layers_in = true := by decide +kernel

theorem b_runs : defB T 12 i_runs = true := by decide +kernel

theorem b_whole_runs : defB T 13 i_whole_runs = true := by decide +kernel

theorem b_spot_of : defB T 14 i_spot_of = true := by decide +kernel

theorem b_inner_count : defB T 15 i_inner_count = true := by decide +kernel

theorem b_is_run : defB T 16 i_is_run = true := by decide +kernel

theorem b_need_run : defB T 17 i_need_run = true := by decide +kernel

theorem b_is_within : defB T 18 i_is_within = true := by decide +kernel

theorem b_is_range : defB T 19 i_is_range = true := by decide +kernel

theorem b_is_forecaster : defB T 20 i_is_forecaster = true := by decide +kernel

theorem b_need_forecaster : defB T 21 i_need_forecaster = true := by decide +kernel

theorem b_is_exact : defB T 22 i_is_exact = true := by decide +kernel

theorem b_is_mild_in : defB T 23 i_is_mild_in = true := by decide +kernel

theorem b_is_mild : defB T 24 i_is_mild = true := by decide +kernel

theorem b_need_chances : defB T 25 i_need_chances = true := by decide +kernel

theorem b_chance_in : defB T 26 i_chance_in = true := by decide +kernel

theorem b_chance : defB T 27 i_chance = true := by decide +kernel

theorem b_is_payoff : defB T 28 i_is_payoff = true := by decide +kernel

theorem b_need_payoff : defB T 29 i_need_payoff = true := by decide +kernel

theorem b_mean_in : defB T 30 i_mean_in = true := by decide +kernel

theorem b_mean_by : defB T 31 i_mean_by = true := by decide +kernel

theorem b__law_mixed : defB T 32 i__law_mixed = true := by decide +kernel

theorem b__law_begin : defB T 33 i__law_begin = true := by decide +kernel

theorem b__law_draw : defB T 34 i__law_draw = true := by decide +kernel

theorem b__law_of : defB T 35 i__law_of = true := by decide +kernel

theorem b__law_ratio : defB T 36 i__law_ratio = true := by decide +kernel

theorem b__law_plus : defB T 37 i__law_plus = true := by decide +kernel

theorem b__law_less : defB T 38 i__law_less = true := by decide +kernel

theorem b__law_times : defB T 39 i__law_times = true := by decide +kernel

theorem b__law_over : defB T 40 i__law_over = true := by decide +kernel

theorem b__law_under : defB T 41 i__law_under = true := by decide +kernel

theorem b__law_sum : defB T 42 i__law_sum = true := by decide +kernel

theorem b__law_all_runs : defB T 43 i__law_all_runs = true := by decide +kernel

theorem b__law_between : defB T 44 i__law_between = true := by decide +kernel

theorem b__law_ranges : defB T 45 i__law_ranges = true := by decide +kernel

theorem b__law_sorted_two : defB T 46 i__law_sorted_two = true := by decide +kernel

theorem b__law_within : defB T 47 i__law_within = true := by decide +kernel

theorem b__law_likely : defB T 48 i__law_likely = true := by decide +kernel

theorem b__law_pays : defB T 49 i__law_pays = true := by decide +kernel

theorem b__law_are_chances_right : defB T 50 i__law_are_chances_right = true := by decide +kernel

theorem b__law_is_kind_right : defB T 51 i__law_is_kind_right = true := by decide +kernel

theorem b__law_hand_right : defB T 52 i__law_hand_right = true := by decide +kernel

theorem b_law : defB T 53 i_law = true := by decide +kernel

theorem d_is_integer : T.defs[f_is_integer]? = some ⟨1, 1, c_is_integer, true⟩ := rfl

theorem d_common : T.defs[f_common]? = some ⟨2, 2, c_common, true⟩ := rfl

theorem d_made : T.defs[f_made]? = some ⟨2, 3, c_made, true⟩ := rfl

theorem d_is_fraction : T.defs[f_is_fraction]? = some ⟨1, 2, c_is_fraction, true⟩ := rfl

theorem d_add : T.defs[f_add]? = some ⟨2, 2, c_add, true⟩ := rfl

theorem d_sub : T.defs[f_sub]? = some ⟨2, 2, c_sub, true⟩ := rfl

theorem d_mul : T.defs[f_mul]? = some ⟨2, 2, c_mul, true⟩ := rfl

theorem d_is_under : T.defs[f_is_under]? = some ⟨2, 2, c_is_under, true⟩ := rfl

theorem d_sum_in : T.defs[f_sum_in]? = some ⟨1, 3, c_sum_in, false⟩ := rfl

theorem d_need_length : T.defs[f_need_length]? = some ⟨1, 1, c_need_length, true⟩ := rfl

theorem d_longer_runs : T.defs[f_longer_runs]? = some ⟨1, 3, c_longer_runs, false⟩ := rfl

theorem d_layers_in : T.defs[f_layers_in]? = some ⟨1, 3, c_layers_in, false⟩ := rfl

theorem d_runs : T.defs[f_runs]? = some ⟨1, 3, c_runs, true⟩ := rfl

theorem d_whole_runs : T.defs[f_whole_runs]? = some ⟨1, 1, c_whole_runs, true⟩ := rfl

theorem d_spot_of : T.defs[f_spot_of]? = some ⟨1, 3, c_spot_of, true⟩ := rfl

theorem d_inner_count : T.defs[f_inner_count]? = some ⟨1, 3, c_inner_count, true⟩ := rfl

theorem d_is_run : T.defs[f_is_run]? = some ⟨2, 3, c_is_run, true⟩ := rfl

theorem d_need_run : T.defs[f_need_run]? = some ⟨2, 2, c_need_run, true⟩ := rfl

theorem d_is_within : T.defs[f_is_within]? = some ⟨3, 3, c_is_within, true⟩ := rfl

theorem d_is_range : T.defs[f_is_range]? = some ⟨1, 2, c_is_range, true⟩ := rfl

theorem d_is_forecaster : T.defs[f_is_forecaster]? = some ⟨2, 3, c_is_forecaster, true⟩ := rfl

theorem d_need_forecaster : T.defs[f_need_forecaster]? = some ⟨2, 2, c_need_forecaster, true⟩ := rfl

theorem d_is_exact : T.defs[f_is_exact]? = some ⟨2, 4, c_is_exact, true⟩ := rfl

theorem d_is_mild_in : T.defs[f_is_mild_in]? = some ⟨1, 3, c_is_mild_in, true⟩ := rfl

theorem d_is_mild : T.defs[f_is_mild]? = some ⟨2, 2, c_is_mild, true⟩ := rfl

theorem d_need_chances : T.defs[f_need_chances]? = some ⟨2, 5, c_need_chances, true⟩ := rfl

theorem d_chance_in : T.defs[f_chance_in]? = some ⟨2, 6, c_chance_in, true⟩ := rfl

theorem d_chance : T.defs[f_chance]? = some ⟨4, 4, c_chance, true⟩ := rfl

theorem d_is_payoff : T.defs[f_is_payoff]? = some ⟨2, 3, c_is_payoff, true⟩ := rfl

theorem d_need_payoff : T.defs[f_need_payoff]? = some ⟨2, 2, c_need_payoff, true⟩ := rfl

theorem d_mean_in : T.defs[f_mean_in]? = some ⟨3, 5, c_mean_in, true⟩ := rfl

theorem d_mean_by : T.defs[f_mean_by]? = some ⟨4, 4, c_mean_by, true⟩ := rfl

theorem d__law_mixed : T.defs[f__law_mixed]? = some ⟨2, 2, c__law_mixed, true⟩ := rfl

theorem d__law_begin : T.defs[f__law_begin]? = some ⟨1, 3, c__law_begin, false⟩ := rfl

theorem d__law_draw : T.defs[f__law_draw]? = some ⟨2, 6, c__law_draw, false⟩ := rfl

theorem d__law_of : T.defs[f__law_of]? = some ⟨2, 2, c__law_of, false⟩ := rfl

theorem d__law_ratio : T.defs[f__law_ratio]? = some ⟨2, 4, c__law_ratio, true⟩ := rfl

theorem d__law_plus : T.defs[f__law_plus]? = some ⟨2, 2, c__law_plus, true⟩ := rfl

theorem d__law_less : T.defs[f__law_less]? = some ⟨2, 2, c__law_less, true⟩ := rfl

theorem d__law_times : T.defs[f__law_times]? = some ⟨2, 2, c__law_times, true⟩ := rfl

theorem d__law_over : T.defs[f__law_over]? = some ⟨2, 2, c__law_over, true⟩ := rfl

theorem d__law_under : T.defs[f__law_under]? = some ⟨2, 2, c__law_under, true⟩ := rfl

theorem d__law_sum : T.defs[f__law_sum]? = some ⟨1, 3, c__law_sum, false⟩ := rfl

theorem d__law_all_runs : T.defs[f__law_all_runs]? = some ⟨1, 6, c__law_all_runs, false⟩ := rfl

theorem d__law_between : T.defs[f__law_between]? = some ⟨1, 2, c__law_between, false⟩ := rfl

theorem d__law_ranges : T.defs[f__law_ranges]? = some ⟨3, 8, c__law_ranges, false⟩ := rfl

theorem d__law_sorted_two : T.defs[f__law_sorted_two]? = some ⟨2, 2, c__law_sorted_two, true⟩ := rfl

theorem d__law_within : T.defs[f__law_within]? = some ⟨2, 6, c__law_within, false⟩ := rfl

theorem d__law_likely : T.defs[f__law_likely]? = some ⟨3, 8, c__law_likely, true⟩ := rfl

theorem d__law_pays : T.defs[f__law_pays]? = some ⟨2, 3, c__law_pays, false⟩ := rfl

theorem d__law_are_chances_right : T.defs[f__law_are_chances_right]? = some ⟨3, 7, c__law_are_chances_right, true⟩ := rfl

theorem d__law_is_kind_right : T.defs[f__law_is_kind_right]? = some ⟨2, 7, c__law_is_kind_right, true⟩ := rfl

theorem d__law_hand_right : T.defs[f__law_hand_right]? = some ⟨0, 6, c__law_hand_right, true⟩ := rfl

theorem d_law : T.defs[f_law]? = some ⟨1, 13, c_law, false⟩ := rfl

def ds : List DI := ([i_is_integer, i_common, i_made, i_is_fraction, i_add, i_sub, i_mul, i_is_under, i_sum_in, i_need_length, i_longer_runs, i_layers_in] : List DI) ++ ([i_runs, i_whole_runs, i_spot_of, i_inner_count, i_is_run, i_need_run, i_is_within, i_is_range, i_is_forecaster, i_need_forecaster, i_is_exact, i_is_mild_in] : List DI) ++ ([i_is_mild, i_need_chances, i_chance_in, i_chance, i_is_payoff, i_need_payoff, i_mean_in, i_mean_by, i__law_mixed, i__law_begin, i__law_draw, i__law_of] : List DI) ++ ([i__law_ratio, i__law_plus, i__law_less, i__law_times, i__law_over, i__law_under, i__law_sum, i__law_all_runs, i__law_between, i__law_ranges, i__law_sorted_two, i__law_within] : List DI) ++ ([i__law_likely, i__law_pays, i__law_are_chances_right, i__law_is_kind_right, i__law_hand_right, i_law] : List DI)

theorem e_is_integer : BindEq i_is_integer := fun _ _ _ _ _ _ us hl => match us, hl with | [_], _ => rfl

theorem e_common : BindEq i_common := fun _ _ _ _ _ _ us hl => match us, hl with | [_, _], _ => rfl

theorem e_made : BindEq i_made := fun _ _ _ _ _ _ us hl => match us, hl with | [_, _], _ => rfl

theorem e_is_fraction : BindEq i_is_fraction := fun _ _ _ _ _ _ us hl => match us, hl with | [_], _ => rfl

theorem e_add : BindEq i_add := fun _ _ _ _ _ _ us hl => match us, hl with | [_, _], _ => rfl

theorem e_sub : BindEq i_sub := fun _ _ _ _ _ _ us hl => match us, hl with | [_, _], _ => rfl

theorem e_mul : BindEq i_mul := fun _ _ _ _ _ _ us hl => match us, hl with | [_, _], _ => rfl

theorem e_is_under : BindEq i_is_under := fun _ _ _ _ _ _ us hl => match us, hl with | [_, _], _ => rfl

theorem e_sum_in : BindEq i_sum_in := fun _ _ _ _ _ _ us hl => match us, hl with | [_], _ => rfl

theorem e_need_length : BindEq i_need_length := fun _ _ _ _ _ _ us hl => match us, hl with | [_], _ => rfl

theorem e_longer_runs : BindEq i_longer_runs := fun _ _ _ _ _ _ us hl => match us, hl with | [_], _ => rfl

theorem e_layers_in : BindEq i_layers_in := fun _ _ _ _ _ _ us hl => match us, hl with | [_], _ => rfl

theorem e_runs : BindEq i_runs := fun _ _ _ _ _ _ us hl => match us, hl with | [_], _ => rfl

theorem e_whole_runs : BindEq i_whole_runs := fun _ _ _ _ _ _ us hl => match us, hl with | [_], _ => rfl

theorem e_spot_of : BindEq i_spot_of := fun _ _ _ _ _ _ us hl => match us, hl with | [_], _ => rfl

theorem e_inner_count : BindEq i_inner_count := fun _ _ _ _ _ _ us hl => match us, hl with | [_], _ => rfl

theorem e_is_run : BindEq i_is_run := fun _ _ _ _ _ _ us hl => match us, hl with | [_, _], _ => rfl

theorem e_need_run : BindEq i_need_run := fun _ _ _ _ _ _ us hl => match us, hl with | [_, _], _ => rfl

theorem e_is_within : BindEq i_is_within := fun _ _ _ _ _ _ us hl => match us, hl with | [_, _, _], _ => rfl

theorem e_is_range : BindEq i_is_range := fun _ _ _ _ _ _ us hl => match us, hl with | [_], _ => rfl

theorem e_is_forecaster : BindEq i_is_forecaster := fun _ _ _ _ _ _ us hl => match us, hl with | [_, _], _ => rfl

theorem e_need_forecaster : BindEq i_need_forecaster := fun _ _ _ _ _ _ us hl => match us, hl with | [_, _], _ => rfl

theorem e_is_exact : BindEq i_is_exact := fun _ _ _ _ _ _ us hl => match us, hl with | [_, _], _ => rfl

theorem e_is_mild_in : BindEq i_is_mild_in := fun _ _ _ _ _ _ us hl => match us, hl with | [_], _ => rfl

theorem e_is_mild : BindEq i_is_mild := fun _ _ _ _ _ _ us hl => match us, hl with | [_, _], _ => rfl

theorem e_need_chances : BindEq i_need_chances := fun _ _ _ _ _ _ us hl => match us, hl with | [_, _], _ => rfl

theorem e_chance_in : BindEq i_chance_in := fun _ _ _ _ _ _ us hl => match us, hl with | [_, _], _ => rfl

theorem e_chance : BindEq i_chance := fun _ _ _ _ _ _ us hl => match us, hl with | [_, _, _, _], _ => rfl

theorem e_is_payoff : BindEq i_is_payoff := fun _ _ _ _ _ _ us hl => match us, hl with | [_, _], _ => rfl

theorem e_need_payoff : BindEq i_need_payoff := fun _ _ _ _ _ _ us hl => match us, hl with | [_, _], _ => rfl

theorem e_mean_in : BindEq i_mean_in := fun _ _ _ _ _ _ us hl => match us, hl with | [_, _, _], _ => rfl

theorem e_mean_by : BindEq i_mean_by := fun _ _ _ _ _ _ us hl => match us, hl with | [_, _, _, _], _ => rfl

theorem e__law_mixed : BindEq i__law_mixed := fun _ _ _ _ _ _ us hl => match us, hl with | [_, _], _ => rfl

theorem e__law_begin : BindEq i__law_begin := fun _ _ _ _ _ _ us hl => match us, hl with | [_], _ => rfl

theorem e__law_draw : BindEq i__law_draw := fun _ _ _ _ _ _ us hl => match us, hl with | [_, _], _ => rfl

theorem e__law_of : BindEq i__law_of := fun _ _ _ _ _ _ us hl => match us, hl with | [_, _], _ => rfl

theorem e__law_ratio : BindEq i__law_ratio := fun _ _ _ _ _ _ us hl => match us, hl with | [_, _], _ => rfl

theorem e__law_plus : BindEq i__law_plus := fun _ _ _ _ _ _ us hl => match us, hl with | [_, _], _ => rfl

theorem e__law_less : BindEq i__law_less := fun _ _ _ _ _ _ us hl => match us, hl with | [_, _], _ => rfl

theorem e__law_times : BindEq i__law_times := fun _ _ _ _ _ _ us hl => match us, hl with | [_, _], _ => rfl

theorem e__law_over : BindEq i__law_over := fun _ _ _ _ _ _ us hl => match us, hl with | [_, _], _ => rfl

theorem e__law_under : BindEq i__law_under := fun _ _ _ _ _ _ us hl => match us, hl with | [_, _], _ => rfl

theorem e__law_sum : BindEq i__law_sum := fun _ _ _ _ _ _ us hl => match us, hl with | [_], _ => rfl

theorem e__law_all_runs : BindEq i__law_all_runs := fun _ _ _ _ _ _ us hl => match us, hl with | [_], _ => rfl

theorem e__law_between : BindEq i__law_between := fun _ _ _ _ _ _ us hl => match us, hl with | [_], _ => rfl

theorem e__law_ranges : BindEq i__law_ranges := fun _ _ _ _ _ _ us hl => match us, hl with | [_, _, _], _ => rfl

theorem e__law_sorted_two : BindEq i__law_sorted_two := fun _ _ _ _ _ _ us hl => match us, hl with | [_, _], _ => rfl

theorem e__law_within : BindEq i__law_within := fun _ _ _ _ _ _ us hl => match us, hl with | [_, _], _ => rfl

theorem e__law_likely : BindEq i__law_likely := fun _ _ _ _ _ _ us hl => match us, hl with | [_, _, _], _ => rfl

theorem e__law_pays : BindEq i__law_pays := fun _ _ _ _ _ _ us hl => match us, hl with | [_, _], _ => rfl

theorem e__law_are_chances_right : BindEq i__law_are_chances_right := fun _ _ _ _ _ _ us hl => match us, hl with | [_, _, _], _ => rfl

theorem e__law_is_kind_right : BindEq i__law_is_kind_right := fun _ _ _ _ _ _ us hl => match us, hl with | [_, _], _ => rfl

theorem e__law_hand_right : BindEq i__law_hand_right := fun _ _ _ _ _ _ us hl => match us, hl with | [], _ => rfl

theorem e_law : BindEq i_law := fun _ _ _ _ _ _ us hl => match us, hl with | [_], _ => rfl

theorem all : AllI (okI T) 0 ds := ⟨⟨b_is_integer, e_is_integer⟩, ⟨b_common, e_common⟩, ⟨b_made, e_made⟩, ⟨b_is_fraction, e_is_fraction⟩, ⟨b_add, e_add⟩, ⟨b_sub, e_sub⟩, ⟨b_mul, e_mul⟩, ⟨b_is_under, e_is_under⟩, ⟨b_sum_in, e_sum_in⟩, ⟨b_need_length, e_need_length⟩, ⟨b_longer_runs, e_longer_runs⟩, ⟨b_layers_in, e_layers_in⟩, ⟨b_runs, e_runs⟩, ⟨b_whole_runs, e_whole_runs⟩, ⟨b_spot_of, e_spot_of⟩, ⟨b_inner_count, e_inner_count⟩, ⟨b_is_run, e_is_run⟩, ⟨b_need_run, e_need_run⟩, ⟨b_is_within, e_is_within⟩, ⟨b_is_range, e_is_range⟩, ⟨b_is_forecaster, e_is_forecaster⟩, ⟨b_need_forecaster, e_need_forecaster⟩, ⟨b_is_exact, e_is_exact⟩, ⟨b_is_mild_in, e_is_mild_in⟩, ⟨b_is_mild, e_is_mild⟩, ⟨b_need_chances, e_need_chances⟩, ⟨b_chance_in, e_chance_in⟩, ⟨b_chance, e_chance⟩, ⟨b_is_payoff, e_is_payoff⟩, ⟨b_need_payoff, e_need_payoff⟩, ⟨b_mean_in, e_mean_in⟩, ⟨b_mean_by, e_mean_by⟩, ⟨b__law_mixed, e__law_mixed⟩, ⟨b__law_begin, e__law_begin⟩, ⟨b__law_draw, e__law_draw⟩, ⟨b__law_of, e__law_of⟩, ⟨b__law_ratio, e__law_ratio⟩, ⟨b__law_plus, e__law_plus⟩, ⟨b__law_less, e__law_less⟩, ⟨b__law_times, e__law_times⟩, ⟨b__law_over, e__law_over⟩, ⟨b__law_under, e__law_under⟩, ⟨b__law_sum, e__law_sum⟩, ⟨b__law_all_runs, e__law_all_runs⟩, ⟨b__law_between, e__law_between⟩, ⟨b__law_ranges, e__law_ranges⟩, ⟨b__law_sorted_two, e__law_sorted_two⟩, ⟨b__law_within, e__law_within⟩, ⟨b__law_likely, e__law_likely⟩, ⟨b__law_pays, e__law_pays⟩, ⟨b__law_are_chances_right, e__law_are_chances_right⟩, ⟨b__law_is_kind_right, e__law_is_kind_right⟩, ⟨b__law_hand_right, e__law_hand_right⟩, ⟨b_law, e_law⟩, trivial⟩

theorem fns_eq : T.fns = ds.map (·.name) := by kernel_rfl

end K39

namespace GI
open PySem FI
/-! ### what a run gives -/
def _root_.FI.Res.to {α : Type} (r : Res α) (Q : α → Sto → Prop) : Prop := match r with
  | .ok a s => Q a s
  | _ => False
theorem to_ok {α : Type} {a : α} {s : Sto} {Q : α → Sto → Prop} : (Res.ok a s).to Q = Q a s := rfl
theorem to_bind {α β : Type} {r : Res α} {f : α → Sto → Res β} {Q : β → Sto → Prop} : (r.bind f).to Q = r.to fun a s => (f a s).to Q := by cases r <;> rfl
theorem to_mono {α : Type} {r : Res α} {Q Q' : α → Sto → Prop} (h : r.to Q) (m : ∀ a s, Q a s → Q' a s) : r.to Q' := by
  cases r with
  | ok a s => exact m a s h
  | _ => exact h
theorem to_ex {α : Type} {r : Res α} {Q : α → Sto → Prop} (h : r.to Q) : ∃ a s, r = .ok a s ∧ Q a s := by
  cases r with
  | ok a s => exact ⟨a, s, rfl, h⟩
  | _ => exact h.elim
theorem to_eq {α : Type} {r : Res α} {a : α} {s : Sto} {Q : α → Sto → Prop} (e : r = .ok a s) (h : Q a s) : r.to Q := by rw [e]; exact h
/-! ### the store grows -/
structure Fr (X : List Nat) (s s' : Sto) : Prop where
  le : s.n ≤ s'.n
  keep : ∀ i, i < s.n → i ∉ X → look i s'.os = look i s.os
theorem Fr.refl {X : List Nat} {s : Sto} : Fr X s s := ⟨Nat.le_refl _, fun _ _ _ => rfl⟩
theorem Fr.trans {X : List Nat} {s s' s'' : Sto} (a : Fr X s s') (b : Fr X s' s'') : Fr X s s'' := ⟨Nat.le_trans a.le b.le, fun i h x => (b.keep i (Nat.lt_of_lt_of_le h a.le) x).trans (a.keep i h x)⟩
theorem Fr.wide {X : List Nat} {s s' : Sto} (a : Fr [] s s') : Fr X s s' := ⟨a.le, fun i h _ => a.keep i h List.not_mem_nil⟩
theorem look_new {s : Sto} {o : SO} : look s.n (s.new o).os = some o := by
  simp only [Sto.new, look]
  rw [if_pos (Nat.beq_refl _)]
theorem look_old {s : Sto} {o : SO} {i : Nat} (h : i < s.n) : look i (s.new o).os = look i s.os := by
  simp only [Sto.new, look]
  rw [if_neg]
  intro e
  have := Nat.eq_of_beq_eq_true e
  omega
theorem Fr.new {X : List Nat} {s : Sto} {o : SO} : Fr X s (s.new o) := ⟨Nat.le_succ _, fun i h _ => look_old h⟩
theorem look_put {i : Nat} {o : SO} : ∀ {os : List (Nat × SO)}, (look i os).isSome = true → look i (put i o os) = some o
  | [], h => by simp [look] at h
  | (j, u) :: r, h => by
    simp only [look] at h
    by_cases e : Nat.beq i j = true
    · simp only [put, if_pos e, look]
    · rw [if_neg e] at h
      simp only [put, if_neg e, look]
      exact look_put h
theorem look_put_ne {i j : Nat} {o : SO} (n : j ≠ i) : ∀ {os : List (Nat × SO)}, look j (put i o os) = look j os
  | [] => rfl
  | (k, u) :: r => by
    by_cases e : Nat.beq i k = true
    · have e' := Nat.eq_of_beq_eq_true e
      have e2 : ¬ Nat.beq j k = true := fun z => n ((Nat.eq_of_beq_eq_true z).trans e'.symm)
      simp only [put, if_pos e, look, if_neg e2]
    · simp only [put, if_neg e, look]
      rw [look_put_ne n]
theorem Fr.put {X : List Nat} {s0 s : Sto} {i : Nat} {o : SO} (a : Fr X s0 s) (h : i ∈ X ∨ s0.n ≤ i) : Fr X s0 ⟨s.n, FI.put i o s.os⟩ := ⟨a.le, fun j hj hx => by
  rw [look_put_ne, a.keep j hj hx]
  rintro rfl
  rcases h with h | h
  · exact hx h
  · omega⟩
/-- a list stands -/
def At (s : Sto) (i : Nat) (xs : List PV) : Prop := look i s.os = some (.lst xs) ∧ i < s.n
theorem At.getL {s : Sto} {i : Nat} {xs : List PV} (h : At s i xs) : s.getL i = some xs := by unfold Sto.getL; rw [h.1]
theorem At.getW {s : Sto} {i : Nat} {xs : List PV} (h : At s i xs) : FI.getW s i = some xs := by unfold FI.getW; rw [h.1]
theorem At.seq {s : Sto} {i : Nat} {xs : List PV} (h : At s i xs) : seqOf s (.lst i) = some xs := h.getL
theorem At.fr {X : List Nat} {s s' : Sto} {i : Nat} {xs : List PV} (h : At s i xs) (f : Fr X s s') (hx : i ∉ X) : At s' i xs := ⟨(f.keep i h.2 hx).trans h.1, Nat.lt_of_lt_of_le h.2 f.le⟩
theorem At.fr0 {s s' : Sto} {i : Nat} {xs : List PV} (h : At s i xs) (f : Fr [] s s') : At s' i xs := h.fr f List.not_mem_nil
theorem At.new {s : Sto} {xs : List PV} : At (s.new (.lst xs)) s.n xs := ⟨look_new, Nat.lt_succ_self _⟩
theorem At.put {s : Sto} {i : Nat} {xs ys : List PV} (h : At s i xs) : At ⟨s.n, FI.put i (.lst ys) s.os⟩ i ys := ⟨look_put (by rw [h.1]; rfl), h.2⟩
theorem At.put_ne {s : Sto} {i j : Nat} {xs : List PV} {o : SO} (h : At s i xs) (n : i ≠ j) : At ⟨s.n, FI.put j o s.os⟩ i xs := ⟨(look_put_ne n).trans h.1, h.2⟩
/-- a run gives a value, and only adds to the store -/
def Gives (r : Res PV) (s : Sto) (v : PV) : Prop := r.to fun u s' => u = v ∧ Fr [] s s'
def GivesL (r : Res PV) (s : Sto) (xs : List PV) : Prop := r.to fun u s' => Fr [] s s' ∧ ∃ i, u = .lst i ∧ At s' i xs ∧ s.n ≤ i
theorem Gives.to {r : Res PV} {s : Sto} {v : PV} {Q : PV → Sto → Prop} (h : Gives r s v) (k : ∀ s', Fr [] s s' → Q v s') : r.to Q := to_mono h fun a s' ⟨e, f⟩ => by rw [e]; exact k s' f
theorem GivesL.to {r : Res PV} {s : Sto} {xs : List PV} {Q : PV → Sto → Prop} (h : GivesL r s xs) (k : ∀ i s', Fr [] s s' → At s' i xs → s.n ≤ i → Q (.lst i) s') : r.to Q := to_mono h fun a s' ⟨f, i, e, a1, a2⟩ => by rw [e]; exact k i s' f a1 a2
theorem Gives.eq {r : Res PV} {s : Sto} {v : PV} (h : r = .ok v s) : Gives r s v := to_eq h ⟨rfl, .refl⟩
/-! ### codes -/
section
variable {T : Tab} {call : Nat → List PV → Sto → Res PV} {σ : Sl} {s : Sto} {Q : PV → Sto → Prop}
theorem w_int {i : Int} : (ev T call (.int i) σ s).to Q = Q (.int i) s := by simp only [ev, to_ok]
theorem w_bl {i : Bool} : (ev T call (.bl i) σ s).to Q = Q (.bl i) s := by simp only [ev, to_ok]
theorem w_non : (ev T call .non σ s).to Q = Q .non s := by simp only [ev, to_ok]
theorem w_no : (ev T call .no σ s).to Q = Q .non s := by simp only [ev, to_ok]
theorem w_str {i : Str} : (ev T call (.str i) σ s).to Q = Q (.str i) s := by simp only [ev, to_ok]
theorem w_nil : (ev T call .nil σ s).to Q = Q (.tup []) s := by simp only [ev, to_ok]
theorem w_one {a : E} : (ev T call (.one a) σ s).to Q = (ev T call a σ s).to Q := by simp only [ev]
def toVar (o : Option (Option PV)) (Q : PV → Prop) : Prop := match o with | some (some v) => Q v | _ => False
theorem toVar_some {v : PV} {Q : PV → Prop} : toVar (some (some v)) Q = Q v := rfl
theorem w_var {i : Nat} : (ev T call (.var i) σ s).to Q = toVar σ[i]? fun v => Q v s := by
  simp only [ev, toVar]
  cases σ[i]? with
  | none => rfl
  | some o => cases o <;> rfl
def toGl (o : Option PV) (Q : PV → Prop) : Prop := match o with | some v => Q v | _ => False
theorem toGl_some {v : PV} {Q : PV → Prop} : toGl (some v) Q = Q v := rfl
theorem w_glob {i : Nat} : (ev T call (.glob i) σ s).to Q = toGl T.consts[i]? fun v => Q v s := by
  simp only [ev, toGl]
  cases T.consts[i]? <;> rfl
def toTup (v : PV) (Q : List PV → Prop) : Prop := match v with | .tup vs => Q vs | _ => False
theorem toTup_tup {vs : List PV} {Q : List PV → Prop} : toTup (.tup vs) Q = Q vs := rfl
def toBl (v : PV) (P N : Prop) : Prop := match v with | .bl true => P | .bl false => N | _ => False
theorem toBl_true {P N : Prop} : toBl (.bl true) P N = P := rfl
theorem toBl_false {P N : Prop} : toBl (.bl false) P N = N := rfl
theorem w_cons {a r : E} : (ev T call (.cons a r) σ s).to Q = (ev T call a σ s).to fun v s1 => (ev T call r σ s1).to fun w s2 => toTup w fun vs => Q (.tup (v :: vs)) s2 := by
  simp only [ev]
  cases ev T call a σ s with
  | ok v s1 =>
    simp only [to_ok]
    cases ev T call r σ s1 with
    | ok w s2 => cases w <;> rfl
    | _ => rfl
  | _ => rfl
theorem w_tup {a : E} : (ev T call (.tup a) σ s).to Q = (ev T call a σ s).to fun w s2 => toTup w fun vs => vs.length ≤ cap ∧ Q (.tup vs) s2 := by
  simp only [ev]
  cases ev T call a σ s with
  | ok w s2 =>
    cases w <;> try rfl
    simp only [to_ok, toTup]
    split <;> rename_i h
    · simp only [h, true_and, to_ok]
    · simp only [h, false_and]; rfl
  | _ => rfl
theorem w_lst {a : E} : (ev T call (.lst a) σ s).to Q = (ev T call a σ s).to fun w s2 => toTup w fun vs => vs.length ≤ cap ∧ Q (.lst s2.n) (s2.new (.lst vs)) := by
  simp only [ev]
  cases ev T call a σ s with
  | ok w s2 =>
    cases w <;> try rfl
    simp only [to_ok, toTup]
    split <;> rename_i h
    · simp only [h, true_and, to_ok]
    · simp only [h, false_and]; rfl
  | _ => rfl
theorem w_bin {o : Bop} {a b : E} : (ev T call (.bin o a b) σ s).to Q = (ev T call a σ s).to fun x s1 => (ev T call b σ s1).to fun y s2 => (evBin o x y s2).to Q := by simp only [ev, to_bind]
theorem w_cmp {o : Cop} {a b : E} : (ev T call (.cmp o a b) σ s).to Q = (ev T call a σ s).to fun x s1 => (ev T call b σ s1).to fun y s2 => (evCmp o x y s2).to Q := by simp only [ev, to_bind]
theorem w_chain {o p : Cop} {a b c : E} : (ev T call (.chain o p a b c) σ s).to Q = (ev T call a σ s).to fun x s1 => (ev T call b σ s1).to fun y s2 => (evCmp o x y s2).to fun z s3 => toBl z ((ev T call c σ s3).to fun u s4 => (evCmp p y u s4).to Q) (Q (.bl false) s3) := by
  simp only [ev, to_bind]
  congr 1; funext x s1; congr 1; funext y s2; congr 1; funext z s3
  cases z <;> try rfl
  rename_i b; cases b
  · rfl
  · simp only [toBl, to_bind]
theorem w_not {a : E} : (ev T call (.not a) σ s).to Q = (ev T call a σ s).to fun x s1 => toBl x (Q (.bl false) s1) (Q (.bl true) s1) := by
  simp only [ev, to_bind]
  congr 1; funext x s1
  cases x <;> try rfl
  rename_i b; cases b <;> rfl
theorem w_and {a b : E} : (ev T call (.and a b) σ s).to Q = (ev T call a σ s).to fun x s1 => toBl x ((ev T call b σ s1).to Q) (Q (.bl false) s1) := by
  simp only [ev, to_bind]
  congr 1; funext x s1
  cases x <;> try rfl
  rename_i b; cases b <;> rfl
theorem w_or {a b : E} : (ev T call (.or a b) σ s).to Q = (ev T call a σ s).to fun x s1 => toBl x (Q (.bl true) s1) ((ev T call b σ s1).to Q) := by
  simp only [ev, to_bind]
  congr 1; funext x s1
  cases x <;> try rfl
  rename_i b; cases b <;> rfl
theorem w_ife {c a b : E} : (ev T call (.ife c a b) σ s).to Q = (ev T call c σ s).to fun x s1 => toBl x ((ev T call a σ s1).to Q) ((ev T call b σ s1).to Q) := by
  simp only [ev, to_bind]
  congr 1; funext x s1
  cases x <;> try rfl
  rename_i b; cases b <;> rfl
def toInt (v : PV) (Q : Int → Prop) : Prop := match v with | .int i => Q i | _ => False
theorem toInt_int {i : Int} {Q : Int → Prop} : toInt (.int i) Q = Q i := rfl
theorem w_neg {a : E} : (ev T call (.neg a) σ s).to Q = (ev T call a σ s).to fun x s1 => toInt x fun i => Q (.int (-i)) s1 := by
  simp only [ev, to_bind]
  congr 1; funext x s1
  cases x <;> rfl
theorem w_idx {a b : E} : (ev T call (.idx a b) σ s).to Q = (ev T call a σ s).to fun x s1 => (ev T call b σ s1).to fun y s2 => (evIdx x y s2).to Q := by simp only [ev, to_bind]
theorem w_slice {a lo hi : E} : (ev T call (.slice a lo hi) σ s).to Q = (ev T call a σ s).to fun x s1 => (ev T call lo σ s1).to fun y s2 => (ev T call hi σ s2).to fun z s3 => ∃ l h, partOf lo y = some l ∧ partOf hi z = some h ∧ (evSlice x l h s3).to Q := by
  simp only [ev, to_bind]
  congr 1; funext x s1; congr 1; funext y s2
  cases e : partOf lo y with
  | none =>
    simp only [reduceCtorEq, false_and, exists_false]
    cases ev T call hi σ s2 <;> rfl
  | some l =>
    simp only [to_bind]
    congr 1; funext z s3
    cases e2 : partOf hi z with
    | none => simp only [reduceCtorEq, false_and, and_false, exists_false]; rfl
    | some h => simp
theorem w_isi {t : Ty} {a : E} : (ev T call (.isi t a) σ s).to Q = (ev T call a σ s).to fun x s1 => ∃ b, isTyS s1 t x = some b ∧ Q (.bl b) s1 := by
  simp only [ev, to_bind]
  congr 1; funext x s1
  cases e : isTyS s1 t x <;> simp [Res.to]
theorem w_call {f : Nat} {a : E} : (ev T call (.call f a) σ s).to Q = (ev T call a σ s).to fun x s1 => toTup x fun vs => (call f vs s1).to Q := by
  simp only [ev, to_bind]
  congr 1; funext x s1
  cases x <;> rfl
theorem w_call0 {f : Nat} : (ev T call (.call0 f) σ s).to Q = (call f [] s).to Q := by simp only [ev]
theorem w_meth {m : Mt} {a b : E} : (ev T call (.meth m a b) σ s).to Q = (ev T call a σ s).to fun x s1 => recv m x s1 = true ∧ (ev T call b σ s1).to fun y s2 => toTup y fun vs => (evMeth m x vs s2).to Q := by
  simp only [ev, to_bind]
  congr 1; funext x s1
  by_cases h : recv m x s1 = true
  · simp only [h, if_true, true_and, to_bind]
    congr 1; funext y s2
    cases y <;> rfl
  · simp only [Bool.not_eq_true] at h
    simp only [h, Bool.false_eq_true, if_false, false_and]; rfl
theorem w_blt {f : Blt} {a : E} : (ev T call (.blt f a) σ s).to Q = (ev T call a σ s).to fun x s1 => toTup x fun vs => (evBlt f vs s1).to Q := by
  simp only [ev, to_bind]
  congr 1; funext x s1
  cases x <;> rfl
theorem w_app {i : Nat} {xs : List PV} {a b : E} (ha : (ev T call a σ s) = .ok (.lst i) s) (hi : At s i xs) (hb : (ev T call b σ s).to fun y s2 => ∃ ys, At s2 i ys ∧ ys.length < cap ∧ Q .non ⟨s2.n, put i (.lst (ys ++ [y])) s2.os⟩) : (ev T call (.app a b) σ s).to Q := by
  simp only [ev, to_bind, ha, to_ok, hi.getW]
  refine to_mono hb fun y s2 ⟨ys, h1, h2, h3⟩ => ?_
  simp only [h1.getW, h2, if_true]
  exact h3
def toSeq (s : Sto) (v : PV) (Q : List PV → Prop) : Prop := match seqOf s v with | some xs => Q xs | none => False
theorem toSeq_tup {s : Sto} {xs : List PV} {Q : List PV → Prop} : toSeq s (.tup xs) Q = Q xs := rfl
theorem toSeq_lst {s : Sto} {i : Nat} {xs : List PV} {Q : List PV → Prop} (h : At s i xs) : toSeq s (.lst i) Q = Q xs := by simp only [toSeq, h.seq]
theorem w_star {a r : E} : (ev T call (.star a r) σ s).to Q = (ev T call a σ s).to fun x s1 => toSeq s1 x fun xs => (ev T call r σ s1).to fun w s2 => toTup w fun vs => Q (.tup (xs ++ vs)) s2 := by
  simp only [ev, to_bind, toSeq]
  congr 1; funext x s1
  cases seqOf s1 x with
  | none => rfl
  | some xs =>
    dsimp only
    cases ev T call r σ s1 with
    | ok w s2 => cases w <;> rfl
    | _ => rfl
theorem w_rev {a : E} : (ev T call (.rev a) σ s).to Q = (ev T call a σ s).to fun x s1 => toTup x fun xs => xs.length ≤ cap ∧ Q (.tup xs.reverse) s1 := by
  simp only [ev, to_bind]
  congr 1; funext x s1
  cases x <;> try rfl
  simp only [toTup]
  split <;> rename_i h
  · simp only [h, true_and, to_ok]
  · simp only [h, false_and]; rfl
/-! ### statements -/
variable {P : Fl → Sto → Prop}
/-- after a statement: on with the next, or out -/
def onNx (P : Fl → Sto → Prop) (k : Sl → Sto → Prop) : Fl → Sto → Prop := fun fl s => match fl with
  | .nx σ => k σ s
  | .rt v => P (.rt v) s
  | .bk σ => P (.bk σ) s
  | .ct σ => P (.ct σ) s
theorem onNx_nx {k : Sl → Sto → Prop} {σ : Sl} {s : Sto} : onNx P k (.nx σ) s = k σ s := rfl
theorem onNx_rt {k : Sl → Sto → Prop} {v : PV} {s : Sto} : onNx P k (.rt v) s = P (.rt v) s := rfl
theorem onNx_ct {k : Sl → Sto → Prop} {σ : Sl} {s : Sto} : onNx P k (.ct σ) s = P (.ct σ) s := rfl
theorem x_skip : (ex T call .skip σ s).to P = P (.nx σ) s := by simp only [ex, to_ok]
theorem x_seq {a r : E} : (ex T call (.seq a r) σ s).to P = (ex T call a σ s).to (onNx P fun σ1 s1 => (ex T call r σ1 s1).to P) := by
  simp only [ex]
  cases ex T call a σ s with
  | ok fl s1 => cases fl <;> rfl
  | _ => rfl
def toSl (o : Option Sl) (Q : Sl → Prop) : Prop := match o with | some σ => Q σ | none => False
theorem toSl_some {σ : Sl} {Q : Sl → Prop} : toSl (some σ) Q = Q σ := rfl
theorem x_set {g e : E} : (ex T call (.set g e) σ s).to P = (ev T call e σ s).to fun v s1 => toSl (lay g v σ) fun σ1 => P (.nx σ1) s1 := by
  simp only [ex, to_bind, toSl]
  congr 1; funext x s1
  cases lay g x σ <;> rfl
theorem x_setC {i : Nat} {e : E} : (ex T call (.setC i e) σ s).to P = (ev T call e σ s).to fun v s1 => P (.nx (σ.set i (some v))) s1 := by
  simp only [ex, to_bind, to_ok]
theorem x_par {js : List Nat} {a : E} : (ex T call (.par js a) σ s).to P = (ev T call a σ s).to fun v s1 => toTup v fun vs => toSl (layN js vs σ) fun σ1 => P (.nx σ1) s1 := by
  simp only [ex, to_bind, toSl]
  congr 1; funext x s1
  cases x <;> try rfl
  simp only [toTup]
  cases layN js _ σ <;> rfl
theorem x_ret {e : E} : (ex T call (.ret e) σ s).to P = (ev T call e σ s).to fun v s1 => P (.rt v) s1 := by simp only [ex, to_bind, to_ok]
theorem x_expr {e : E} : (ex T call (.expr e) σ s).to P = (ev T call e σ s).to fun _ s1 => P (.nx σ) s1 := by simp only [ex, to_bind, to_ok]
theorem x_cont : (ex T call .cont σ s).to P = P (.ct σ) s := by simp only [ex, to_ok]
theorem x_sif {c a b : E} : (ex T call (.sif c a b) σ s).to P = (ev T call c σ s).to fun v s1 => toBl v ((ex T call a σ s1).to P) ((ex T call b σ s1).to P) := by
  simp only [ex, to_bind]
  congr 1; funext x s1
  cases x <;> try rfl
  rename_i b; cases b <;> rfl
theorem x_sfor {g it b : E} : (ex T call (.sfor g it b) σ s).to P = (evI T call it σ s).to fun j s1 => (forF j (fun v σ => lay g v σ) (fun σ s => ex T call b σ s) (j.most s1) 0 σ s1).to P := by simp only [ex, to_bind]
theorem x_whl {c b : E} : (ex T call (.whl c b) σ s).to P = (whileF (fun σ s => ev T call c σ s) (fun σ s => ex T call b σ s) T.fuel σ s).to P := by simp only [ex]
/-- a def's call -/
def onRt (Q : PV → Sto → Prop) : Fl → Sto → Prop := fun fl s => match fl with
  | .rt v => Q v s
  | .nx _ => Q .non s
  | _ => False
theorem onRt_rt {v : PV} : onRt Q (.rt v) s = Q v s := rfl
theorem onRt_nx : onRt Q (.nx σ) s = Q .non s := rfl
theorem out_to {r : Res Fl} {Q : PV → Sto → Prop} (h : r.to (onRt Q)) : (outF r).to Q := by
  obtain ⟨fl, s1, e, h⟩ := to_ex h
  rw [e]
  cases fl <;> first | exact h | exact h.elim
theorem run_to {n f : Nat} {vs : List PV} {np ns : Nat} {b : E} (hd : T.defs[f]? = some ⟨np, ns, b, false⟩) (hl : vs.length = np) (h : (ex T (runF T n) b (vs.map some ++ List.replicate (ns - np) none) s).to (onRt Q)) : (runF T (n + 1) f vs s).to Q := by
  simp only [runF, hd]
  rw [if_pos (by rw [hl]; exact Nat.beq_refl _)]
  exact out_to h
/-- a pure def -/
theorem run_pu {n f : Nat} {vs : List PV} {np ns : Nat} {b : E} {v : PV} (hd : T.defs[f]? = some ⟨np, ns, b, true⟩) (hl : vs.length = np) (hp : pureVs vs = true) (hv : pureV v = true) (h : (ex T (runF T n) b (vs.map some ++ List.replicate (ns - np) none) sto00).to (onRt fun u _ => u = v)) : runF T (n + 1) f vs s = .ok v s := by
  simp only [runF, hd]
  rw [if_pos (by rw [hl]; exact Nat.beq_refl _)]
  obtain ⟨u, s1, e, h⟩ := to_ex (out_to h)
  subst h
  simp [hp, e, backTo', hv]
/-! ### iterations -/
theorem j_seq {a : E} {K : It → Sto → Prop} : (evI T call (.iseq a) σ s).to K = (ev T call a σ s).to fun x s1 => (match x with | .tup xs => K (.t xs) s1 | .lst i => ∃ xs, s1.getL i = some xs ∧ K (.l i) s1 | _ => False) := by
  simp only [evI, to_bind]
  congr 1; funext x s1
  cases x <;> try rfl
  dsimp only
  cases e : s1.getL _ <;> simp [Res.to]
theorem j_rng {a : E} {K : It → Sto → Prop} : (evI T call (.irng a) σ s).to K = (ev T call a σ s).to fun x s1 => toInt x fun j => (-1000000 ≤ j ∧ j ≤ 1000000) ∧ K (.r 0 j.toNat) s1 := by
  simp only [evI, to_bind]
  congr 1; funext x s1
  cases x <;> try rfl
  simp only [toInt, Bool.and_eq_true, decide_eq_true_eq]
  split <;> rename_i h
  · simp only [h, true_and, and_true, to_ok]
  · simp only [h, false_and]; rfl
end
end GI

namespace GI
open PySem FI
/-! ### turns by an invariant -/
/-- the walk sees xs, whatever is added to the store that satisfies I -/
def Sees {α : Type} (j : It) (I : Sto → Prop) (L : List α) (g : α → PV) : Prop := ∀ k s, I s → k ≤ L.length → j.at k s = some (L[k]?.map g)
theorem turns_inv {α : Type} {j : It} {body : PV → Sto → Res (Option PV)} {L : List α} {g : α → PV} {I : Sto → Prop} (J : Nat → List PV → Sto → Prop) {Q : List PV → Sto → Prop} (hs : Sees j I L g)
    (hI : ∀ k acc s, J k acc s → I s ∧ acc.length ≤ k) (hc : L.length ≤ cap)
    (hb : ∀ k a acc s, L[k]? = some a → J k acc s → (body (g a) s).to fun y s' => J (k + 1) (acc ++ y.toList) s')
    (hQ : ∀ acc s, J L.length acc s → Q acc s) : ∀ (m k : Nat) (acc : List PV) (s : Sto), k + m = L.length → J k acc s → (turns j body m k acc s).to Q
  | 0, k, acc, s, e, h => by
    have hk := hs k s (hI _ _ _ h).1 (by omega)
    rw [List.getElem?_eq_none (by omega)] at hk
    simp only [turns, hk]
    refine hQ acc s ?_
    rw [← e]; exact h
  | m + 1, k, acc, s, e, h => by
    have hlt : k < L.length := by omega
    have hk := hs k s (hI _ _ _ h).1 (by omega)
    rw [List.getElem?_eq_getElem hlt] at hk
    simp only [turns, hk, Option.map_some]
    obtain ⟨y, s1, e1, h1⟩ := to_ex (hb k L[k] acc s (List.getElem?_eq_getElem hlt) h)
    rw [e1]
    have hl := (hI _ _ _ h).2
    cases y with
    | none =>
      dsimp only
      refine turns_inv J hs hI hc hb hQ m (k + 1) acc s1 (by omega) ?_
      simpa using h1
    | some y =>
      dsimp only
      rw [if_pos (by omega)]
      exact turns_inv J hs hI hc hb hQ m (k + 1) (acc ++ [y]) s1 (by omega) h1
section
variable {T : Tab} {call : Nat → List PV → Sto → Res PV} {σ : Sl} {s : Sto} {Q : PV → Sto → Prop}
/-- one turn of a comprehension -/
def Turn (T : Tab) (call : Nat → List PV → Sto → Res PV) (tg c elt : E) (σ : Sl) (x : PV) (s : Sto) (R : Option PV → Sto → Prop) : Prop :=
  toSl (lay tg x σ) fun σ1 => (ev T call c σ1 s).to fun b s1 => toBl b ((ev T call elt σ1 s1).to fun y s2 => R (some y) s2) (R none s1)
theorem turn_to {tg c elt : E} {x : PV} {R : Option PV → Sto → Prop} (h : Turn T call tg c elt σ x s R) : (match lay tg x σ with
        | none => (.bad : Res (Option PV))
        | some σ1 => match ev T call c σ1 s with
          | .ok (.bl true) s3 => match ev T call elt σ1 s3 with
            | .ok y s4 => .ok (some y) s4
            | _ => .bad
          | .ok (.bl false) s3 => .ok none s3
          | _ => .bad).to R := by
  unfold Turn at h
  cases e : lay tg x σ with
  | none => rw [e] at h; exact h.elim
  | some σ1 =>
    rw [e] at h
    simp only [toSl_some] at h
    obtain ⟨b, s1, e1, h⟩ := to_ex h
    simp only [e1]
    cases b with
    | bl b =>
      cases b with
      | false => exact h
      | true =>
        simp only [toBl_true] at h
        obtain ⟨y, s2, e2, h⟩ := to_ex h
        simp only [e2]
        exact h
    | _ => exact h.elim
/-- a comprehension by an invariant -/
theorem comp_inv {α : Type} {own : List (Str × Nat)} {tg it c elt : E} (L : List α) (g : α → PV) (I : Sto → Prop) (J : Nat → List PV → Sto → Prop)
    (hit : (evI T call it σ s).to fun j s1 => j.most s1 = L.length ∧ Sees j I L g ∧ J 0 [] s1) (hI : ∀ k acc s, J k acc s → I s ∧ acc.length ≤ k) (hc : L.length ≤ cap)
    (hb : ∀ k a acc s, L[k]? = some a → J k acc s → Turn T call tg c elt (wipeP σ (own.map (·.2))) (g a) s fun y s' => J (k + 1) (acc ++ y.toList) s')
    (hQ : ∀ acc s', J L.length acc s' → Q (.lst s'.n) (s'.new (.lst acc))) : (ev T call (.comp own tg it c elt) σ s).to Q := by
  simp only [ev, to_bind]
  refine to_mono hit fun j s1 ⟨hm, hs, hJ⟩ => ?_
  rw [hm]
  refine turns_inv J hs hI hc (fun k a acc s h1 h2 => turn_to (hb k a acc s h1 h2)) (fun acc s' h => ?_) L.length 0 [] s1 (by omega) hJ
  rw [if_pos (by have := (hI _ _ _ h).2; omega)]
  exact hQ acc s' h
/-- a comprehension that only reads: f tells what each item gives -/
theorem comp_pure {α : Type} {own : List (Str × Nat)} {tg it c elt : E} (L : List α) (g : α → PV) (f : α → Option PV)
    (hit : (evI T call it σ s).to fun j s1 => j.most s1 = L.length ∧ Sees j (Fr [] s1) L g ∧ Fr [] s s1) (hc : L.length ≤ cap)
    (hb : ∀ a ∈ L, ∀ s', Fr [] s s' → Turn T call tg c elt (wipeP σ (own.map (·.2))) (g a) s' fun y s'' => y = f a ∧ Fr [] s' s'')
    (hQ : ∀ i s', Fr [] s s' → At s' i (L.filterMap f) → s.n ≤ i → Q (.lst i) s') : (ev T call (.comp own tg it c elt) σ s).to Q := by
  obtain ⟨j, s1, e, hm, hs, hf⟩ := to_ex hit
  refine comp_inv L g (Fr [] s1) (fun k acc s' => Fr [] s1 s' ∧ acc = (L.take k).filterMap f) (to_eq e ⟨hm, hs, .refl, rfl⟩) (fun k acc s' ⟨h1, h2⟩ => ⟨h1, ?_⟩) hc (fun k a acc s' h1 ⟨h2, h3⟩ => ?_) fun acc s' ⟨h1, h2⟩ => ?_
  · rw [h2]
    refine Nat.le_trans (List.length_filterMap_le _ _) ?_
    rw [List.length_take]
    omega
  · have hm := hb a (List.mem_of_getElem? h1) s' (hf.trans h2)
    unfold Turn at hm ⊢
    revert hm
    cases lay tg (g a) (wipeP σ (own.map (·.2))) with
    | none => exact fun z => z.elim
    | some σ1 =>
      simp only [toSl_some]
      intro hm
      refine to_mono hm fun b s2 hm => ?_
      have key : ∀ (y : Option PV) (s'' : Sto), (y = f a ∧ Fr [] s' s'') → Fr [] s1 s'' ∧ acc ++ y.toList = (L.take (k + 1)).filterMap f := fun y s'' ⟨e1, e2⟩ => by
        refine ⟨h2.trans e2, ?_⟩
        rw [List.take_add_one, h1, h3, e1, List.filterMap_append]
        cases hfa : f a <;> simp [hfa]
      cases b with
      | bl b =>
        cases b with
        | false => exact key none s2 hm
        | true => exact to_mono hm fun y s3 hm => key (some y) s3 hm
      | _ => exact hm
  · rw [List.take_length] at h2
    subst h2
    exact hQ _ _ ((hf.trans h1).trans .new) .new (Nat.le_trans hf.le h1.le)
theorem sees_t {α : Type} {I : Sto → Prop} {L : List α} {g : α → PV} : Sees (.t (L.map g)) I L g := fun k s _ _ => by simp [It.at]
theorem sees_l {α : Type} {I : Sto → Prop} {L : List α} {g : α → PV} {i : Nat} (h : ∀ s, I s → At s i (L.map g)) : Sees (.l i) I L g := fun k s hi _ => by simp [It.at, (h s hi).getL]
theorem sees_r {I : Sto → Prop} {n : Nat} : Sees (.r 0 n) I (List.range n) fun k => .int (k : Int) := fun k s _ hk => by
  simp only [It.at, List.length_range] at *
  by_cases h : k < n
  · simp [h]
  · simp [h]
theorem sees_en_t {α : Type} {I : Sto → Prop} {L : List α} {g : α → PV} : Sees (.en (.t (L.map g))) I L.zipIdx fun p => .tup [.int (p.2 : Int), g p.1] := fun k s _ hk => by
  simp only [It.at, It.items]
  by_cases h : k < L.length
  · simp [h]
  · have e : k = L.length := by simp at hk; omega
    subst e
    simp
theorem sees_zp {α β : Type} {I : Sto → Prop} {L : List α} {M : List β} {g : α → PV} {h : β → PV} {a b : It} (ha : ∀ s, I s → a.items s = some (L.map g)) (hb : ∀ s, I s → b.items s = some (M.map h)) : Sees (.zp a b) I (L.zip M) fun p => .tup [g p.1, h p.2] := fun k s hi hk => by
  simp only [It.at, ha s hi, hb s hi]
  by_cases h : k < L.length ∧ k < M.length
  · have e : (L.zip M)[k]? = some (L[k]'h.1, M[k]'h.2) := by rw [List.getElem?_eq_getElem (by simp only [List.length_zip]; omega), List.getElem_zip]
    rw [e]
    simp [h.1, h.2]
  · have e : k = min L.length M.length := by simp at hk; omega
    subst e
    by_cases h1 : L.length ≤ M.length
    · rw [Nat.min_eq_left h1] at h ⊢
      simp [Nat.min_eq_left h1]
    · rw [Nat.min_eq_right (by omega)] at h ⊢
      simp [Nat.min_eq_right (by omega : M.length ≤ L.length)]
theorem sees_zp3 {α β γ : Type} {I : Sto → Prop} {L : List α} {M : List β} {N : List γ} {g : α → PV} {h : β → PV} {f : γ → PV} {a b c : It} (ha : ∀ s, I s → a.items s = some (L.map g)) (hb : ∀ s, I s → b.items s = some (M.map h)) (hc : ∀ s, I s → c.items s = some (N.map f)) : Sees (.zp3 a b c) I (L.zip (M.zip N)) fun p => .tup [g p.1, h p.2.1, f p.2.2] := fun k s hi hk => by
  simp only [It.at, ha s hi, hb s hi, hc s hi]
  simp only [List.length_zip] at hk
  by_cases h : k < L.length ∧ k < M.length ∧ k < N.length
  · have e : (L.zip (M.zip N))[k]? = some (L[k]'h.1, M[k]'h.2.1, N[k]'h.2.2) := by rw [List.getElem?_eq_getElem (by simp only [List.length_zip]; omega), List.getElem_zip, List.getElem_zip]
    rw [e]
    simp [h.1, h.2.1, h.2.2]
  · have e : k = min L.length (min M.length N.length) := by omega
    have e2 : k = min (min L.length M.length) N.length := by omega
    have e3 : (L.zip (M.zip N))[k]? = none := List.getElem?_eq_none (by simp only [List.length_zip]; omega)
    rw [e3]
    simp only [List.length_map, Option.map_none]
    have e4 : Nat.beq k (min (min L.length M.length) N.length) = true := by rw [← e2]; exact Nat.beq_refl _
    split
    · rename_i v u w h1 h2 h3
      have := (List.getElem?_eq_some_iff.mp h1).1
      have := (List.getElem?_eq_some_iff.mp h2).1
      have := (List.getElem?_eq_some_iff.mp h3).1
      simp only [List.length_map] at *
      omega
    · rw [if_pos e4]
theorem j_enum {a : E} {K : It → Sto → Prop} : (evI T call (.ienum a) σ s).to K = (ev T call a σ s).to fun x s1 => ∃ j, seqIt s1 x = some j ∧ K (.en j) s1 := by
  simp only [evI, to_bind]
  congr 1; funext x s1
  cases e : seqIt s1 x <;> simp [Res.to]
theorem j_zip {a : E} {K : It → Sto → Prop} : (evI T call (.izip a) σ s).to K = (ev T call a σ s).to fun x s1 => toTup x fun vs => (match vs with | [x, y] => ∃ j, zip2 s1 x y = some j ∧ K j s1 | _ => False) := by
  simp only [evI, to_bind]
  congr 1; funext x s1
  cases x <;> try rfl
  rename_i vs
  simp only [toTup]
  match vs with
  | [] => rfl
  | [x] => rfl
  | [x, y] =>
    dsimp only
    cases e : zip2 s1 x y <;> simp [Res.to]
  | x :: y :: z :: r => rfl
/-! ### a for by an invariant -/
/-- after a turn -/
def onTurn (P : Fl → Sto → Prop) (k : Sl → Sto → Prop) : Fl → Sto → Prop := fun fl s => match fl with
  | .nx σ => k σ s
  | .ct σ => k σ s
  | .rt v => P (.rt v) s
  | .bk σ => P (.nx σ) s
theorem onTurn_nx {P : Fl → Sto → Prop} {k : Sl → Sto → Prop} {σ : Sl} {s : Sto} : onTurn P k (.nx σ) s = k σ s := rfl
theorem onTurn_ct {P : Fl → Sto → Prop} {k : Sl → Sto → Prop} {σ : Sl} {s : Sto} : onTurn P k (.ct σ) s = k σ s := rfl
theorem onTurn_rt {P : Fl → Sto → Prop} {k : Sl → Sto → Prop} {v : PV} {s : Sto} : onTurn P k (.rt v) s = P (.rt v) s := rfl
theorem for_inv {α : Type} {j : It} {gl : PV → Sl → Option Sl} {tb : Sl → Sto → Res Fl} {L : List α} {g : α → PV} {I : Sto → Prop} (J : Nat → Sl → Sto → Prop) {P : Fl → Sto → Prop} (hs : Sees j I L g)
    (hI : ∀ k σ s, J k σ s → I s)
    (hb : ∀ k a σ s, L[k]? = some a → J k σ s → toSl (gl (g a) σ) fun σ1 => (tb σ1 s).to (onTurn P (J (k + 1))))
    (hQ : ∀ σ s, J L.length σ s → P (.nx σ) s) : ∀ (m k : Nat) (σ : Sl) (s : Sto), k + m = L.length → J k σ s → (forF j gl tb m k σ s).to P
  | 0, k, σ, s, e, h => by
    have hk := hs k s (hI _ _ _ h) (by omega)
    rw [List.getElem?_eq_none (by omega)] at hk
    simp only [forF, hk]
    refine hQ σ s ?_
    rw [← e]; exact h
  | m + 1, k, σ, s, e, h => by
    have hlt : k < L.length := by omega
    have hk := hs k s (hI _ _ _ h) (by omega)
    rw [List.getElem?_eq_getElem hlt] at hk
    simp only [forF, hk, Option.map_some]
    have hb1 := hb k L[k] σ s (List.getElem?_eq_getElem hlt) h
    cases e1 : gl (g L[k]) σ with
    | none => rw [e1] at hb1; exact hb1.elim
    | some σ1 =>
      rw [e1] at hb1
      simp only [toSl_some] at hb1
      obtain ⟨fl, s1, e2, h2⟩ := to_ex hb1
      dsimp only
      rw [e2]
      cases fl with
      | nx σ2 => exact for_inv J hs hI hb hQ m (k + 1) σ2 s1 (by omega) h2
      | ct σ2 => exact for_inv J hs hI hb hQ m (k + 1) σ2 s1 (by omega) h2
      | rt v => exact h2
      | bk σ2 => exact h2
/-- a for statement -/
theorem x_for {α : Type} {g' it b : E} {P : Fl → Sto → Prop} (L : List α) (g : α → PV) (I : Sto → Prop) (J : Nat → Sl → Sto → Prop)
    (hit : (evI T call it σ s).to fun j s1 => j.most s1 = L.length ∧ Sees j I L g ∧ J 0 σ s1) (hI : ∀ k σ s, J k σ s → I s)
    (hb : ∀ k a σ s, L[k]? = some a → J k σ s → toSl (lay g' (g a) σ) fun σ1 => (ex T call b σ1 s).to (onTurn P (J (k + 1))))
    (hQ : ∀ σ s, J L.length σ s → P (.nx σ) s) : (ex T call (.sfor g' it b) σ s).to P := by
  rw [x_sfor]
  refine to_mono hit fun j s1 ⟨hm, hs, hJ⟩ => ?_
  rw [hm]
  exact for_inv J hs hI hb hQ L.length 0 σ s1 (by omega) hJ
end
end GI

namespace GI
open PySem FI
/-! ### fractions -/
def q (r : Rat) : PV := .tup [.int r.num, .int (r.den : Int)]
/-- small -/
structure W (k : Nat) (r : Rat) : Prop where
  num : r.num.natAbs < 2 ^ k
  den : r.den < 2 ^ k
theorem pow_le {i j : Nat} (h : i ≤ j) : 2 ^ i ≤ 2 ^ j := Nat.pow_le_pow_right (by decide) h
theorem W.mono {i j : Nat} {r : Rat} (h : W i r) (l : i ≤ j) : W j r := ⟨Nat.lt_of_lt_of_le h.num (pow_le l), Nat.lt_of_lt_of_le h.den (pow_le l)⟩
theorem W.neg {i : Nat} {r : Rat} (h : W i r) : W i (-r) := ⟨by rw [Rat.neg_num, Int.natAbs_neg]; exact h.num, by rw [Rat.neg_den]; exact h.den⟩
theorem mkRat_small {t : Int} {b k : Nat} (hb : b ≠ 0) (h1 : t.natAbs < 2 ^ k) (h2 : b < 2 ^ k) : W k (mkRat t b) := by
  rw [← Rat.normalize_eq_mkRat hb, Rat.normalize_eq hb]
  refine ⟨?_, ?_⟩
  · dsimp only
    refine Nat.lt_of_le_of_lt ?_ h1
    rw [Int.natAbs_ediv_of_dvd]
    · exact Nat.div_le_self _ _
    · exact Int.ofNat_dvd_left.mpr (Nat.gcd_dvd_left _ _)
  · exact Nat.lt_of_le_of_lt (Nat.div_le_self _ _) h2
theorem mul_lt_pow {a b i j : Nat} (h1 : a < 2 ^ i) (h2 : b < 2 ^ j) : a * b < 2 ^ (i + j) := by
  rw [Nat.pow_add]
  exact Nat.mul_lt_mul'' h1 h2
theorem W.mul {i j : Nat} {a b : Rat} (h : W i a) (k : W j b) : W (i + j) (a * b) := by
  rw [Rat.mul_def']
  refine mkRat_small (Nat.mul_ne_zero a.den_nz b.den_nz) ?_ (mul_lt_pow h.den k.den)
  rw [Int.natAbs_mul]
  exact mul_lt_pow h.num k.num
theorem W.add {i j : Nat} {a b : Rat} (h : W i a) (k : W j b) : W (i + j + 1) (a + b) := by
  rw [Rat.add_def']
  refine mkRat_small (Nat.mul_ne_zero a.den_nz b.den_nz) ?_ (Nat.lt_of_lt_of_le (mul_lt_pow h.den k.den) (pow_le (Nat.le_succ _)))
  refine Nat.lt_of_le_of_lt (Int.natAbs_add_le _ _) ?_
  rw [Int.natAbs_mul, Int.natAbs_mul, Int.natAbs_natCast, Int.natAbs_natCast]
  have h1 := mul_lt_pow h.num k.den
  have h2 := mul_lt_pow k.num h.den
  rw [Nat.add_comm j i] at h2
  rw [Nat.pow_succ]
  omega
theorem W.sub {i j : Nat} {a b : Rat} (h : W i a) (k : W j b) : W (i + j + 1) (a - b) := by
  rw [Rat.sub_eq_add_neg]
  exact h.add k.neg
theorem W.inv {i : Nat} {a : Rat} (h : W i a) (n : a ≠ 0) : W i a⁻¹ := by
  refine ⟨?_, ?_⟩
  · rw [Rat.num_inv, Int.natAbs_mul, Int.natAbs_natCast]
    have : a.num.sign.natAbs ≤ 1 := by
      rcases Int.lt_trichotomy a.num 0 with z | z | z
      · rw [Int.sign_eq_neg_one_of_neg z]; decide
      · rw [z]; decide
      · rw [Int.sign_eq_one_of_pos z]; decide
    have hd := h.den
    calc a.num.sign.natAbs * a.den ≤ 1 * a.den := Nat.mul_le_mul_right _ this
      _ < 2 ^ i := by omega
  · rw [Rat.den_inv]
    split
    · rename_i z
      exact absurd (Rat.num_eq_zero.mp z) n
    · exact h.num
theorem W.div {i j : Nat} {a b : Rat} (h : W i a) (k : W j b) (n : b ≠ 0) : W (i + j) (a / b) := by
  rw [Rat.div_def]
  exact h.mul (k.inv n)
theorem W.zero : W 1 0 := ⟨by decide, by decide⟩
theorem log2_lt {a k : Nat} (h : a < 2 ^ k) (hk : 0 < k) : a.log2 < k := by
  by_cases z : a = 0
  · rw [z]; simpa using hk
  · exact (Nat.log2_lt z).mpr h
/-! ### data -/
def dq (r : Rat) : PyData := .tuple [.int r.num, .int (r.den : Int)]
theorem toD_int {s : Sto} {n : Nat} {i : Int} : toD s (n + 1) (.int i) = some (.int i) := rfl
theorem toD_str {s : Sto} {n : Nat} {i : Str} : toD s (n + 1) (.str i) = some (.str i) := rfl
theorem toD_q {s : Sto} {n : Nat} {r : Rat} : toD s (n + 2) (q r) = some (dq r) := rfl
theorem mapO_map {α β γ : Type} {f : β → Option γ} {g : α → β} {h : α → γ} : ∀ {L : List α}, (∀ a ∈ L, f (g a) = some (h a)) → mapO f (L.map g) = some (L.map h)
  | [], _ => rfl
  | a :: L, e => by
    simp only [List.map_cons, mapO, e a List.mem_cons_self, mapO_map fun b hb => e b (List.mem_cons_of_mem _ hb)]
theorem toD_tup {α : Type} {s : Sto} {n : Nat} {g : α → PV} {h : α → PyData} {L : List α} (e : ∀ a ∈ L, toD s n (g a) = some (h a)) : toD s (n + 1) (.tup (L.map g)) = some (.tuple (L.map h)) := by
  simp only [toD, mapO_map e]
theorem toD_lst {α : Type} {s : Sto} {n i : Nat} {g : α → PV} {h : α → PyData} {L : List α} (hi : At s i (L.map g)) (e : ∀ a ∈ L, toD s n (g a) = some (h a)) : toD s (n + 1) (.lst i) = some (.list (L.map h)) := by
  simp only [toD, hi.getL, mapO_map e]
theorem canAll {α : Type} {h : α → PyData} : ∀ {L : List α}, (∀ a ∈ L, (h a).canLay0 = true) → PyData.canLayAll0 (L.map h) = true
  | [], _ => rfl
  | a :: L, e => by
    simp only [List.map_cons, PyData.canLayAll0, e a List.mem_cons_self, canAll fun b hb => e b (List.mem_cons_of_mem _ hb), Bool.and_self]
theorem can_q {r : Rat} : (dq r).canLay0 = true := rfl
theorem eqv_q {a b : Rat} : PyData.eqv (dq a) (dq b) = decide (a = b) := by
  simp only [dq, PyData.eqv, PyData.eqvAll, Bool.and_true]
  by_cases h : a = b
  · subst h; simp
  · rw [decide_eq_false h]
    by_cases h1 : a.num = b.num
    · have h2 : a.den ≠ b.den := fun z => h (Rat.ext h1 z)
      simp [h1]
      omega
    · simp [h1]
theorem eq_q {s : Sto} {a b : Rat} : eqP s (q a) (q b) = some (decide (a = b)) := by
  simp only [eqP, isRep, q]
  rw [show toD s 60 (.tup [.int a.num, .int (a.den : Int)]) = some (dq a) from rfl, show toD s 60 (.tup [.int b.num, .int (b.den : Int)]) = some (dq b) from rfl]
  dsimp only
  have h : (SeqAt.shaped (dq a) && SeqAt.shaped (dq b)) = true := rfl
  rw [if_pos h, eqv_q]
theorem eq_int {s : Sto} {a b : Int} : eqP s (.int a) (.int b) = some (decide (a = b)) := by
  simp only [eqP, isRep, toD]
  have h : (SeqAt.shaped (PyData.int a) && SeqAt.shaped (PyData.int b)) = true := rfl
  rw [if_pos h, PyData.eqv]
  congr 1
theorem isRep_none {s : Sto} {n : Nat} {a : PV} {d : PyData} (h : toD s n a = some d) : isRep a = none := by
  cases a <;> first | rfl | (cases n <;> simp [toD] at h)
theorem eq_same {s : Sto} {a b : PV} {d : PyData} (ha : toD s 60 a = some d) (hb : toD s 60 b = some d) (hc : d.canLay0 = true) (hd : d.depth ≤ 64) : eqP s a b = some true := by
  simp only [eqP, ha, hb, isRep_none ha]
  have hs : SeqAt.shaped d = true := by simp [SeqAt.shaped, hc, hd]
  rw [hs]
  simp only [Bool.and_self, if_true]
  rw [SeqAt.eqv_refl d hc]
end GI

namespace GI
open PySem FI
theorem ne_int {s : Sto} {a b : Int} {Q : PV → Sto → Prop} : (evCmp .ne (.int a) (.int b) s).to Q = Q (.bl (!decide (a = b))) s := by simp only [evCmp, eq_int, to_ok]
theorem w_add {s : Sto} {a b : Int} {Q : PV → Sto → Prop} : (evBin .add (.int a) (.int b) s).to Q = Q (.int (a + b)) s := by simp only [evBin, to_ok]
theorem w_sub {s : Sto} {a b : Int} {Q : PV → Sto → Prop} : (evBin .sub (.int a) (.int b) s).to Q = Q (.int (a - b)) s := by simp only [evBin, to_ok]
theorem w_mul {s : Sto} {a b : Int} {Q : PV → Sto → Prop} (ha : a.natAbs < 2 ^ 9000) (hb : b.natAbs < 2 ^ 9000) : (evBin .mul (.int a) (.int b) s).to Q = Q (.int (a * b)) s := by
  have h1 := log2_lt ha (by decide)
  have h2 := log2_lt hb (by decide)
  simp only [evBin]
  rw [if_pos (by omega), to_ok]
theorem w_mod {s : Sto} {a b : Int} {Q : PV → Sto → Prop} (hb : 0 < b) : (evBin .mod (.int a) (.int b) s).to Q = Q (.int (a % b)) s := by
  simp only [evBin]
  rw [if_pos hb, to_ok]
theorem w_fdiv {s : Sto} {a b : Int} {Q : PV → Sto → Prop} (hb : 0 < b) (h : b.natAbs < 2 ^ 9000) : (evBin .fdiv (.int a) (.int b) s).to Q = Q (.int (a / b)) s := by
  have h1 := log2_lt h (by decide)
  simp only [evBin]
  rw [if_pos (by simp [hb, h1]), to_ok]
theorem eq_of_to {r : Res PV} {v : PV} {s : Sto} (h : ∀ Q : PV → Sto → Prop, Q v s → r.to Q) : r = .ok v s := by
  obtain ⟨a, s', e, h1, h2⟩ := to_ex (h (fun a s' => a = v ∧ s' = s) ⟨rfl, rfl⟩)
  rw [e, h1, h2]
theorem w_abs {s : Sto} {i : Int} {Q : PV → Sto → Prop} : (evBlt .abs [.int i] s).to Q = Q (.int (i.natAbs : Int)) s := by
  have e : (if i < 0 then -i else i) = (i.natAbs : Int) := by split <;> omega
  simp only [evBlt, e, to_ok]
theorem w_toint {s : Sto} {i : Int} {Q : PV → Sto → Prop} : (evBlt .int [.int i] s).to Q = Q (.int i) s := by simp only [evBlt, to_ok]
theorem w_lt {s : Sto} {a b : Int} {Q : PV → Sto → Prop} : (evCmp .lt (.int a) (.int b) s).to Q = Q (.bl (decide (a < b))) s := by simp only [evCmp, to_ok]
theorem w_le {s : Sto} {a b : Int} {Q : PV → Sto → Prop} : (evCmp .le (.int a) (.int b) s).to Q = Q (.bl (decide (a ≤ b))) s := by simp only [evCmp, to_ok]
theorem w_gt {s : Sto} {a b : Int} {Q : PV → Sto → Prop} : (evCmp .gt (.int a) (.int b) s).to Q = Q (.bl (decide (b < a))) s := by simp only [evCmp, to_ok]
theorem w_ge {s : Sto} {a b : Int} {Q : PV → Sto → Prop} : (evCmp .ge (.int a) (.int b) s).to Q = Q (.bl (decide (b ≤ a))) s := by simp only [evCmp, to_ok]
theorem w_eqI {s : Sto} {a b : Int} {Q : PV → Sto → Prop} : (evCmp .eq (.int a) (.int b) s).to Q = Q (.bl (decide (a = b))) s := by simp only [evCmp, eq_int, to_ok]
theorem w_eqq {s : Sto} {a b : Rat} {Q : PV → Sto → Prop} : (evCmp .eq (q a) (q b) s).to Q = Q (.bl (decide (a = b))) s := by simp only [evCmp, eq_q, to_ok]
theorem w_neq {s : Sto} {a b : Rat} {Q : PV → Sto → Prop} : (evCmp .ne (q a) (q b) s).to Q = Q (.bl (!decide (a = b))) s := by simp only [evCmp, eq_q, to_ok]
theorem q_num {s : Sto} {a : Rat} {Q : PV → Sto → Prop} : (evIdx (q a) (.int 0) s).to Q = Q (.int a.num) s := rfl
theorem q_den {s : Sto} {a : Rat} {Q : PV → Sto → Prop} : (evIdx (q a) (.int 1) s).to Q = Q (.int (a.den : Int)) s := rfl
theorem gcd_loop {T : Tab} {c b : E} {n : Nat} (hc : c = .cmp .ne (.var 1) (.int 0)) (hb : b = .seq (.par [0, 1] (.cons (.var 1) (.cons (.bin .mod (.var 0) (.blt .int (.cons (.var 1) .nil))) .nil))) .skip) : ∀ (m : Nat) (x y : Nat) (s : Sto), y < m → whileF (fun σ s => ev T (runF T n) c σ s) (fun σ s => ex T (runF T n) b σ s) m [some (.int x), some (.int y)] s = .ok (.nx [some (.int (Nat.gcd x y : Nat)), some (.int 0)]) s
  | 0, _, _, _, h => absurd h (Nat.not_lt_zero _)
  | m + 1, x, y, s, h => by
    have e1 : ev T (runF T n) c [some (.int x), some (.int y)] s = .ok (.bl (!decide ((y : Int) = 0))) s := by
      subst hc
      simp [ev, Res.bind, evCmp, eq_int]
    simp only [whileF, e1]
    by_cases z : y = 0
    · subst z
      simp
    · have hz : ¬ ((y : Int) = 0) := by omega
      have e2 : ex T (runF T n) b [some (.int x), some (.int y)] s = .ok (.nx [some (.int (y : Int)), some (.int ((x % y : Nat) : Int))]) s := by
        subst hb
        simp [ex, ev, Res.bind, evBin, evBlt, layN, Nat.pos_of_ne_zero z]
      simp only [hz, decide_false, Bool.not_false, e2]
      rw [gcd_loop hc hb m y (x % y) s (by have := Nat.mod_lt x (Nat.pos_of_ne_zero z); omega)]
      rw [Nat.gcd_comm x y, Nat.gcd_rec y x, Nat.gcd_comm]
theorem gcd_loop2 {T : Tab} {c b : E} {n : Nat} {u v : Option PV} (hc : c = .cmp .ne (.var 3) (.int 0)) (hb : b = .seq (.par [2, 3] (.cons (.var 3) (.cons (.bin .mod (.blt .int (.cons (.var 2) .nil)) (.var 3)) .nil))) .skip) : ∀ (m : Nat) (x y : Nat) (s : Sto), y < m → whileF (fun σ s => ev T (runF T n) c σ s) (fun σ s => ex T (runF T n) b σ s) m [u, v, some (.int x), some (.int y)] s = .ok (.nx [u, v, some (.int (Nat.gcd x y : Nat)), some (.int 0)]) s
  | 0, _, _, _, h => absurd h (Nat.not_lt_zero _)
  | m + 1, x, y, s, h => by
    have e1 : ev T (runF T n) c [u, v, some (.int x), some (.int y)] s = .ok (.bl (!decide ((y : Int) = 0))) s := by
      subst hc
      simp [ev, Res.bind, evCmp, eq_int]
    simp only [whileF, e1]
    by_cases z : y = 0
    · subst z
      simp
    · have hz : ¬ ((y : Int) = 0) := by omega
      have e2 : ex T (runF T n) b [u, v, some (.int x), some (.int y)] s = .ok (.nx [u, v, some (.int (y : Int)), some (.int ((x % y : Nat) : Int))]) s := by
        subst hb
        simp [ex, ev, Res.bind, evBin, evBlt, layN, Nat.pos_of_ne_zero z]
      simp only [hz, decide_false, Bool.not_false, e2]
      rw [gcd_loop2 hc hb m y (x % y) s (by have := Nat.mod_lt x (Nat.pos_of_ne_zero z); omega)]
      rw [Nat.gcd_comm x y, Nat.gcd_rec y x, Nat.gcd_comm]
section
variable {a b : Rat}
theorem den_pos (a : Rat) : (0 : Int) < a.den := by have := a.den_pos; omega
theorem bound_den (ha : W 4000 a) (hb : W 4000 b) : a.den * b.den < 2 ^ 9000 := Nat.lt_of_lt_of_le (mul_lt_pow ha.den hb.den) (pow_le (by decide))
theorem num_pos (h : 0 < b) : 0 < b.num := by
  have := (Rat.lt_iff 0 b).mp h
  simpa using this
theorem div_mk (h : 0 < b) : a / b = mkRat (a.num * b.den) (a.den * b.num.natAbs) := by
  have hn := num_pos h
  rw [Rat.div_def, Rat.inv_def]
  conv => lhs; rw [← Rat.num_divInt_den a]
  rw [Rat.divInt_mul_divInt]
  have e : (a.den : Int) * b.num = ((a.den * b.num.natAbs : Nat) : Int) := by
    rw [Int.natCast_mul, Int.natAbs_of_nonneg (by omega)]
  rw [e, Rat.divInt_ofNat]
end
/-! sums -/
def S : List Rat → Rat
  | [] => 0
  | x :: l => x + S l
theorem S_snoc {x : Rat} : ∀ {l : List Rat}, S (l ++ [x]) = S l + x
  | [] => by simp only [List.nil_append, S]; grind
  | y :: l => by simp only [List.cons_append, S, S_snoc]; grind
theorem S_app {l : List Rat} : ∀ {m : List Rat}, S (m ++ l) = S m + S l
  | [] => by simp only [List.nil_append, S]; grind
  | y :: m => by simp only [List.cons_append, S, S_app]; grind
theorem W_S {k : Nat} : ∀ {l : List Rat}, (∀ x ∈ l, W k x) → W (1 + l.length * (k + 1)) (S l)
  | [], _ => W.zero.mono (by omega)
  | x :: l, h => by
    have h1 := (h x List.mem_cons_self).add (W_S fun y hy => h y (List.mem_cons_of_mem _ hy))
    refine h1.mono ?_
    rw [List.length_cons, Nat.add_mul]
    omega
theorem W_St {k m j : Nat} {l : List Rat} (h : ∀ x ∈ l, W k x) (hl : l.length ≤ m) (hk : 1 + m * (k + 1) ≤ j) : W j (S l) := by
  refine (W_S h).mono (Nat.le_trans ?_ hk)
  have := Nat.mul_le_mul_right (k + 1) hl
  omega
theorem q_zero : q 0 = .tup [.int 0, .int 1] := rfl
theorem q_one : q 1 = .tup [.int 1, .int 1] := rfl
section
variable {s : Sto}
theorem isTy_tup {t : Ty} {xs : List PV} : isTyS s t (.tup xs) = some (isTy t (.tup xs)) := rfl
theorem len_tup {xs : List PV} {Q : PV → Sto → Prop} : (evBlt .len [.tup xs] s).to Q = Q (.int (xs.length : Int)) s := by simp only [evBlt, seqOf, to_ok]
theorem len_lst {i : Nat} {xs : List PV} {Q : PV → Sto → Prop} (h : At s i xs) : (evBlt .len [.lst i] s).to Q = Q (.int (xs.length : Int)) s := by simp only [evBlt, h.seq, to_ok]
theorem bools_map {α : Type} {f : α → Bool} : ∀ {l : List α}, bools (l.map fun a => .bl (f a)) = some (l.map f)
  | [] => rfl
  | a :: l => by simp only [List.map_cons, bools, bools_map]
theorem all_lst {α : Type} {i : Nat} {l : List α} {f : α → Bool} {Q : PV → Sto → Prop} (h : At s i (l.map fun a => .bl (f a))) : (evBlt .all [.lst i] s).to Q = Q (.bl (l.all f)) s := by
  simp only [evBlt, h.getL, bools_map, to_ok, List.all_map]
  rfl
theorem any_lst {α : Type} {i : Nat} {l : List α} {f : α → Bool} {Q : PV → Sto → Prop} (h : At s i (l.map fun a => .bl (f a))) : (evBlt .any [.lst i] s).to Q = Q (.bl (l.any f)) s := by
  simp only [evBlt, h.getL, bools_map, to_ok, List.any_map]
  rfl
theorem fm_some {α β : Type} {f : α → β} {l : List α} : l.filterMap (fun a => some (f a)) = l.map f := by
  induction l with
  | nil => rfl
  | cons a l ih => simp [ih]
end
end GI

namespace GI
open PySem FI
theorem depthAll {α : Type} {h : α → PyData} {m : Nat} : ∀ {l : List α}, (∀ a ∈ l, (h a).depth ≤ m) → PyData.depthAll (l.map h) ≤ m
  | [], _ => by simp [PyData.depthAll]
  | a :: l, e => by
    simp only [List.map_cons, PyData.depthAll]
    have h1 := e a List.mem_cons_self
    have h2 := depthAll (l := l) fun b hb => e b (List.mem_cons_of_mem _ hb)
    omega
theorem dep_tup {α : Type} {h : α → PyData} {m : Nat} {l : List α} (e : ∀ a ∈ l, (h a).depth ≤ m) (hm : m ≤ 63) : (PyData.tuple (l.map h)).depth ≤ 64 := by
  have := depthAll e
  simp only [PyData.depth]
  omega
theorem dep_lst {α : Type} {h : α → PyData} {m : Nat} {l : List α} (e : ∀ a ∈ l, (h a).depth ≤ m) (hm : m ≤ 63) : (PyData.list (l.map h)).depth ≤ 64 := by
  have := depthAll e
  simp only [PyData.depth]
  omega
section
variable {n : Nat} {a b : Rat} {s : Sto} {Q : PV → Sto → Prop}
theorem Fr.drop {s s3 s' : Sto} {j : Nat} (h1 : Fr [] s s3) (h2 : Fr [j] s3 s') (h : s.n ≤ j) : Fr [] s s' := ⟨Nat.le_trans h1.le h2.le, fun i hi _ => by
  rw [h2.keep i (Nat.lt_of_lt_of_le hi h1.le) (by simp; omega), h1.keep i hi List.not_mem_nil]⟩
theorem slice_to {i k : Nat} {xs : List PV} (h : At s i xs) (hk : k ≤ xs.length) : (evSlice (.lst i) none (some (k : Int)) s).to Q = Q (.lst s.n) (s.new (.lst (xs.take k))) := by
  simp only [evSlice, h.getL, cutP, HT.sIx_none, HT.sIx_nat, to_ok, Nat.min_eq_left hk, List.drop_zero, Nat.sub_zero]
theorem slice_from {i k : Nat} {xs : List PV} (h : At s i xs) (hk : k ≤ xs.length) : (evSlice (.lst i) (some (k : Int)) none s).to Q = Q (.lst s.n) (s.new (.lst (xs.drop k))) := by
  simp only [evSlice, h.getL, cutP, HT.sIx_none, HT.sIx_nat, to_ok, Nat.min_eq_left hk]
  rw [List.take_of_length_le (by simp)]
theorem addL {i j : Nat} {xs ys : List PV} (hi : At s i xs) (hj : At s j ys) (h : xs.length + ys.length ≤ cap) : (evBin .add (.lst i) (.lst j) s).to Q = Q (.lst s.n) (s.new (.lst (xs ++ ys))) := by
  simp only [evBin, hi.getW, hj.getW, if_pos h, to_ok]
theorem idx_lst {i k : Nat} {xs : List PV} {v : PV} (h : At s i xs) (hv : xs[k]? = some v) : (evIdx (.lst i) (.int (k : Int)) s).to Q = Q v s := by
  have hk := (List.getElem?_eq_some_iff.mp hv).1
  have e : L2.atI xs (k : Int) = some v := by
    simp only [L2.atI, L2.ixN]
    rw [if_pos (by omega), if_pos (by omega)]
    simpa using hv
  simp only [evIdx, h.seq, e, to_ok]
theorem idx_tup {k : Nat} {xs : List PV} {v : PV} (hv : xs[k]? = some v) : (evIdx (.tup xs) (.int (k : Int)) s).to Q = Q v s := by
  have hk := (List.getElem?_eq_some_iff.mp hv).1
  have e : L2.atI xs (k : Int) = some v := by
    simp only [L2.atI, L2.ixN]
    rw [if_pos (by omega), if_pos (by omega)]
    simpa using hv
  simp only [evIdx, seqOf, e, to_ok]
theorem capk0 : ([] : List PV).length ≤ cap := by simp [cap]
theorem capk1 {a : PV} : [a].length ≤ cap := by simp [cap]
theorem capk2 {a b : PV} : [a, b].length ≤ cap := by simp [cap]
theorem capk3 {a b c : PV} : [a, b, c].length ≤ cap := by simp [cap]
theorem capk4 {a b c d : PV} : [a, b, c, d].length ≤ cap := by simp [cap]
theorem capk5 {a b c d e : PV} : [a, b, c, d, e].length ≤ cap := by simp [cap]
theorem capk6 {a b c d e f : PV} : [a, b, c, d, e, f].length ≤ cap := by simp [cap]
theorem capk7 {a b c d e f g : PV} : [a, b, c, d, e, f, g].length ≤ cap := by simp [cap]
theorem capk8 {a b c d e f g h : PV} : [a, b, c, d, e, f, g, h].length ≤ cap := by simp [cap]
theorem neL {i j : Nat} {l : List Rat} (hi : At s i (l.map q)) (hj : At s j (l.map q)) : (evCmp .ne (.lst i) (.lst j) s).to Q = Q (.bl false) s := by
  have e1 : toD s 60 (.lst i) = some (.list (l.map dq)) := toD_lst hi fun a _ => toD_q
  have e2 : toD s 60 (.lst j) = some (.list (l.map dq)) := toD_lst hj fun a _ => toD_q
  have e := eq_same e1 e2 (canAll fun a _ => can_q) (dep_lst (m := 10) (fun a _ => by simp [dq, PyData.depth, PyData.depthAll]) (by decide))
  simp only [evCmp, e, to_ok]
  rfl
theorem w_eqq' {x y : Rat} (h : x = y) : (evCmp .eq (q x) (q y) s).to Q = Q (.bl true) s := by rw [w_eqq, decide_eq_true h]
theorem w_neq' {x y : Rat} (h : x = y) : (evCmp .ne (q x) (q y) s).to Q = Q (.bl false) s := by rw [w_neq, decide_eq_true h]; rfl
end
section
variable {T' : Tab} {call : Nat → List PV → Sto → Res PV} {σ : Sl} {s : Sto} {Q : PV → Sto → Prop} {P : Fl → Sto → Prop}
theorem w_dix {a b : E} (h : (ev T' call a σ s).to fun x s1 => (ev T' call b σ s1).to fun y s2 => ∃ i kvs k v, x = .dct i ∧ FI.getD s2 i = some kvs ∧ keyOf y = some k ∧ valP k kvs = some v ∧ Q v s2) : (ev T' call (.dix a b) σ s).to Q := by
  simp only [ev, to_bind]
  refine to_mono h fun x s1 h => to_mono h fun y s2 ⟨i, kvs, k, v, e1, e2, e3, e4, hq⟩ => ?_
  subst e1
  simp only [e2, e3, e4, to_ok]
  exact hq
theorem w_ddisp {a : E} (h : (ev T' call a σ s).to fun x s1 => ∃ vs kvs, x = .tup vs ∧ pairsP vs = some kvs ∧ noTwice kvs = true ∧ kvs.length ≤ 15 ∧ Q (.dct s1.n) (s1.new (.dct kvs))) : (ev T' call (.ddisp a) σ s).to Q := by
  simp only [ev, to_bind]
  refine to_mono h fun x s1 ⟨vs, kvs, e1, e2, e3, e4, hq⟩ => ?_
  subst e1
  simp only [e2, e3, Bool.true_and, decide_eq_true_eq, if_pos e4, to_ok]
  exact hq
theorem x_std {o i e : E} (h : (ev T' call e σ s).to fun v s1 => (ev T' call o σ s1).to fun x s2 => (ev T' call i σ s2).to fun y s3 => ∃ n kvs k, x = .dct n ∧ FI.getD s3 n = some kvs ∧ keyOf y = some k ∧ kvs.length < cap ∧ P (.nx σ) ⟨s3.n, put n (.dct (putP k v kvs)) s3.os⟩) : (ex T' call (.std o i e) σ s).to P := by
  simp only [ex, to_bind]
  refine to_mono h fun v s1 h => to_mono h fun x s2 h => to_mono h fun y s3 ⟨n, kvs, k, e1, e2, e3, e4, hq⟩ => ?_
  subst e1
  simp only [e2, e3, e4, if_true, to_ok]
  exact hq
theorem x_stl {o i e : E} (h : (ev T' call e σ s).to fun v s1 => (ev T' call o σ s1).to fun x s2 => (ev T' call i σ s2).to fun y s3 => ∃ n k xs ys, x = .lst n ∧ y = .int k ∧ At s3 n xs ∧ setAt xs k v = some ys ∧ P (.nx σ) ⟨s3.n, put n (.lst ys) s3.os⟩) : (ex T' call (.stl o i e) σ s).to P := by
  simp only [ex, to_bind]
  refine to_mono h fun v s1 h => to_mono h fun x s2 h => to_mono h fun y s3 ⟨n, k, xs, ys, e1, e2, e3, e4, hq⟩ => ?_
  subst e1; subst e2
  simp only [e3.getW, e4, to_ok]
  exact hq
end
section
variable {n : Nat} {s : Sto} {Q : PV → Sto → Prop}
/-! ### draws -/
def kvsOf (c l : Nat) (t : Int) : List (L2.Key × PV) := [(.inr "cells", .lst c), (.inr "lefts", .lst l), (.inr "at", .int t), (.inr "room", .int 0)]
structure St (s : Sto) (d l A : Nat) : Prop where
  ex : ∃ (c : Nat) (cells lefts : List Int) (t : Nat), look d s.os = some (.dct (kvsOf c l t)) ∧ d < s.n ∧ At s c (cells.map .int) ∧ At s l (lefts.map .int) ∧ cells.length = lefts.length ∧ 0 < cells.length ∧ t ≤ A ∧ c ≠ l ∧ c < d
theorem St.fr {s s' : Sto} {d l A : Nat} (h : St s d l A) (f : Fr [] s s') : St s' d l A := by
  obtain ⟨c, cells, lefts, t, h1, h2, h3, h4, h5⟩ := h.ex
  exact ⟨c, cells, lefts, t, (f.keep d h2 List.not_mem_nil).trans h1, Nat.lt_of_lt_of_le h2 f.le, h3.fr0 f, h4.fr0 f, h5⟩
theorem St.mono {s : Sto} {d l A B : Nat} (h : St s d l A) (hb : A ≤ B) : St s d l B := by
  obtain ⟨c, cells, lefts, t, h1, h2, h3, h4, h5, h6, h7, h8⟩ := h.ex
  exact ⟨c, cells, lefts, t, h1, h2, h3, h4, h5, h6, Nat.le_trans h7 hb, h8⟩
/-- a younger list is written -/
theorem St.putL {s : Sto} {d l A j : Nat} {o : SO} (h : St s d l A) (h1 : d < j) (h2 : l ≠ j) : St ⟨s.n, FI.put j o s.os⟩ d l A := by
  obtain ⟨c, cells, lefts, t, q1, q2, q3, q4, q5, q6, q7, q8, q9⟩ := h.ex
  exact ⟨c, cells, lefts, t, (look_put_ne (by omega)).trans q1, q2, q3.put_ne (by omega), q4.put_ne h2, q5, q6, q7, q8, q9⟩
theorem small_lt {x : Int} (h0 : 0 ≤ x) (h : x < 18446744073709551616) : x.natAbs < 2 ^ 9000 := Nat.lt_of_lt_of_le (by omega : x.natAbs < 2 ^ 64) (pow_le (by decide))
theorem val_cells {c l : Nat} {t : Int} : valP (.inr "cells") (kvsOf c l t) = some (.lst c) := rfl
theorem val_lefts {c l : Nat} {t : Int} : valP (.inr "lefts") (kvsOf c l t) = some (.lst l) := rfl
theorem val_at {c l : Nat} {t : Int} : valP (.inr "at") (kvsOf c l t) = some (.int t) := rfl
theorem put_at {c l : Nat} {t u : Int} : putP (.inr "at") (.int u) (kvsOf c l t) = kvsOf c l u := rfl
theorem setAt_nat {xs : List PV} {j : Nat} {v : PV} (h : j < xs.length) : setAt xs (j : Int) v = some (xs.set j v) := by
  simp only [setAt, L2.ixN]
  rw [if_pos (by omega), if_pos (by omega)]
  simp
theorem toD_script {i : Nat} {ns : List Int} (h : s.getL i = some (ns.map .int)) {m : Nat} : toD s (m + 2) (.lst i) = some (.list (ns.map .int)) := by
  have e : mapO (toD s (m + 1)) (ns.map PV.int) = some (ns.map .int) := mapO_map fun a _ => rfl
  show (match s.getL i with | some xs => (match mapO (toD s (m + 1)) xs with | some ds => some (PyData.list ds) | none => none) | none => none) = _
  rw [h]
  dsimp only
  rw [e]
variable {d l A : Nat}
theorem St.dl (h : St s d l A) : d < s.n ∧ l < s.n := by
  obtain ⟨c, cells, lefts, t, h1, h2, h3, h4, h5⟩ := h.ex
  exact ⟨h2, h4.2⟩
theorem cast1 {k : Nat} : (1 + (k : Int)) = ((1 + k : Nat) : Int) := by omega
theorem W_small {t : Int} {k : Nat} (h0 : k ≠ 0) (h1 : t.natAbs < 1024) (h2 : k < 1024) : W 10 (mkRat t k) := mkRat_small h0 (by simpa using h1) (by simpa using h2)
theorem b_lt {k : Nat} (h : k < 1024) : k < 2 ^ 9000 := Nat.lt_of_lt_of_le (by omega : k < 2 ^ 10) (pow_le (by decide))
end
end GI

namespace GI
open PySem FI
/-! ### comprehensions of two clauses -/
theorem turnsS_inv {α : Type} {j : It} {body : PV → Sto → Res Unit} {L : List α} {g : α → PV} {I : Sto → Prop} (J : Nat → Sto → Prop) {Q : Sto → Prop} (hs : Sees j I L g) (hI : ∀ k s, J k s → I s)
    (hb : ∀ k a s, L[k]? = some a → J k s → (body (g a) s).to fun _ s' => J (k + 1) s') (hQ : ∀ s, J L.length s → Q s) : ∀ (m k : Nat) (s : Sto), k + m = L.length → J k s → (turnsS j body m k s).to fun _ s' => Q s'
  | 0, k, s, e, h => by
    have hk := hs k s (hI _ _ h) (by omega)
    rw [List.getElem?_eq_none (by omega)] at hk
    simp only [turnsS, hk]
    refine hQ s ?_
    rw [← e]; exact h
  | m + 1, k, s, e, h => by
    have hlt : k < L.length := by omega
    have hk := hs k s (hI _ _ h) (by omega)
    rw [List.getElem?_eq_getElem hlt] at hk
    simp only [turnsS, hk, Option.map_some]
    obtain ⟨u, s1, e1, h1⟩ := to_ex (hb k L[k] s (List.getElem?_eq_getElem hlt) h)
    rw [e1]
    exact turnsS_inv J hs hI hb hQ m (k + 1) s1 (by omega) h1
section
variable {T : Tab} {call : Nat → List PV → Sto → Res PV} {σ : Sl} {s : Sto} {Q : PV → Sto → Prop}
theorem comp2_pure {α β : Type} {own : List (Str × Nat)} {tg it tg1 it1 elt : E} (L : List α) (g : α → PV) (M : α → List β) (h : β → PV) (f : α → β → PV)
    (hit : (evI T call it σ s).to fun j s1 => Fr [] s s1 ∧ j.most s1 = L.length ∧ Sees j (Fr [s1.n] (s1.new (.lst []))) L g ∧ ∀ a ∈ L, ∀ s', Fr [s1.n] (s1.new (.lst [])) s' → toSl (lay tg (g a) (wipeP σ (own.map (·.2)))) fun σ1 => (evI T call it1 σ1 s').to fun j1 s4 =>
      Fr [] s' s4 ∧ j1.most s4 = (M a).length ∧ Sees j1 (Fr [s1.n] s4) (M a) h ∧ ∀ b ∈ M a, ∀ s5, Fr [s1.n] s4 s5 → toSl (lay tg1 (h b) (wipeP σ1 (slotsT tg1))) fun σ2 => (ev T call elt σ2 s5).to fun y s6 => y = f a b ∧ Fr [] s5 s6)
    (hc : (L.flatMap M).length ≤ cap)
    (hQ : ∀ i s', Fr [] s s' → At s' i (L.flatMap fun a => (M a).map (f a)) → s.n ≤ i → Q (.lst i) s') : (ev T call (.comp2 own tg it (.bl true) tg1 it1 (.bl true) elt) σ s).to Q := by
  simp only [ev, to_bind]
  refine to_mono hit fun j s1 ⟨f1, hm, hsee, hin⟩ => ?_
  have okL : ∀ {r : Res Unit} {P : Sto → Prop}, (r.to fun _ s' => P s') → (∀ s', P s' → Q (.lst s1.n) s') → (okLst s1.n r).to Q := fun {r P} h1 h2 => by
    obtain ⟨u, s', e, h⟩ := to_ex h1
    rw [e]
    exact h2 s' h
  have hcap : ∀ k, ((L.take k).flatMap M).length ≤ cap := fun k => by
    refine Nat.le_trans ?_ hc
    conv => rhs; rw [← List.take_append_drop k L]
    rw [List.flatMap_append, List.length_append]
    omega
  have flen : ∀ l : List α, (l.flatMap fun a => (M a).map (f a)).length = (l.flatMap M).length := fun l => by
    induction l with
    | nil => rfl
    | cons a l ih => simp only [List.flatMap_cons, List.length_append, List.length_map, ih]
  rw [hm]
  refine okL (P := fun s' => Fr [s1.n] (s1.new (.lst [])) s' ∧ At s' s1.n (L.flatMap fun a => (M a).map (f a))) ?_ fun s' ⟨h1, h2⟩ => hQ _ s' ((f1.trans .new).drop (h1) f1.le) h2 f1.le
  refine turnsS_inv (fun k s' => Fr [s1.n] (s1.new (.lst [])) s' ∧ At s' s1.n ((L.take k).flatMap fun a => (M a).map (f a))) hsee (fun k s' h => h.1) (fun k a s' ha ⟨g1, g2⟩ => ?_) (fun s' h => by rw [List.take_length] at h; exact h) L.length 0 _ (by omega) ⟨.refl, .new⟩
  have hin' := hin a (List.mem_of_getElem? ha) s' g1
  cases el : lay tg (g a) (wipeP σ (own.map (·.2))) with
  | none => rw [el] at hin'; exact hin'.elim
  | some σ1 =>
    rw [el] at hin'
    simp only [toSl_some] at hin'
    simp only [stepO, ev]
    obtain ⟨j1, s4, e4, f4, hm1, hsee1, hel⟩ := to_ex hin'
    simp only [e4, hm1]
    have hk : ((L.take (k + 1)).flatMap M).length = ((L.take k).flatMap M).length + (M a).length := by
      rw [List.take_add_one, ha, Option.toList_some, List.flatMap_append, List.length_append]; simp
    refine turnsS_inv (fun m s5 => Fr [s1.n] s4 s5 ∧ At s5 s1.n (((L.take k).flatMap fun a => (M a).map (f a)) ++ ((M a).take m).map (f a))) hsee1 (fun _ _ h => h.1) (fun m b s5 hb ⟨k1, k2⟩ => ?_) (fun s5 ⟨k1, k2⟩ => ⟨(g1.trans f4.wide).trans k1, ?_⟩) _ 0 _ (by omega) ⟨.refl, by simpa using g2.fr0 f4⟩
    · have hel' := hel b (List.mem_of_getElem? hb) s5 k1
      cases el2 : lay tg1 (h b) (wipeP σ1 (slotsT tg1)) with
      | none => rw [el2] at hel'; exact hel'.elim
      | some σ2 =>
        rw [el2] at hel'
        simp only [toSl_some] at hel'
        obtain ⟨y, s6, e6, ey, f6⟩ := to_ex hel'
        subst ey
        have k3 := k2.fr0 f6
        have hml : m < (M a).length := (List.getElem?_eq_some_iff.mp hb).1
        have hlen : ((((L.take k).flatMap fun a => (M a).map (f a)) ++ ((M a).take m).map (f a))).length < cap := by
          have := hcap (k + 1)
          rw [List.length_append, flen, List.length_map, List.length_take]
          omega
        simp only [stepU, ev, e6, addTo, k3.getW, if_pos hlen]
        refine ⟨(k1.trans f6.wide).put (.inl (by simp)), ?_⟩
        have e7 : (((L.take k).flatMap fun a => (M a).map (f a)) ++ ((M a).take (m + 1)).map (f a)) = (((L.take k).flatMap fun a => (M a).map (f a)) ++ ((M a).take m).map (f a)) ++ [f a b] := by
          rw [List.take_add_one, hb, Option.toList_some, List.map_append, List.append_assoc]; rfl
        rw [e7]
        exact k3.put
    · rw [List.take_length] at k2
      rw [List.take_add_one, ha, Option.toList_some, List.flatMap_append]
      simpa using k2
end
/-! ### walks told behind the iterable -/
section
variable {T : Tab} {call : Nat → List PV → Sto → Res PV} {σ : Sl} {s : Sto} {Q : PV → Sto → Prop}
theorem x_for2 {g' it b : E} {P : Fl → Sto → Prop} (hit : (evI T call it σ s).to fun j s1 => ∃ (α : Type) (L : List α) (g : α → PV) (I : Sto → Prop) (J : Nat → Sl → Sto → Prop), j.most s1 = L.length ∧ Sees j I L g ∧ J 0 σ s1 ∧ (∀ k σ s, J k σ s → I s) ∧
    (∀ k a σ s, L[k]? = some a → J k σ s → toSl (lay g' (g a) σ) fun σ1 => (ex T call b σ1 s).to (onTurn P (J (k + 1)))) ∧ (∀ σ s, J L.length σ s → P (.nx σ) s)) : (ex T call (.sfor g' it b) σ s).to P := by
  rw [x_sfor]
  refine to_mono hit fun j s1 ⟨α, L, g, I, J, hm, hs, hJ, hI, hb, hQ⟩ => ?_
  rw [hm]
  exact for_inv J hs hI hb hQ L.length 0 σ s1 (by omega) hJ
theorem comp_inv2 {own : List (Str × Nat)} {tg it c elt : E} (hit : (evI T call it σ s).to fun j s1 => ∃ (α : Type) (L : List α) (g : α → PV) (I : Sto → Prop) (J : Nat → List PV → Sto → Prop), j.most s1 = L.length ∧ Sees j I L g ∧ J 0 [] s1 ∧ (∀ k acc s, J k acc s → I s ∧ acc.length ≤ k) ∧ L.length ≤ cap ∧
    (∀ k a acc s, L[k]? = some a → J k acc s → Turn T call tg c elt (wipeP σ (own.map (·.2))) (g a) s fun y s' => J (k + 1) (acc ++ y.toList) s') ∧ (∀ acc s', J L.length acc s' → Q (.lst s'.n) (s'.new (.lst acc)))) : (ev T call (.comp own tg it c elt) σ s).to Q := by
  obtain ⟨j, s1, e, α, L, g, I, J, hm, hs, hJ, hI, hc, hb, hQ⟩ := to_ex hit
  exact comp_inv L g I J (to_eq e ⟨hm, hs, hJ⟩) hI hc hb hQ
end
/-! ### repr -/
section
variable {s : Sto} {Q : PV → Sto → Prop} {a : Rat}
theorem w_repr {x : PV} {d : PyData} (h1 : toD s 60 x = some d) (h2 : okR d = true) (h3 : wid d ≤ 16000000) (h4 : d.depth ≤ 60) : (evBlt .repr [x] s).to Q = Q (.rep d) s := by
  simp only [evBlt, h1, h2, h3, h4, decide_true, Bool.and_self, if_true, to_ok]
theorem okR_q (h : W 1900 a) : okR (dq a) = true := by
  have h1 := log2_lt h.num (by decide)
  have h2 := log2_lt h.den (by decide)
  simp only [dq, okR, okRs, Bool.and_true, Bool.and_eq_true, decide_eq_true_eq, Int.natAbs_natCast]
  exact ⟨by omega, by omega⟩
theorem wid_q : wid (dq a) = 3850 := rfl
theorem dep_q : (dq a).depth = 1 := rfl
theorem repr_q (h : W 1900 a) : (evBlt .repr [q a] s).to Q = Q (.rep (dq a)) s := w_repr rfl (okR_q h) (by rw [wid_q]; decide) (by rw [dep_q]; decide)
theorem rep_ne {d : PyData} (h : okR d = true) : (evCmp .ne (.rep d) (.rep d) s).to Q = Q (.bl false) s := by
  simp only [evCmp, eqP, isRep, sameD_refl d h, if_true, to_ok, Bool.not_true]
theorem rep_eq {d : PyData} (h : okR d = true) : (evCmp .eq (.rep d) (.rep d) s).to Q = Q (.bl true) s := by
  simp only [evCmp, eqP, isRep, sameD_refl d h, if_true, to_ok]
end
end GI

namespace K39
open PySem FI GI
theorem common_ok {n : Nat} {a b : Int} {s : Sto} (hb : b.natAbs < 2 ^ 9000) : runF T (n + 1) f_common [.int a, .int b] s = .ok (.int (Int.gcd a b : Nat)) s := by
  have hf : T.fuel = 2 ^ 9000 := rfl
  refine run_pu d_common rfl rfl rfl ?_
  simp only [c_common, w_int, w_bl, w_non, w_no, w_str, w_nil, w_one, w_var, toVar_some, w_glob, toGl_some, toTup_tup, toBl_true, toBl_false, w_cons, w_tup, w_lst, w_bin, w_cmp, w_chain, w_not, w_and, w_or, w_ife, toInt_int, w_neg, w_idx, w_slice, w_isi, w_call, w_call0, w_meth, w_blt, toSeq_tup, w_star, w_rev, onNx_nx, onNx_rt, onNx_ct, x_skip, x_seq, toSl_some, x_set, x_setC, x_par, x_ret, x_expr, x_cont, x_sif, onRt_rt, onRt_nx, onTurn_nx, onTurn_ct, onTurn_rt, lay, layN, List.map_cons, List.map_nil, List.getElem?_cons_zero, List.getElem?_cons_succ, Nat.sub_self, List.replicate_zero, List.replicate_succ, List.append_nil, List.cons_append, List.nil_append, List.set_cons_zero, List.set_cons_succ, Nat.reduceSub, to_ok, wipeP, true_and, w_abs]
  rw [x_whl, hf, gcd_loop rfl rfl _ _ _ _ hb]
  simp only [w_int, w_bl, w_non, w_no, w_str, w_nil, w_one, w_var, toVar_some, w_glob, toGl_some, toTup_tup, toBl_true, toBl_false, w_cons, w_tup, w_lst, w_bin, w_cmp, w_chain, w_not, w_and, w_or, w_ife, toInt_int, w_neg, w_idx, w_slice, w_isi, w_call, w_call0, w_meth, w_blt, toSeq_tup, w_star, w_rev, onNx_nx, onNx_rt, onNx_ct, x_skip, x_seq, toSl_some, x_set, x_setC, x_par, x_ret, x_expr, x_cont, x_sif, onRt_rt, onRt_nx, onTurn_nx, onTurn_ct, onTurn_rt, lay, layN, List.map_cons, List.map_nil, List.getElem?_cons_zero, List.getElem?_cons_succ, Nat.sub_self, List.replicate_zero, List.replicate_succ, List.append_nil, List.cons_append, List.nil_append, List.set_cons_zero, List.set_cons_succ, Nat.reduceSub, to_ok, wipeP, true_and]
  rfl
theorem made_ok {n : Nat} {t : Int} {b : Nat} {s : Sto} (h0 : b ≠ 0) (hb : b < 2 ^ 9000) : runF T (n + 2) f_made [.int t, .int (b : Int)] s = .ok (q (mkRat t b)) s := by
  have hg : Int.gcd t b < 2 ^ 9000 := Nat.lt_of_le_of_lt (Nat.gcd_le_right _ (Nat.pos_of_ne_zero h0)) (by simpa using hb)
  have hg0 : 0 < Int.gcd t b := Nat.gcd_pos_of_pos_right _ (by simpa using Nat.pos_of_ne_zero h0)
  have hn : ¬ ((b : Int) < 0) := by omega
  have hz : (0 : Int) < (Int.gcd t b : Nat) := by omega
  have e : (q (mkRat t b)) = .tup [.int (t / (Int.gcd t b : Nat)), .int ((b : Int) / (Int.gcd t b : Nat))] := by
    rw [← Rat.normalize_eq_mkRat h0, Rat.normalize_eq h0]
    simp only [q, Int.gcd, Int.natAbs_natCast, Int.natCast_ediv]
  refine run_pu d_made rfl rfl rfl ?_
  simp only [c_made, w_int, w_bl, w_non, w_no, w_str, w_nil, w_one, w_var, toVar_some, w_glob, toGl_some, toTup_tup, toBl_true, toBl_false, w_cons, w_tup, w_lst, w_bin, w_cmp, w_chain, w_not, w_and, w_or, w_ife, toInt_int, w_neg, w_idx, w_slice, w_isi, w_call, w_call0, w_meth, w_blt, toSeq_tup, w_star, w_rev, onNx_nx, onNx_rt, onNx_ct, x_skip, x_seq, toSl_some, x_set, x_setC, x_par, x_ret, x_expr, x_cont, x_sif, onRt_rt, onRt_nx, onTurn_nx, onTurn_ct, onTurn_rt, lay, layN, List.map_cons, List.map_nil, List.getElem?_cons_zero, List.getElem?_cons_succ, Nat.sub_self, List.replicate_zero, List.replicate_succ, List.append_nil, List.cons_append, List.nil_append, List.set_cons_zero, List.set_cons_succ, Nat.reduceSub, to_ok, wipeP, true_and, w_lt, hn, decide_false, common_ok (a := t) (b := (b : Int)) (by simpa using hb), w_fdiv hz (by simpa using hg)]
  exact ⟨by simp [cap], e.symm⟩
section
variable {n : Nat} {a b : Rat} {s : Sto}
theorem add_ok (ha : W 4000 a) (hb : W 4000 b) : runF T (n + 3) f_add [q a, q b] s = .ok (q (a + b)) s := by
  have h1 := ha.mono (by decide : 4000 ≤ 9000)
  have h2 := hb.mono (by decide : 4000 ≤ 9000)
  refine run_pu d_add rfl rfl rfl ?_
  simp only [c_add, w_int, w_bl, w_non, w_no, w_str, w_nil, w_one, w_var, toVar_some, w_glob, toGl_some, toTup_tup, toBl_true, toBl_false, w_cons, w_tup, w_lst, w_bin, w_cmp, w_chain, w_not, w_and, w_or, w_ife, toInt_int, w_neg, w_idx, w_slice, w_isi, w_call, w_call0, w_meth, w_blt, toSeq_tup, w_star, w_rev, onNx_nx, onNx_rt, onNx_ct, x_skip, x_seq, toSl_some, x_set, x_setC, x_par, x_ret, x_expr, x_cont, x_sif, onRt_rt, onRt_nx, onTurn_nx, onTurn_ct, onTurn_rt, lay, layN, List.map_cons, List.map_nil, List.getElem?_cons_zero, List.getElem?_cons_succ, Nat.sub_self, List.replicate_zero, List.replicate_succ, List.append_nil, List.cons_append, List.nil_append, List.set_cons_zero, List.set_cons_succ, Nat.reduceSub, to_ok, wipeP, true_and, q_num, q_den, w_mul h1.num (b := (b.den : Int)) (by simpa using h2.den), w_mul h2.num (b := (a.den : Int)) (by simpa using h1.den), w_mul (a := (a.den : Int)) (by simpa using h1.den) (b := (b.den : Int)) (by simpa using h2.den), w_add]
  rw [← Int.natCast_mul, made_ok (Nat.mul_ne_zero a.den_nz b.den_nz) (bound_den ha hb), to_ok, ← Rat.add_def']
theorem sub_ok (ha : W 4000 a) (hb : W 4000 b) : runF T (n + 3) f_sub [q a, q b] s = .ok (q (a - b)) s := by
  have h1 := ha.mono (by decide : 4000 ≤ 9000)
  have h2 := hb.mono (by decide : 4000 ≤ 9000)
  refine run_pu d_sub rfl rfl rfl ?_
  simp only [c_sub, w_int, w_bl, w_non, w_no, w_str, w_nil, w_one, w_var, toVar_some, w_glob, toGl_some, toTup_tup, toBl_true, toBl_false, w_cons, w_tup, w_lst, w_bin, w_cmp, w_chain, w_not, w_and, w_or, w_ife, toInt_int, w_neg, w_idx, w_slice, w_isi, w_call, w_call0, w_meth, w_blt, toSeq_tup, w_star, w_rev, onNx_nx, onNx_rt, onNx_ct, x_skip, x_seq, toSl_some, x_set, x_setC, x_par, x_ret, x_expr, x_cont, x_sif, onRt_rt, onRt_nx, onTurn_nx, onTurn_ct, onTurn_rt, lay, layN, List.map_cons, List.map_nil, List.getElem?_cons_zero, List.getElem?_cons_succ, Nat.sub_self, List.replicate_zero, List.replicate_succ, List.append_nil, List.cons_append, List.nil_append, List.set_cons_zero, List.set_cons_succ, Nat.reduceSub, to_ok, wipeP, true_and, q_num, q_den, w_mul h1.num (b := (b.den : Int)) (by simpa using h2.den), w_mul h2.num (b := (a.den : Int)) (by simpa using h1.den), w_mul (a := (a.den : Int)) (by simpa using h1.den) (b := (b.den : Int)) (by simpa using h2.den), w_sub]
  rw [← Int.natCast_mul, made_ok (Nat.mul_ne_zero a.den_nz b.den_nz) (bound_den ha hb), to_ok, ← Rat.sub_def']
theorem mul_ok (ha : W 4000 a) (hb : W 4000 b) : runF T (n + 3) f_mul [q a, q b] s = .ok (q (a * b)) s := by
  have h1 := ha.mono (by decide : 4000 ≤ 9000)
  have h2 := hb.mono (by decide : 4000 ≤ 9000)
  refine run_pu d_mul rfl rfl rfl ?_
  simp only [c_mul, w_int, w_bl, w_non, w_no, w_str, w_nil, w_one, w_var, toVar_some, w_glob, toGl_some, toTup_tup, toBl_true, toBl_false, w_cons, w_tup, w_lst, w_bin, w_cmp, w_chain, w_not, w_and, w_or, w_ife, toInt_int, w_neg, w_idx, w_slice, w_isi, w_call, w_call0, w_meth, w_blt, toSeq_tup, w_star, w_rev, onNx_nx, onNx_rt, onNx_ct, x_skip, x_seq, toSl_some, x_set, x_setC, x_par, x_ret, x_expr, x_cont, x_sif, onRt_rt, onRt_nx, onTurn_nx, onTurn_ct, onTurn_rt, lay, layN, List.map_cons, List.map_nil, List.getElem?_cons_zero, List.getElem?_cons_succ, Nat.sub_self, List.replicate_zero, List.replicate_succ, List.append_nil, List.cons_append, List.nil_append, List.set_cons_zero, List.set_cons_succ, Nat.reduceSub, to_ok, wipeP, true_and, q_num, q_den, w_mul h1.num h2.num, w_mul (a := (a.den : Int)) (by simpa using h1.den) (b := (b.den : Int)) (by simpa using h2.den)]
  rw [← Int.natCast_mul, made_ok (Nat.mul_ne_zero a.den_nz b.den_nz) (bound_den ha hb), to_ok, ← Rat.mul_def']
theorem under_ok (ha : W 4000 a) (hb : W 4000 b) : runF T (n + 1) f_is_under [q a, q b] s = .ok (.bl (decide (a < b))) s := by
  have h1 := ha.mono (by decide : 4000 ≤ 9000)
  have h2 := hb.mono (by decide : 4000 ≤ 9000)
  refine run_pu d_is_under rfl rfl rfl ?_
  simp only [c_is_under, w_int, w_bl, w_non, w_no, w_str, w_nil, w_one, w_var, toVar_some, w_glob, toGl_some, toTup_tup, toBl_true, toBl_false, w_cons, w_tup, w_lst, w_bin, w_cmp, w_chain, w_not, w_and, w_or, w_ife, toInt_int, w_neg, w_idx, w_slice, w_isi, w_call, w_call0, w_meth, w_blt, toSeq_tup, w_star, w_rev, onNx_nx, onNx_rt, onNx_ct, x_skip, x_seq, toSl_some, x_set, x_setC, x_par, x_ret, x_expr, x_cont, x_sif, onRt_rt, onRt_nx, onTurn_nx, onTurn_ct, onTurn_rt, lay, layN, List.map_cons, List.map_nil, List.getElem?_cons_zero, List.getElem?_cons_succ, Nat.sub_self, List.replicate_zero, List.replicate_succ, List.append_nil, List.cons_append, List.nil_append, List.set_cons_zero, List.set_cons_succ, Nat.reduceSub, to_ok, wipeP, true_and, q_num, q_den, w_mul h1.num (b := (b.den : Int)) (by simpa using h2.den), w_mul h2.num (b := (a.den : Int)) (by simpa using h1.den), w_lt]
  rw [← (decide_eq_decide.mpr (Rat.lt_iff a b))]
theorem ratio_ok {t : Int} {b : Nat} (h0 : b ≠ 0) (hb : b < 2 ^ 9000) : runF T (n + 1) f__law_ratio [.int t, .int (b : Int)] s = .ok (q (mkRat t b)) s := by
  have hf : T.fuel = 2 ^ 9000 := rfl
  have hg : Nat.gcd t.natAbs b < 2 ^ 9000 := Nat.lt_of_le_of_lt (Nat.gcd_le_right _ (Nat.pos_of_ne_zero h0)) hb
  have hg0 : 0 < Nat.gcd t.natAbs b := Nat.gcd_pos_of_pos_right _ (Nat.pos_of_ne_zero h0)
  have hz : (0 : Int) < (Nat.gcd t.natAbs b : Nat) := by omega
  have e : (q (mkRat t b)) = .tup [.int (t / (Nat.gcd t.natAbs b : Nat)), .int ((b : Int) / (Nat.gcd t.natAbs b : Nat))] := by
    rw [← Rat.normalize_eq_mkRat h0, Rat.normalize_eq h0]
    simp only [q, Int.natCast_ediv]
  refine run_pu d__law_ratio rfl rfl rfl ?_
  simp only [c__law_ratio, w_int, w_bl, w_non, w_no, w_str, w_nil, w_one, w_var, toVar_some, w_glob, toGl_some, toTup_tup, toBl_true, toBl_false, w_cons, w_tup, w_lst, w_bin, w_cmp, w_chain, w_not, w_and, w_or, w_ife, toInt_int, w_neg, w_idx, w_slice, w_isi, w_call, w_call0, w_meth, w_blt, toSeq_tup, w_star, w_rev, onNx_nx, onNx_rt, onNx_ct, x_skip, x_seq, toSl_some, x_set, x_setC, x_par, x_ret, x_expr, x_cont, x_sif, onRt_rt, onRt_nx, onTurn_nx, onTurn_ct, onTurn_rt, lay, layN, List.map_cons, List.map_nil, List.getElem?_cons_zero, List.getElem?_cons_succ, Nat.sub_self, List.replicate_zero, List.replicate_succ, List.append_nil, List.cons_append, List.nil_append, List.set_cons_zero, List.set_cons_succ, Nat.reduceSub, to_ok, wipeP, true_and, w_abs]
  rw [x_whl, hf, gcd_loop2 rfl rfl _ _ _ _ hb]
  simp only [w_int, w_bl, w_non, w_no, w_str, w_nil, w_one, w_var, toVar_some, w_glob, toGl_some, toTup_tup, toBl_true, toBl_false, w_cons, w_tup, w_lst, w_bin, w_cmp, w_chain, w_not, w_and, w_or, w_ife, toInt_int, w_neg, w_idx, w_slice, w_isi, w_call, w_call0, w_meth, w_blt, toSeq_tup, w_star, w_rev, onNx_nx, onNx_rt, onNx_ct, x_skip, x_seq, toSl_some, x_set, x_setC, x_par, x_ret, x_expr, x_cont, x_sif, onRt_rt, onRt_nx, onTurn_nx, onTurn_ct, onTurn_rt, lay, layN, List.map_cons, List.map_nil, List.getElem?_cons_zero, List.getElem?_cons_succ, Nat.sub_self, List.replicate_zero, List.replicate_succ, List.append_nil, List.cons_append, List.nil_append, List.set_cons_zero, List.set_cons_succ, Nat.reduceSub, to_ok, wipeP, true_and, w_fdiv hz (by simpa using hg)]
  exact ⟨by simp [cap], e.symm⟩
theorem plus_ok (ha : W 4000 a) (hb : W 4000 b) : runF T (n + 2) f__law_plus [q a, q b] s = .ok (q (a + b)) s := by
  have h1 := ha.mono (by decide : 4000 ≤ 9000)
  have h2 := hb.mono (by decide : 4000 ≤ 9000)
  refine run_pu d__law_plus rfl rfl rfl ?_
  simp only [c__law_plus, w_int, w_bl, w_non, w_no, w_str, w_nil, w_one, w_var, toVar_some, w_glob, toGl_some, toTup_tup, toBl_true, toBl_false, w_cons, w_tup, w_lst, w_bin, w_cmp, w_chain, w_not, w_and, w_or, w_ife, toInt_int, w_neg, w_idx, w_slice, w_isi, w_call, w_call0, w_meth, w_blt, toSeq_tup, w_star, w_rev, onNx_nx, onNx_rt, onNx_ct, x_skip, x_seq, toSl_some, x_set, x_setC, x_par, x_ret, x_expr, x_cont, x_sif, onRt_rt, onRt_nx, onTurn_nx, onTurn_ct, onTurn_rt, lay, layN, List.map_cons, List.map_nil, List.getElem?_cons_zero, List.getElem?_cons_succ, Nat.sub_self, List.replicate_zero, List.replicate_succ, List.append_nil, List.cons_append, List.nil_append, List.set_cons_zero, List.set_cons_succ, Nat.reduceSub, to_ok, wipeP, true_and, q_num, q_den, w_mul h1.num (b := (b.den : Int)) (by simpa using h2.den), w_mul h2.num (b := (a.den : Int)) (by simpa using h1.den), w_mul (a := (a.den : Int)) (by simpa using h1.den) (b := (b.den : Int)) (by simpa using h2.den), w_add]
  rw [← Int.natCast_mul, ratio_ok (Nat.mul_ne_zero a.den_nz b.den_nz) (bound_den ha hb), to_ok, ← Rat.add_def']
theorem less_ok (ha : W 4000 a) (hb : W 4000 b) : runF T (n + 2) f__law_less [q a, q b] s = .ok (q (a - b)) s := by
  have h1 := ha.mono (by decide : 4000 ≤ 9000)
  have h2 := hb.mono (by decide : 4000 ≤ 9000)
  refine run_pu d__law_less rfl rfl rfl ?_
  simp only [c__law_less, w_int, w_bl, w_non, w_no, w_str, w_nil, w_one, w_var, toVar_some, w_glob, toGl_some, toTup_tup, toBl_true, toBl_false, w_cons, w_tup, w_lst, w_bin, w_cmp, w_chain, w_not, w_and, w_or, w_ife, toInt_int, w_neg, w_idx, w_slice, w_isi, w_call, w_call0, w_meth, w_blt, toSeq_tup, w_star, w_rev, onNx_nx, onNx_rt, onNx_ct, x_skip, x_seq, toSl_some, x_set, x_setC, x_par, x_ret, x_expr, x_cont, x_sif, onRt_rt, onRt_nx, onTurn_nx, onTurn_ct, onTurn_rt, lay, layN, List.map_cons, List.map_nil, List.getElem?_cons_zero, List.getElem?_cons_succ, Nat.sub_self, List.replicate_zero, List.replicate_succ, List.append_nil, List.cons_append, List.nil_append, List.set_cons_zero, List.set_cons_succ, Nat.reduceSub, to_ok, wipeP, true_and, q_num, q_den, w_mul h1.num (b := (b.den : Int)) (by simpa using h2.den), w_mul h2.num (b := (a.den : Int)) (by simpa using h1.den), w_mul (a := (a.den : Int)) (by simpa using h1.den) (b := (b.den : Int)) (by simpa using h2.den), w_sub]
  rw [← Int.natCast_mul, ratio_ok (Nat.mul_ne_zero a.den_nz b.den_nz) (bound_den ha hb), to_ok, ← Rat.sub_def']
theorem times_ok (ha : W 4000 a) (hb : W 4000 b) : runF T (n + 2) f__law_times [q a, q b] s = .ok (q (a * b)) s := by
  have h1 := ha.mono (by decide : 4000 ≤ 9000)
  have h2 := hb.mono (by decide : 4000 ≤ 9000)
  refine run_pu d__law_times rfl rfl rfl ?_
  simp only [c__law_times, w_int, w_bl, w_non, w_no, w_str, w_nil, w_one, w_var, toVar_some, w_glob, toGl_some, toTup_tup, toBl_true, toBl_false, w_cons, w_tup, w_lst, w_bin, w_cmp, w_chain, w_not, w_and, w_or, w_ife, toInt_int, w_neg, w_idx, w_slice, w_isi, w_call, w_call0, w_meth, w_blt, toSeq_tup, w_star, w_rev, onNx_nx, onNx_rt, onNx_ct, x_skip, x_seq, toSl_some, x_set, x_setC, x_par, x_ret, x_expr, x_cont, x_sif, onRt_rt, onRt_nx, onTurn_nx, onTurn_ct, onTurn_rt, lay, layN, List.map_cons, List.map_nil, List.getElem?_cons_zero, List.getElem?_cons_succ, Nat.sub_self, List.replicate_zero, List.replicate_succ, List.append_nil, List.cons_append, List.nil_append, List.set_cons_zero, List.set_cons_succ, Nat.reduceSub, to_ok, wipeP, true_and, q_num, q_den, w_mul h1.num h2.num, w_mul (a := (a.den : Int)) (by simpa using h1.den) (b := (b.den : Int)) (by simpa using h2.den)]
  rw [← Int.natCast_mul, ratio_ok (Nat.mul_ne_zero a.den_nz b.den_nz) (bound_den ha hb), to_ok, ← Rat.mul_def']
theorem over_ok (ha : W 4000 a) (hb : W 4000 b) (h : 0 < b) : runF T (n + 2) f__law_over [q a, q b] s = .ok (q (a / b)) s := by
  have h1 := ha.mono (by decide : 4000 ≤ 9000)
  have h2 := hb.mono (by decide : 4000 ≤ 9000)
  have hn := num_pos h
  refine run_pu d__law_over rfl rfl rfl ?_
  simp only [c__law_over, w_int, w_bl, w_non, w_no, w_str, w_nil, w_one, w_var, toVar_some, w_glob, toGl_some, toTup_tup, toBl_true, toBl_false, w_cons, w_tup, w_lst, w_bin, w_cmp, w_chain, w_not, w_and, w_or, w_ife, toInt_int, w_neg, w_idx, w_slice, w_isi, w_call, w_call0, w_meth, w_blt, toSeq_tup, w_star, w_rev, onNx_nx, onNx_rt, onNx_ct, x_skip, x_seq, toSl_some, x_set, x_setC, x_par, x_ret, x_expr, x_cont, x_sif, onRt_rt, onRt_nx, onTurn_nx, onTurn_ct, onTurn_rt, lay, layN, List.map_cons, List.map_nil, List.getElem?_cons_zero, List.getElem?_cons_succ, Nat.sub_self, List.replicate_zero, List.replicate_succ, List.append_nil, List.cons_append, List.nil_append, List.set_cons_zero, List.set_cons_succ, Nat.reduceSub, to_ok, wipeP, true_and, q_num, q_den, w_mul h1.num (b := (b.den : Int)) (by simpa using h2.den), w_mul (a := (a.den : Int)) (by simpa using h1.den) h2.num]
  have e : (a.den : Int) * b.num = ((a.den * b.num.natAbs : Nat) : Int) := by
    rw [Int.natCast_mul, Int.natAbs_of_nonneg (by omega)]
  rw [e, ratio_ok (Nat.mul_ne_zero a.den_nz (by omega)) (Nat.lt_of_lt_of_le (mul_lt_pow ha.den hb.num) (pow_le (by decide))), to_ok, ← div_mk h]
theorem lunder_ok (ha : W 4000 a) (hb : W 4000 b) : runF T (n + 1) f__law_under [q a, q b] s = .ok (.bl (decide (a < b))) s := by
  have h1 := ha.mono (by decide : 4000 ≤ 9000)
  have h2 := hb.mono (by decide : 4000 ≤ 9000)
  refine run_pu d__law_under rfl rfl rfl ?_
  simp only [c__law_under, w_int, w_bl, w_non, w_no, w_str, w_nil, w_one, w_var, toVar_some, w_glob, toGl_some, toTup_tup, toBl_true, toBl_false, w_cons, w_tup, w_lst, w_bin, w_cmp, w_chain, w_not, w_and, w_or, w_ife, toInt_int, w_neg, w_idx, w_slice, w_isi, w_call, w_call0, w_meth, w_blt, toSeq_tup, w_star, w_rev, onNx_nx, onNx_rt, onNx_ct, x_skip, x_seq, toSl_some, x_set, x_setC, x_par, x_ret, x_expr, x_cont, x_sif, onRt_rt, onRt_nx, onTurn_nx, onTurn_ct, onTurn_rt, lay, layN, List.map_cons, List.map_nil, List.getElem?_cons_zero, List.getElem?_cons_succ, Nat.sub_self, List.replicate_zero, List.replicate_succ, List.append_nil, List.cons_append, List.nil_append, List.set_cons_zero, List.set_cons_succ, Nat.reduceSub, to_ok, wipeP, true_and, q_num, q_den, w_mul h1.num (b := (b.den : Int)) (by simpa using h2.den), w_mul h2.num (b := (a.den : Int)) (by simpa using h1.den), w_lt]
  rw [← (decide_eq_decide.mpr (Rat.lt_iff a b))]
theorem sum_ok {i k : Nat} {l : List Rat} (hi : At s i (l.map q)) (hw : ∀ x ∈ l, W k x) (hk : k ≤ 4000) (hl : 1 + l.length * (k + 1) ≤ 4000) : runF T (n + 4) f_sum_in [.lst i] s = .ok (q (S l)) s := by
  refine eq_of_to fun Q hQ => run_to d_sum_in rfl ?_
  simp only [c_sum_in, w_int, w_bl, w_non, w_no, w_str, w_nil, w_one, w_var, toVar_some, w_glob, toGl_some, toTup_tup, toBl_true, toBl_false, w_cons, w_tup, w_lst, w_bin, w_cmp, w_chain, w_not, w_and, w_or, w_ife, toInt_int, w_neg, w_idx, w_slice, w_isi, w_call, w_call0, w_meth, w_blt, toSeq_tup, w_star, w_rev, onNx_nx, onNx_rt, onNx_ct, x_skip, x_seq, toSl_some, x_set, x_setC, x_par, x_ret, x_expr, x_cont, x_sif, onRt_rt, onRt_nx, onTurn_nx, onTurn_ct, onTurn_rt, lay, layN, List.map_cons, List.map_nil, List.getElem?_cons_zero, List.getElem?_cons_succ, Nat.sub_self, List.replicate_zero, List.replicate_succ, List.append_nil, List.cons_append, List.nil_append, List.set_cons_zero, List.set_cons_succ, Nat.reduceSub, to_ok, wipeP, true_and]
  refine x_for l q (fun s' => s' = s) (fun k σ s' => s' = s ∧ ∃ o, σ = [some (.lst i), some (q (S (l.take k))), o]) ?_ (fun k σ s' h => h.1) (fun k x σ s' hx ⟨e, o, eσ⟩ => ?_) (fun σ s' ⟨e, o, eσ⟩ => ?_)
  · simp only [j_seq, w_int, w_bl, w_non, w_no, w_str, w_nil, w_one, w_var, toVar_some, w_glob, toGl_some, toTup_tup, toBl_true, toBl_false, w_cons, w_tup, w_lst, w_bin, w_cmp, w_chain, w_not, w_and, w_or, w_ife, toInt_int, w_neg, w_idx, w_slice, w_isi, w_call, w_call0, w_meth, w_blt, toSeq_tup, w_star, w_rev, onNx_nx, onNx_rt, onNx_ct, x_skip, x_seq, toSl_some, x_set, x_setC, x_par, x_ret, x_expr, x_cont, x_sif, onRt_rt, onRt_nx, onTurn_nx, onTurn_ct, onTurn_rt, lay, layN, List.map_cons, List.map_nil, List.getElem?_cons_zero, List.getElem?_cons_succ, Nat.sub_self, List.replicate_zero, List.replicate_succ, List.append_nil, List.cons_append, List.nil_append, List.set_cons_zero, List.set_cons_succ, Nat.reduceSub, to_ok, wipeP, true_and]
    exact ⟨_, hi.getL, by simp [It.most, hi.getL], sees_l (fun s' e => e ▸ hi), none, rfl⟩
  · subst e; subst eσ
    have hm := List.mem_of_getElem? hx
    simp only [w_int, w_bl, w_non, w_no, w_str, w_nil, w_one, w_var, toVar_some, w_glob, toGl_some, toTup_tup, toBl_true, toBl_false, w_cons, w_tup, w_lst, w_bin, w_cmp, w_chain, w_not, w_and, w_or, w_ife, toInt_int, w_neg, w_idx, w_slice, w_isi, w_call, w_call0, w_meth, w_blt, toSeq_tup, w_star, w_rev, onNx_nx, onNx_rt, onNx_ct, x_skip, x_seq, toSl_some, x_set, x_setC, x_par, x_ret, x_expr, x_cont, x_sif, onRt_rt, onRt_nx, onTurn_nx, onTurn_ct, onTurn_rt, lay, layN, List.map_cons, List.map_nil, List.getElem?_cons_zero, List.getElem?_cons_succ, Nat.sub_self, List.replicate_zero, List.replicate_succ, List.append_nil, List.cons_append, List.nil_append, List.set_cons_zero, List.set_cons_succ, Nat.reduceSub, to_ok, wipeP, true_and]
    have h1 : W 4000 (S (l.take k)) := W_St (m := l.length) (fun y hy => hw y (List.mem_of_mem_take hy)) (by simp; omega) hl
    rw [add_ok h1 ((hw x hm).mono hk)]
    simp only [w_int, w_bl, w_non, w_no, w_str, w_nil, w_one, w_var, toVar_some, w_glob, toGl_some, toTup_tup, toBl_true, toBl_false, w_cons, w_tup, w_lst, w_bin, w_cmp, w_chain, w_not, w_and, w_or, w_ife, toInt_int, w_neg, w_idx, w_slice, w_isi, w_call, w_call0, w_meth, w_blt, toSeq_tup, w_star, w_rev, onNx_nx, onNx_rt, onNx_ct, x_skip, x_seq, toSl_some, x_set, x_setC, x_par, x_ret, x_expr, x_cont, x_sif, onRt_rt, onRt_nx, onTurn_nx, onTurn_ct, onTurn_rt, lay, layN, List.map_cons, List.map_nil, List.getElem?_cons_zero, List.getElem?_cons_succ, Nat.sub_self, List.replicate_zero, List.replicate_succ, List.append_nil, List.cons_append, List.nil_append, List.set_cons_zero, List.set_cons_succ, Nat.reduceSub, to_ok, wipeP, true_and]
    refine ⟨some (q x), ?_⟩
    rw [List.take_add_one, hx, Option.toList_some, S_snoc]
  · subst e; subst eσ
    simp only [w_int, w_bl, w_non, w_no, w_str, w_nil, w_one, w_var, toVar_some, w_glob, toGl_some, toTup_tup, toBl_true, toBl_false, w_cons, w_tup, w_lst, w_bin, w_cmp, w_chain, w_not, w_and, w_or, w_ife, toInt_int, w_neg, w_idx, w_slice, w_isi, w_call, w_call0, w_meth, w_blt, toSeq_tup, w_star, w_rev, onNx_nx, onNx_rt, onNx_ct, x_skip, x_seq, toSl_some, x_set, x_setC, x_par, x_ret, x_expr, x_cont, x_sif, onRt_rt, onRt_nx, onTurn_nx, onTurn_ct, onTurn_rt, lay, layN, List.map_cons, List.map_nil, List.getElem?_cons_zero, List.getElem?_cons_succ, Nat.sub_self, List.replicate_zero, List.replicate_succ, List.append_nil, List.cons_append, List.nil_append, List.set_cons_zero, List.set_cons_succ, Nat.reduceSub, to_ok, wipeP, true_and, List.take_length]
    exact hQ
theorem lsum_ok {i k : Nat} {l : List Rat} (hi : At s i (l.map q)) (hw : ∀ x ∈ l, W k x) (hk : k ≤ 4000) (hl : 1 + l.length * (k + 1) ≤ 4000) : runF T (n + 3) f__law_sum [.lst i] s = .ok (q (S l)) s := by
  refine eq_of_to fun Q hQ => run_to d__law_sum rfl ?_
  simp only [c__law_sum, w_int, w_bl, w_non, w_no, w_str, w_nil, w_one, w_var, toVar_some, w_glob, toGl_some, toTup_tup, toBl_true, toBl_false, w_cons, w_tup, w_lst, w_bin, w_cmp, w_chain, w_not, w_and, w_or, w_ife, toInt_int, w_neg, w_idx, w_slice, w_isi, w_call, w_call0, w_meth, w_blt, toSeq_tup, w_star, w_rev, onNx_nx, onNx_rt, onNx_ct, x_skip, x_seq, toSl_some, x_set, x_setC, x_par, x_ret, x_expr, x_cont, x_sif, onRt_rt, onRt_nx, onTurn_nx, onTurn_ct, onTurn_rt, lay, layN, List.map_cons, List.map_nil, List.getElem?_cons_zero, List.getElem?_cons_succ, Nat.sub_self, List.replicate_zero, List.replicate_succ, List.append_nil, List.cons_append, List.nil_append, List.set_cons_zero, List.set_cons_succ, Nat.reduceSub, to_ok, wipeP, true_and]
  refine ⟨by simp [cap], ?_⟩
  refine x_for l q (fun s' => s' = s) (fun k σ s' => s' = s ∧ ∃ o, σ = [some (.lst i), some (q (S (l.take k))), o]) ?_ (fun k σ s' h => h.1) (fun k x σ s' hx ⟨e, o, eσ⟩ => ?_) (fun σ s' ⟨e, o, eσ⟩ => ?_)
  · simp only [j_seq, w_int, w_bl, w_non, w_no, w_str, w_nil, w_one, w_var, toVar_some, w_glob, toGl_some, toTup_tup, toBl_true, toBl_false, w_cons, w_tup, w_lst, w_bin, w_cmp, w_chain, w_not, w_and, w_or, w_ife, toInt_int, w_neg, w_idx, w_slice, w_isi, w_call, w_call0, w_meth, w_blt, toSeq_tup, w_star, w_rev, onNx_nx, onNx_rt, onNx_ct, x_skip, x_seq, toSl_some, x_set, x_setC, x_par, x_ret, x_expr, x_cont, x_sif, onRt_rt, onRt_nx, onTurn_nx, onTurn_ct, onTurn_rt, lay, layN, List.map_cons, List.map_nil, List.getElem?_cons_zero, List.getElem?_cons_succ, Nat.sub_self, List.replicate_zero, List.replicate_succ, List.append_nil, List.cons_append, List.nil_append, List.set_cons_zero, List.set_cons_succ, Nat.reduceSub, to_ok, wipeP, true_and]
    exact ⟨_, hi.getL, by simp [It.most, hi.getL], sees_l (fun s' e => e ▸ hi), none, rfl⟩
  · subst e; subst eσ
    have hm := List.mem_of_getElem? hx
    simp only [w_int, w_bl, w_non, w_no, w_str, w_nil, w_one, w_var, toVar_some, w_glob, toGl_some, toTup_tup, toBl_true, toBl_false, w_cons, w_tup, w_lst, w_bin, w_cmp, w_chain, w_not, w_and, w_or, w_ife, toInt_int, w_neg, w_idx, w_slice, w_isi, w_call, w_call0, w_meth, w_blt, toSeq_tup, w_star, w_rev, onNx_nx, onNx_rt, onNx_ct, x_skip, x_seq, toSl_some, x_set, x_setC, x_par, x_ret, x_expr, x_cont, x_sif, onRt_rt, onRt_nx, onTurn_nx, onTurn_ct, onTurn_rt, lay, layN, List.map_cons, List.map_nil, List.getElem?_cons_zero, List.getElem?_cons_succ, Nat.sub_self, List.replicate_zero, List.replicate_succ, List.append_nil, List.cons_append, List.nil_append, List.set_cons_zero, List.set_cons_succ, Nat.reduceSub, to_ok, wipeP, true_and]
    have h1 : W 4000 (S (l.take k)) := W_St (m := l.length) (fun y hy => hw y (List.mem_of_mem_take hy)) (by simp; omega) hl
    rw [plus_ok h1 ((hw x hm).mono hk)]
    simp only [w_int, w_bl, w_non, w_no, w_str, w_nil, w_one, w_var, toVar_some, w_glob, toGl_some, toTup_tup, toBl_true, toBl_false, w_cons, w_tup, w_lst, w_bin, w_cmp, w_chain, w_not, w_and, w_or, w_ife, toInt_int, w_neg, w_idx, w_slice, w_isi, w_call, w_call0, w_meth, w_blt, toSeq_tup, w_star, w_rev, onNx_nx, onNx_rt, onNx_ct, x_skip, x_seq, toSl_some, x_set, x_setC, x_par, x_ret, x_expr, x_cont, x_sif, onRt_rt, onRt_nx, onTurn_nx, onTurn_ct, onTurn_rt, lay, layN, List.map_cons, List.map_nil, List.getElem?_cons_zero, List.getElem?_cons_succ, Nat.sub_self, List.replicate_zero, List.replicate_succ, List.append_nil, List.cons_append, List.nil_append, List.set_cons_zero, List.set_cons_succ, Nat.reduceSub, to_ok, wipeP, true_and]
    refine ⟨some (q x), ?_⟩
    rw [List.take_add_one, hx, Option.toList_some, S_snoc]
  · subst e; subst eσ
    simp only [w_int, w_bl, w_non, w_no, w_str, w_nil, w_one, w_var, toVar_some, w_glob, toGl_some, toTup_tup, toBl_true, toBl_false, w_cons, w_tup, w_lst, w_bin, w_cmp, w_chain, w_not, w_and, w_or, w_ife, toInt_int, w_neg, w_idx, w_slice, w_isi, w_call, w_call0, w_meth, w_blt, toSeq_tup, w_star, w_rev, onNx_nx, onNx_rt, onNx_ct, x_skip, x_seq, toSl_some, x_set, x_setC, x_par, x_ret, x_expr, x_cont, x_sif, onRt_rt, onRt_nx, onTurn_nx, onTurn_ct, onTurn_rt, lay, layN, List.map_cons, List.map_nil, List.getElem?_cons_zero, List.getElem?_cons_succ, Nat.sub_self, List.replicate_zero, List.replicate_succ, List.append_nil, List.cons_append, List.nil_append, List.set_cons_zero, List.set_cons_succ, Nat.reduceSub, to_ok, wipeP, true_and, List.take_length]
    exact hQ
theorem isint_ok {i : Int} : runF T (n + 1) f_is_integer [.int i] s = .ok (.bl true) s := by
  refine run_pu d_is_integer rfl rfl rfl ?_
  simp only [c_is_integer, w_int, w_bl, w_non, w_no, w_str, w_nil, w_one, w_var, toVar_some, w_glob, toGl_some, toTup_tup, toBl_true, toBl_false, w_cons, w_tup, w_lst, w_bin, w_cmp, w_chain, w_not, w_and, w_or, w_ife, toInt_int, w_neg, w_idx, w_slice, w_isi, w_call, w_call0, w_meth, w_blt, toSeq_tup, w_star, w_rev, onNx_nx, onNx_rt, onNx_ct, x_skip, x_seq, toSl_some, x_set, x_setC, x_par, x_ret, x_expr, x_cont, x_sif, onRt_rt, onRt_nx, onTurn_nx, onTurn_ct, onTurn_rt, lay, layN, List.map_cons, List.map_nil, List.getElem?_cons_zero, List.getElem?_cons_succ, Nat.sub_self, List.replicate_zero, List.replicate_succ, List.append_nil, List.cons_append, List.nil_append, List.set_cons_zero, List.set_cons_succ, Nat.reduceSub, to_ok, wipeP, true_and]
  exact ⟨true, rfl, false, rfl, trivial⟩
theorem isfrac_ok (ha : W 9000 a) : runF T (n + 2) f_is_fraction [q a] s = .ok (.bl true) s := by
  refine run_pu d_is_fraction rfl rfl rfl ?_
  simp only [c_is_fraction, w_int, w_bl, w_non, w_no, w_str, w_nil, w_one, w_var, toVar_some, w_glob, toGl_some, toTup_tup, toBl_true, toBl_false, w_cons, w_tup, w_lst, w_bin, w_cmp, w_chain, w_not, w_and, w_or, w_ife, toInt_int, w_neg, w_idx, w_slice, w_isi, w_call, w_call0, w_meth, w_blt, toSeq_tup, w_star, w_rev, onNx_nx, onNx_rt, onNx_ct, x_skip, x_seq, toSl_some, x_set, x_setC, x_par, x_ret, x_expr, x_cont, x_sif, onRt_rt, onRt_nx, onTurn_nx, onTurn_ct, onTurn_rt, lay, layN, List.map_cons, List.map_nil, List.getElem?_cons_zero, List.getElem?_cons_succ, Nat.sub_self, List.replicate_zero, List.replicate_succ, List.append_nil, List.cons_append, List.nil_append, List.set_cons_zero, List.set_cons_succ, Nat.reduceSub, to_ok, wipeP, true_and, q, isTy_tup, len_tup, ne_int, List.length_cons, List.length_nil]
  refine ⟨true, rfl, ?_⟩
  simp only [w_int, w_bl, w_non, w_no, w_str, w_nil, w_one, w_var, toVar_some, w_glob, toGl_some, toTup_tup, toBl_true, toBl_false, w_cons, w_tup, w_lst, w_bin, w_cmp, w_chain, w_not, w_and, w_or, w_ife, toInt_int, w_neg, w_idx, w_slice, w_isi, w_call, w_call0, w_meth, w_blt, toSeq_tup, w_star, w_rev, onNx_nx, onNx_rt, onNx_ct, x_skip, x_seq, toSl_some, x_set, x_setC, x_par, x_ret, x_expr, x_cont, x_sif, onRt_rt, onRt_nx, onTurn_nx, onTurn_ct, onTurn_rt, lay, layN, List.map_cons, List.map_nil, List.getElem?_cons_zero, List.getElem?_cons_succ, Nat.sub_self, List.replicate_zero, List.replicate_succ, List.append_nil, List.cons_append, List.nil_append, List.set_cons_zero, List.set_cons_succ, Nat.reduceSub, to_ok, wipeP, true_and, Nat.reduceAdd, Int.cast_ofNat_Int, decide_true, Bool.not_true]
  refine comp_pure [a.num, (a.den : Int)] PV.int (fun _ => some (.bl true)) ?_ (by simp [cap]) (fun x hx s' hs => ?_) fun i s' hf hA hi => ?_
  · simp only [j_seq, w_int, w_bl, w_non, w_no, w_str, w_nil, w_one, w_var, toVar_some, w_glob, toGl_some, toTup_tup, toBl_true, toBl_false, w_cons, w_tup, w_lst, w_bin, w_cmp, w_chain, w_not, w_and, w_or, w_ife, toInt_int, w_neg, w_idx, w_slice, w_isi, w_call, w_call0, w_meth, w_blt, toSeq_tup, w_star, w_rev, onNx_nx, onNx_rt, onNx_ct, x_skip, x_seq, toSl_some, x_set, x_setC, x_par, x_ret, x_expr, x_cont, x_sif, onRt_rt, onRt_nx, onTurn_nx, onTurn_ct, onTurn_rt, lay, layN, List.map_cons, List.map_nil, List.getElem?_cons_zero, List.getElem?_cons_succ, Nat.sub_self, List.replicate_zero, List.replicate_succ, List.append_nil, List.cons_append, List.nil_append, List.set_cons_zero, List.set_cons_succ, Nat.reduceSub, to_ok, wipeP, true_and]
    exact ⟨rfl, sees_t (L := [a.num, (a.den : Int)]), .refl⟩
  · simp only [Turn, w_int, w_bl, w_non, w_no, w_str, w_nil, w_one, w_var, toVar_some, w_glob, toGl_some, toTup_tup, toBl_true, toBl_false, w_cons, w_tup, w_lst, w_bin, w_cmp, w_chain, w_not, w_and, w_or, w_ife, toInt_int, w_neg, w_idx, w_slice, w_isi, w_call, w_call0, w_meth, w_blt, toSeq_tup, w_star, w_rev, onNx_nx, onNx_rt, onNx_ct, x_skip, x_seq, toSl_some, x_set, x_setC, x_par, x_ret, x_expr, x_cont, x_sif, onRt_rt, onRt_nx, onTurn_nx, onTurn_ct, onTurn_rt, lay, layN, List.map_cons, List.map_nil, List.getElem?_cons_zero, List.getElem?_cons_succ, Nat.sub_self, List.replicate_zero, List.replicate_succ, List.append_nil, List.cons_append, List.nil_append, List.set_cons_zero, List.set_cons_succ, Nat.reduceSub, to_ok, wipeP, true_and, isint_ok]
    exact .refl
  · rw [fm_some] at hA
    rw [all_lst hA]
    simp only [w_int, w_bl, w_non, w_no, w_str, w_nil, w_one, w_var, toVar_some, w_glob, toGl_some, toTup_tup, toBl_true, toBl_false, w_cons, w_tup, w_lst, w_bin, w_cmp, w_chain, w_not, w_and, w_or, w_ife, toInt_int, w_neg, w_idx, w_slice, w_isi, w_call, w_call0, w_meth, w_blt, toSeq_tup, w_star, w_rev, onNx_nx, onNx_rt, onNx_ct, x_skip, x_seq, toSl_some, x_set, x_setC, x_par, x_ret, x_expr, x_cont, x_sif, onRt_rt, onRt_nx, onTurn_nx, onTurn_ct, onTurn_rt, lay, layN, List.map_cons, List.map_nil, List.getElem?_cons_zero, List.getElem?_cons_succ, Nat.sub_self, List.replicate_zero, List.replicate_succ, List.append_nil, List.cons_append, List.nil_append, List.set_cons_zero, List.set_cons_succ, Nat.reduceSub, to_ok, wipeP, true_and, List.all_cons, List.all_nil, Bool.and_self]
    have hd := den_pos a
    have e1 : evIdx (.tup [.int a.num, .int (a.den : Int)]) (.int 1) s' = .ok (.int (a.den : Int)) s' := rfl
    have e0 : evIdx (.tup [.int a.num, .int (a.den : Int)]) (.int 0) s' = .ok (.int a.num) s' := rfl
    have e2 : Int.gcd a.num (a.den : Int) = 1 := a.reduced
    simp only [w_int, w_bl, w_non, w_no, w_str, w_nil, w_one, w_var, toVar_some, w_glob, toGl_some, toTup_tup, toBl_true, toBl_false, w_cons, w_tup, w_lst, w_bin, w_cmp, w_chain, w_not, w_and, w_or, w_ife, toInt_int, w_neg, w_idx, w_slice, w_isi, w_call, w_call0, w_meth, w_blt, toSeq_tup, w_star, w_rev, onNx_nx, onNx_rt, onNx_ct, x_skip, x_seq, toSl_some, x_set, x_setC, x_par, x_ret, x_expr, x_cont, x_sif, onRt_rt, onRt_nx, onTurn_nx, onTurn_ct, onTurn_rt, lay, layN, List.map_cons, List.map_nil, List.getElem?_cons_zero, List.getElem?_cons_succ, Nat.sub_self, List.replicate_zero, List.replicate_succ, List.append_nil, List.cons_append, List.nil_append, List.set_cons_zero, List.set_cons_succ, Nat.reduceSub, to_ok, wipeP, true_and, e1, e0, w_ge, decide_eq_true (by omega : (1 : Int) ≤ (a.den : Int)), common_ok (a := a.num) (b := (a.den : Int)) (by simpa using ha.den), w_eqI, e2]
    rfl
end
end K39

namespace K39
open PySem FI GI
section
variable {n : Nat} {a b w g r : Rat} {s : Sto} {Q : PV → Sto → Prop}
theorem mixed_ok {x : Int} {k : Int} (h0 : 0 ≤ k) (hk : k ≤ 2000) : ∃ y : Int, runF T (n + 1) f__law_mixed [.int x, .int k] s = .ok (.int y) s ∧ 0 ≤ y ∧ y < 2147483629 := by
  refine ⟨(x % 2147483647 * (48271 + 2 * k * k) + 69621 * k + 11) % 2147483647 * 69621 % 2147483629, run_pu d__law_mixed rfl rfl rfl ?_, Int.emod_nonneg _ (by decide), Int.emod_lt_of_pos _ (by decide)⟩
  have hx0 : 0 ≤ x % 2147483647 := Int.emod_nonneg _ (by decide)
  have hx1 : x % 2147483647 < 2147483647 := Int.emod_lt_of_pos _ (by decide)
  have h2k : 0 ≤ 2 * k * k := Int.mul_nonneg (by omega) h0
  have h2k' : 2 * k * k ≤ 8000000 := by
    have := Int.mul_le_mul (by omega : 2 * k ≤ 4000) hk h0 (by decide)
    omega
  simp only [c__law_mixed, w_int, w_bl, w_non, w_no, w_str, w_nil, w_one, w_var, toVar_some, w_glob, toGl_some, toTup_tup, toBl_true, toBl_false, w_cons, w_tup, w_lst, w_bin, w_cmp, w_chain, w_not, w_and, w_or, w_ife, toInt_int, w_neg, w_idx, w_slice, w_isi, w_call, w_call0, w_meth, w_blt, toSeq_tup, w_star, w_rev, onNx_nx, onNx_rt, onNx_ct, x_skip, x_seq, toSl_some, x_set, x_setC, x_par, x_ret, x_expr, x_cont, x_sif, onRt_rt, onRt_nx, onTurn_nx, onTurn_ct, onTurn_rt, lay, layN, List.map_cons, List.map_nil, List.getElem?_cons_zero, List.getElem?_cons_succ, Nat.sub_self, List.replicate_zero, List.replicate_succ, List.append_nil, List.cons_append, List.nil_append, List.set_cons_zero, List.set_cons_succ, Nat.reduceSub, to_ok, wipeP, true_and, capk0, capk1, capk2, capk3, capk4, capk5, capk6, capk7, capk8, w_toint, w_mod (by decide : (0 : Int) < 2147483647), w_mul (small_lt (by decide : (0 : Int) ≤ 2) (by decide)) (small_lt h0 (by omega)), w_mul (small_lt (by omega : 0 ≤ 2 * k) (by omega)) (small_lt h0 (by omega)), w_add, w_mul (small_lt hx0 (by omega)) (small_lt (by omega : 0 ≤ 48271 + 2 * k * k) (by omega)), w_mul (small_lt (by decide : (0 : Int) ≤ 69621) (by decide)) (small_lt h0 (by omega)), w_mod (by decide : (0 : Int) < 2147483629)]
  rw [w_mul (small_lt (Int.emod_nonneg _ (by decide)) (Int.lt_trans (Int.emod_lt_of_pos _ (by decide)) (by decide))) (small_lt (by decide) (by decide))]
  simp only [w_mod (by decide : (0 : Int) < 2147483629), w_int, w_bl, w_non, w_no, w_str, w_nil, w_one, w_var, toVar_some, w_glob, toGl_some, toTup_tup, toBl_true, toBl_false, w_cons, w_tup, w_lst, w_bin, w_cmp, w_chain, w_not, w_and, w_or, w_ife, toInt_int, w_neg, w_idx, w_slice, w_isi, w_call, w_call0, w_meth, w_blt, toSeq_tup, w_star, w_rev, onNx_nx, onNx_rt, onNx_ct, x_skip, x_seq, toSl_some, x_set, x_setC, x_par, x_ret, x_expr, x_cont, x_sif, onRt_rt, onRt_nx, onTurn_nx, onTurn_ct, onTurn_rt, lay, layN, List.map_cons, List.map_nil, List.getElem?_cons_zero, List.getElem?_cons_succ, Nat.sub_self, List.replicate_zero, List.replicate_succ, List.append_nil, List.cons_append, List.nil_append, List.set_cons_zero, List.set_cons_succ, Nat.reduceSub, to_ok, wipeP, true_and, capk0, capk1, capk2, capk3, capk4, capk5, capk6, capk7, capk8]
theorem draw_ok {d l A : Nat} {m : Int} (h : St s d l A) (hA : A ≤ 1000) (h0 : 0 < m) (hm : m < 1000) : (runF T (n + 2) f__law_draw [.dct d, .int m] s).to fun v s' => (∃ k : Nat, v = .int (k : Int) ∧ (k : Int) < m) ∧ St s' d l (A + 1) ∧ Fr [d, l] s s' := by
  obtain ⟨c, cells, lefts, t, hd, hdn, hc, hl, hlen, hpos, ht, hcl, hcd0⟩ := h.ex
  have gd : FI.getD s d = some (kvsOf c l t) := by unfold FI.getD; rw [hd]
  have hcd : c ≠ d := by rintro rfl; have := hc.1; rw [hd] at this; cases this
  have hld : l ≠ d := by rintro rfl; have := hl.1; rw [hd] at this; cases this
  refine run_to d__law_draw rfl ?_
  simp only [c__law_draw, x_seq, x_set]
  refine w_dix ?_
  simp only [w_int, w_bl, w_non, w_no, w_str, w_nil, w_one, w_var, toVar_some, w_glob, toGl_some, toTup_tup, toBl_true, toBl_false, w_cons, w_tup, w_lst, w_bin, w_cmp, w_chain, w_not, w_and, w_or, w_ife, toInt_int, w_neg, w_idx, w_slice, w_isi, w_call, w_call0, w_meth, w_blt, toSeq_tup, w_star, w_rev, onNx_nx, onNx_rt, onNx_ct, x_skip, x_seq, toSl_some, x_set, x_setC, x_par, x_ret, x_expr, x_cont, x_sif, onRt_rt, onRt_nx, onTurn_nx, onTurn_ct, onTurn_rt, lay, layN, List.map_cons, List.map_nil, List.getElem?_cons_zero, List.getElem?_cons_succ, Nat.sub_self, List.replicate_zero, List.replicate_succ, List.append_nil, List.cons_append, List.nil_append, List.set_cons_zero, List.set_cons_succ, Nat.reduceSub, to_ok, wipeP, true_and, capk0, capk1, capk2, capk3, capk4, capk5, capk6, capk7, capk8]
  refine ⟨d, _, _, _, rfl, gd, rfl, val_at, ?_⟩
  try simp only [w_int, w_bl, w_non, w_no, w_str, w_nil, w_one, w_var, toVar_some, w_glob, toGl_some, toTup_tup, toBl_true, toBl_false, w_cons, w_tup, w_lst, w_bin, w_cmp, w_chain, w_not, w_and, w_or, w_ife, toInt_int, w_neg, w_idx, w_slice, w_isi, w_call, w_call0, w_meth, w_blt, toSeq_tup, w_star, w_rev, onNx_nx, onNx_rt, onNx_ct, x_skip, x_seq, toSl_some, x_set, x_setC, x_par, x_ret, x_expr, x_cont, x_sif, onRt_rt, onRt_nx, onTurn_nx, onTurn_ct, onTurn_rt, lay, layN, List.map_cons, List.map_nil, List.getElem?_cons_zero, List.getElem?_cons_succ, Nat.sub_self, List.replicate_zero, List.replicate_succ, List.append_nil, List.cons_append, List.nil_append, List.set_cons_zero, List.set_cons_succ, Nat.reduceSub, to_ok, wipeP, true_and, capk0, capk1, capk2, capk3, capk4, capk5, capk6, capk7, capk8]
  refine x_std ?_
  simp only [w_int, w_bl, w_non, w_no, w_str, w_nil, w_one, w_var, toVar_some, w_glob, toGl_some, toTup_tup, toBl_true, toBl_false, w_cons, w_tup, w_lst, w_bin, w_cmp, w_chain, w_not, w_and, w_or, w_ife, toInt_int, w_neg, w_idx, w_slice, w_isi, w_call, w_call0, w_meth, w_blt, toSeq_tup, w_star, w_rev, onNx_nx, onNx_rt, onNx_ct, x_skip, x_seq, toSl_some, x_set, x_setC, x_par, x_ret, x_expr, x_cont, x_sif, onRt_rt, onRt_nx, onTurn_nx, onTurn_ct, onTurn_rt, lay, layN, List.map_cons, List.map_nil, List.getElem?_cons_zero, List.getElem?_cons_succ, Nat.sub_self, List.replicate_zero, List.replicate_succ, List.append_nil, List.cons_append, List.nil_append, List.set_cons_zero, List.set_cons_succ, Nat.reduceSub, to_ok, wipeP, true_and, capk0, capk1, capk2, capk3, capk4, capk5, capk6, capk7, capk8, w_add]
  refine ⟨d, _, _, rfl, gd, rfl, by simp [kvsOf, cap], ?_⟩
  rw [put_at]
  have hd2 : look d (put d (.dct (kvsOf c l (t + 1))) s.os) = some (.dct (kvsOf c l ((t + 1 : Nat) : Int))) := by
    rw [look_put (by rw [hd]; rfl)]
    simp
  have hc2 : At ⟨s.n, put d (.dct (kvsOf c l (t + 1))) s.os⟩ c (cells.map .int) := hc.put_ne hcd
  have hl2 : At ⟨s.n, put d (.dct (kvsOf c l (t + 1))) s.os⟩ l (lefts.map .int) := hl.put_ne hld
  have f2 : Fr [d, l] s ⟨s.n, put d (.dct (kvsOf c l (t + 1))) s.os⟩ := Fr.put .refl (.inl (by simp))
  have hd3 : look d (⟨s.n, put d (.dct (kvsOf c l (t + 1))) s.os⟩ : Sto).os = some (.dct (kvsOf c l ((t + 1 : Nat) : Int))) := hd2
  have hdn2 : d < (⟨s.n, put d (.dct (kvsOf c l (t + 1))) s.os⟩ : Sto).n := hdn
  generalize (⟨s.n, put d (.dct (kvsOf c l (t + 1))) s.os⟩ : Sto) = s2 at hc2 hl2 f2 hdn2 hd3 ⊢
  clear hd2
  have gd2 : FI.getD s2 d = some (kvsOf c l ((t + 1 : Nat) : Int)) := by unfold FI.getD; rw [hd3]
  try simp only [w_int, w_bl, w_non, w_no, w_str, w_nil, w_one, w_var, toVar_some, w_glob, toGl_some, toTup_tup, toBl_true, toBl_false, w_cons, w_tup, w_lst, w_bin, w_cmp, w_chain, w_not, w_and, w_or, w_ife, toInt_int, w_neg, w_idx, w_slice, w_isi, w_call, w_call0, w_meth, w_blt, toSeq_tup, w_star, w_rev, onNx_nx, onNx_rt, onNx_ct, x_skip, x_seq, toSl_some, x_set, x_setC, x_par, x_ret, x_expr, x_cont, x_sif, onRt_rt, onRt_nx, onTurn_nx, onTurn_ct, onTurn_rt, lay, layN, List.map_cons, List.map_nil, List.getElem?_cons_zero, List.getElem?_cons_succ, Nat.sub_self, List.replicate_zero, List.replicate_succ, List.append_nil, List.cons_append, List.nil_append, List.set_cons_zero, List.set_cons_succ, Nat.reduceSub, to_ok, wipeP, true_and, capk0, capk1, capk2, capk3, capk4, capk5, capk6, capk7, capk8, w_toint]
  refine w_dix ?_
  simp only [w_int, w_bl, w_non, w_no, w_str, w_nil, w_one, w_var, toVar_some, w_glob, toGl_some, toTup_tup, toBl_true, toBl_false, w_cons, w_tup, w_lst, w_bin, w_cmp, w_chain, w_not, w_and, w_or, w_ife, toInt_int, w_neg, w_idx, w_slice, w_isi, w_call, w_call0, w_meth, w_blt, toSeq_tup, w_star, w_rev, onNx_nx, onNx_rt, onNx_ct, x_skip, x_seq, toSl_some, x_set, x_setC, x_par, x_ret, x_expr, x_cont, x_sif, onRt_rt, onRt_nx, onTurn_nx, onTurn_ct, onTurn_rt, lay, layN, List.map_cons, List.map_nil, List.getElem?_cons_zero, List.getElem?_cons_succ, Nat.sub_self, List.replicate_zero, List.replicate_succ, List.append_nil, List.cons_append, List.nil_append, List.set_cons_zero, List.set_cons_succ, Nat.reduceSub, to_ok, wipeP, true_and, capk0, capk1, capk2, capk3, capk4, capk5, capk6, capk7, capk8]
  refine ⟨d, _, _, _, rfl, gd2, rfl, val_cells, ?_⟩
  have hlc : (0 : Int) < (cells.map PV.int).length := by simp; omega
  simp only [w_int, w_bl, w_non, w_no, w_str, w_nil, w_one, w_var, toVar_some, w_glob, toGl_some, toTup_tup, toBl_true, toBl_false, w_cons, w_tup, w_lst, w_bin, w_cmp, w_chain, w_not, w_and, w_or, w_ife, toInt_int, w_neg, w_idx, w_slice, w_isi, w_call, w_call0, w_meth, w_blt, toSeq_tup, w_star, w_rev, onNx_nx, onNx_rt, onNx_ct, x_skip, x_seq, toSl_some, x_set, x_setC, x_par, x_ret, x_expr, x_cont, x_sif, onRt_rt, onRt_nx, onTurn_nx, onTurn_ct, onTurn_rt, lay, layN, List.map_cons, List.map_nil, List.getElem?_cons_zero, List.getElem?_cons_succ, Nat.sub_self, List.replicate_zero, List.replicate_succ, List.append_nil, List.cons_append, List.nil_append, List.set_cons_zero, List.set_cons_succ, Nat.reduceSub, to_ok, wipeP, true_and, capk0, capk1, capk2, capk3, capk4, capk5, capk6, capk7, capk8, len_lst hc2, w_mod hlc]
  refine w_dix ?_
  simp only [w_int, w_bl, w_non, w_no, w_str, w_nil, w_one, w_var, toVar_some, w_glob, toGl_some, toTup_tup, toBl_true, toBl_false, w_cons, w_tup, w_lst, w_bin, w_cmp, w_chain, w_not, w_and, w_or, w_ife, toInt_int, w_neg, w_idx, w_slice, w_isi, w_call, w_call0, w_meth, w_blt, toSeq_tup, w_star, w_rev, onNx_nx, onNx_rt, onNx_ct, x_skip, x_seq, toSl_some, x_set, x_setC, x_par, x_ret, x_expr, x_cont, x_sif, onRt_rt, onRt_nx, onTurn_nx, onTurn_ct, onTurn_rt, lay, layN, List.map_cons, List.map_nil, List.getElem?_cons_zero, List.getElem?_cons_succ, Nat.sub_self, List.replicate_zero, List.replicate_succ, List.append_nil, List.cons_append, List.nil_append, List.set_cons_zero, List.set_cons_succ, Nat.reduceSub, to_ok, wipeP, true_and, capk0, capk1, capk2, capk3, capk4, capk5, capk6, capk7, capk8]
  refine ⟨d, _, _, _, rfl, gd2, rfl, val_lefts, ?_⟩
  try simp only [w_int, w_bl, w_non, w_no, w_str, w_nil, w_one, w_var, toVar_some, w_glob, toGl_some, toTup_tup, toBl_true, toBl_false, w_cons, w_tup, w_lst, w_bin, w_cmp, w_chain, w_not, w_and, w_or, w_ife, toInt_int, w_neg, w_idx, w_slice, w_isi, w_call, w_call0, w_meth, w_blt, toSeq_tup, w_star, w_rev, onNx_nx, onNx_rt, onNx_ct, x_skip, x_seq, toSl_some, x_set, x_setC, x_par, x_ret, x_expr, x_cont, x_sif, onRt_rt, onRt_nx, onTurn_nx, onTurn_ct, onTurn_rt, lay, layN, List.map_cons, List.map_nil, List.getElem?_cons_zero, List.getElem?_cons_succ, Nat.sub_self, List.replicate_zero, List.replicate_succ, List.append_nil, List.cons_append, List.nil_append, List.set_cons_zero, List.set_cons_succ, Nat.reduceSub, to_ok, wipeP, true_and, capk0, capk1, capk2, capk3, capk4, capk5, capk6, capk7, capk8]
  have hj : ((t : Int) % ((cells.map PV.int).length : Int)) = ((t % cells.length : Nat) : Int) := by simp
  have hjl : t % cells.length < cells.length := Nat.mod_lt _ hpos
  rw [hj]
  generalize t % cells.length = j at hjl
  have hv : (lefts.map PV.int)[j]? = some (.int (lefts[j]'(by omega))) := by simp [List.getElem?_eq_getElem (by omega : j < lefts.length)]
  have hv2 : (cells.map PV.int)[j]? = some (.int (cells[j]'(by omega))) := by simp [List.getElem?_eq_getElem hjl]
  simp only [idx_lst hl2 hv, w_int, w_bl, w_non, w_no, w_str, w_nil, w_one, w_var, toVar_some, w_glob, toGl_some, toTup_tup, toBl_true, toBl_false, w_cons, w_tup, w_lst, w_bin, w_cmp, w_chain, w_not, w_and, w_or, w_ife, toInt_int, w_neg, w_idx, w_slice, w_isi, w_call, w_call0, w_meth, w_blt, toSeq_tup, w_star, w_rev, onNx_nx, onNx_rt, onNx_ct, x_skip, x_seq, toSl_some, x_set, x_setC, x_par, x_ret, x_expr, x_cont, x_sif, onRt_rt, onRt_nx, onTurn_nx, onTurn_ct, onTurn_rt, lay, layN, List.map_cons, List.map_nil, List.getElem?_cons_zero, List.getElem?_cons_succ, Nat.sub_self, List.replicate_zero, List.replicate_succ, List.append_nil, List.cons_append, List.nil_append, List.set_cons_zero, List.set_cons_succ, Nat.reduceSub, to_ok, wipeP, true_and, capk0, capk1, capk2, capk3, capk4, capk5, capk6, capk7, capk8, w_gt]
  have done : St s2 d l (A + 1) := ⟨c, cells, lefts, t + 1, hd3, hdn2, hc2, hl2, hlen, hpos, by omega, hcl, hcd0⟩
  by_cases hgt : 0 < lefts[j]'(by omega)
  · simp only [hgt, decide_true, w_int, w_bl, w_non, w_no, w_str, w_nil, w_one, w_var, toVar_some, w_glob, toGl_some, toTup_tup, toBl_true, toBl_false, w_cons, w_tup, w_lst, w_bin, w_cmp, w_chain, w_not, w_and, w_or, w_ife, toInt_int, w_neg, w_idx, w_slice, w_isi, w_call, w_call0, w_meth, w_blt, toSeq_tup, w_star, w_rev, onNx_nx, onNx_rt, onNx_ct, x_skip, x_seq, toSl_some, x_set, x_setC, x_par, x_ret, x_expr, x_cont, x_sif, onRt_rt, onRt_nx, onTurn_nx, onTurn_ct, onTurn_rt, lay, layN, List.map_cons, List.map_nil, List.getElem?_cons_zero, List.getElem?_cons_succ, Nat.sub_self, List.replicate_zero, List.replicate_succ, List.append_nil, List.cons_append, List.nil_append, List.set_cons_zero, List.set_cons_succ, Nat.reduceSub, to_ok, wipeP, true_and, capk0, capk1, capk2, capk3, capk4, capk5, capk6, capk7, capk8]
    refine x_stl ?_
    simp only [w_int, w_bl, w_non, w_no, w_str, w_nil, w_one, w_var, toVar_some, w_glob, toGl_some, toTup_tup, toBl_true, toBl_false, w_cons, w_tup, w_lst, w_bin, w_cmp, w_chain, w_not, w_and, w_or, w_ife, toInt_int, w_neg, w_idx, w_slice, w_isi, w_call, w_call0, w_meth, w_blt, toSeq_tup, w_star, w_rev, onNx_nx, onNx_rt, onNx_ct, x_skip, x_seq, toSl_some, x_set, x_setC, x_par, x_ret, x_expr, x_cont, x_sif, onRt_rt, onRt_nx, onTurn_nx, onTurn_ct, onTurn_rt, lay, layN, List.map_cons, List.map_nil, List.getElem?_cons_zero, List.getElem?_cons_succ, Nat.sub_self, List.replicate_zero, List.replicate_succ, List.append_nil, List.cons_append, List.nil_append, List.set_cons_zero, List.set_cons_succ, Nat.reduceSub, to_ok, wipeP, true_and, capk0, capk1, capk2, capk3, capk4, capk5, capk6, capk7, capk8, w_fdiv h0 (small_lt (by omega) (by omega))]
    refine w_dix ?_
    simp only [w_int, w_bl, w_non, w_no, w_str, w_nil, w_one, w_var, toVar_some, w_glob, toGl_some, toTup_tup, toBl_true, toBl_false, w_cons, w_tup, w_lst, w_bin, w_cmp, w_chain, w_not, w_and, w_or, w_ife, toInt_int, w_neg, w_idx, w_slice, w_isi, w_call, w_call0, w_meth, w_blt, toSeq_tup, w_star, w_rev, onNx_nx, onNx_rt, onNx_ct, x_skip, x_seq, toSl_some, x_set, x_setC, x_par, x_ret, x_expr, x_cont, x_sif, onRt_rt, onRt_nx, onTurn_nx, onTurn_ct, onTurn_rt, lay, layN, List.map_cons, List.map_nil, List.getElem?_cons_zero, List.getElem?_cons_succ, Nat.sub_self, List.replicate_zero, List.replicate_succ, List.append_nil, List.cons_append, List.nil_append, List.set_cons_zero, List.set_cons_succ, Nat.reduceSub, to_ok, wipeP, true_and, capk0, capk1, capk2, capk3, capk4, capk5, capk6, capk7, capk8]
    refine ⟨d, _, _, _, rfl, gd2, rfl, val_lefts, ?_⟩
    try simp only [w_int, w_bl, w_non, w_no, w_str, w_nil, w_one, w_var, toVar_some, w_glob, toGl_some, toTup_tup, toBl_true, toBl_false, w_cons, w_tup, w_lst, w_bin, w_cmp, w_chain, w_not, w_and, w_or, w_ife, toInt_int, w_neg, w_idx, w_slice, w_isi, w_call, w_call0, w_meth, w_blt, toSeq_tup, w_star, w_rev, onNx_nx, onNx_rt, onNx_ct, x_skip, x_seq, toSl_some, x_set, x_setC, x_par, x_ret, x_expr, x_cont, x_sif, onRt_rt, onRt_nx, onTurn_nx, onTurn_ct, onTurn_rt, lay, layN, List.map_cons, List.map_nil, List.getElem?_cons_zero, List.getElem?_cons_succ, Nat.sub_self, List.replicate_zero, List.replicate_succ, List.append_nil, List.cons_append, List.nil_append, List.set_cons_zero, List.set_cons_succ, Nat.reduceSub, to_ok, wipeP, true_and, capk0, capk1, capk2, capk3, capk4, capk5, capk6, capk7, capk8]
    refine ⟨l, (j : Int), _, _, rfl, rfl, hl2, setAt_nat (by simp; omega), ?_⟩
    simp only [w_int, w_bl, w_non, w_no, w_str, w_nil, w_one, w_var, toVar_some, w_glob, toGl_some, toTup_tup, toBl_true, toBl_false, w_cons, w_tup, w_lst, w_bin, w_cmp, w_chain, w_not, w_and, w_or, w_ife, toInt_int, w_neg, w_idx, w_slice, w_isi, w_call, w_call0, w_meth, w_blt, toSeq_tup, w_star, w_rev, onNx_nx, onNx_rt, onNx_ct, x_skip, x_seq, toSl_some, x_set, x_setC, x_par, x_ret, x_expr, x_cont, x_sif, onRt_rt, onRt_nx, onTurn_nx, onTurn_ct, onTurn_rt, lay, layN, List.map_cons, List.map_nil, List.getElem?_cons_zero, List.getElem?_cons_succ, Nat.sub_self, List.replicate_zero, List.replicate_succ, List.append_nil, List.cons_append, List.nil_append, List.set_cons_zero, List.set_cons_succ, Nat.reduceSub, to_ok, wipeP, true_and, capk0, capk1, capk2, capk3, capk4, capk5, capk6, capk7, capk8, w_toint, w_mod h0]
    refine ⟨⟨((lefts[j]'(by omega)) % m).toNat, ?_, ?_⟩, ?_, ?_⟩
    · rw [Int.toNat_of_nonneg (Int.emod_nonneg _ (by omega))]
    · rw [Int.toNat_of_nonneg (Int.emod_nonneg _ (by omega))]
      exact Int.emod_lt_of_pos _ h0
    · refine ⟨c, cells, lefts.set j ((lefts[j]'(by omega)) / m), t + 1, ?_, hdn2, hc2.put_ne hcl, ?_, by simpa using hlen, hpos, by omega, hcl, hcd0⟩
      · dsimp only
        rw [look_put_ne (fun e => hld e.symm)]
        exact hd3
      · have e : (lefts.map PV.int).set j (.int ((lefts[j]'(by omega)) / m)) = (lefts.set j ((lefts[j]'(by omega)) / m)).map PV.int := by rw [List.map_set]
        rw [e]
        exact hl2.put
    · exact f2.put (.inl (by simp))
  · simp only [hgt, decide_false, w_int, w_bl, w_non, w_no, w_str, w_nil, w_one, w_var, toVar_some, w_glob, toGl_some, toTup_tup, toBl_true, toBl_false, w_cons, w_tup, w_lst, w_bin, w_cmp, w_chain, w_not, w_and, w_or, w_ife, toInt_int, w_neg, w_idx, w_slice, w_isi, w_call, w_call0, w_meth, w_blt, toSeq_tup, w_star, w_rev, onNx_nx, onNx_rt, onNx_ct, x_skip, x_seq, toSl_some, x_set, x_setC, x_par, x_ret, x_expr, x_cont, x_sif, onRt_rt, onRt_nx, onTurn_nx, onTurn_ct, onTurn_rt, lay, layN, List.map_cons, List.map_nil, List.getElem?_cons_zero, List.getElem?_cons_succ, Nat.sub_self, List.replicate_zero, List.replicate_succ, List.append_nil, List.cons_append, List.nil_append, List.set_cons_zero, List.set_cons_succ, Nat.reduceSub, to_ok, wipeP, true_and, capk0, capk1, capk2, capk3, capk4, capk5, capk6, capk7, capk8]
    refine w_dix ?_
    simp only [w_int, w_bl, w_non, w_no, w_str, w_nil, w_one, w_var, toVar_some, w_glob, toGl_some, toTup_tup, toBl_true, toBl_false, w_cons, w_tup, w_lst, w_bin, w_cmp, w_chain, w_not, w_and, w_or, w_ife, toInt_int, w_neg, w_idx, w_slice, w_isi, w_call, w_call0, w_meth, w_blt, toSeq_tup, w_star, w_rev, onNx_nx, onNx_rt, onNx_ct, x_skip, x_seq, toSl_some, x_set, x_setC, x_par, x_ret, x_expr, x_cont, x_sif, onRt_rt, onRt_nx, onTurn_nx, onTurn_ct, onTurn_rt, lay, layN, List.map_cons, List.map_nil, List.getElem?_cons_zero, List.getElem?_cons_succ, Nat.sub_self, List.replicate_zero, List.replicate_succ, List.append_nil, List.cons_append, List.nil_append, List.set_cons_zero, List.set_cons_succ, Nat.reduceSub, to_ok, wipeP, true_and, capk0, capk1, capk2, capk3, capk4, capk5, capk6, capk7, capk8]
    refine ⟨d, _, _, _, rfl, gd2, rfl, val_cells, ?_⟩
    simp only [idx_lst hc2 hv2, w_int, w_bl, w_non, w_no, w_str, w_nil, w_one, w_var, toVar_some, w_glob, toGl_some, toTup_tup, toBl_true, toBl_false, w_cons, w_tup, w_lst, w_bin, w_cmp, w_chain, w_not, w_and, w_or, w_ife, toInt_int, w_neg, w_idx, w_slice, w_isi, w_call, w_call0, w_meth, w_blt, toSeq_tup, w_star, w_rev, onNx_nx, onNx_rt, onNx_ct, x_skip, x_seq, toSl_some, x_set, x_setC, x_par, x_ret, x_expr, x_cont, x_sif, onRt_rt, onRt_nx, onTurn_nx, onTurn_ct, onTurn_rt, lay, layN, List.map_cons, List.map_nil, List.getElem?_cons_zero, List.getElem?_cons_succ, Nat.sub_self, List.replicate_zero, List.replicate_succ, List.append_nil, List.cons_append, List.nil_append, List.set_cons_zero, List.set_cons_succ, Nat.reduceSub, to_ok, wipeP, true_and, capk0, capk1, capk2, capk3, capk4, capk5, capk6, capk7, capk8, w_add]
    obtain ⟨y1, e1, y10, y11⟩ := mixed_ok (n := n) (s := s2) (x := cells[j]) (k := (t : Int)) (by omega) (by omega)
    rw [e1]
    obtain ⟨y2, e2, y20, y21⟩ := mixed_ok (n := n) (s := s2) (x := y1) (k := 40 + (t : Int)) (by omega) (by omega)
    simp only [w_int, w_bl, w_non, w_no, w_str, w_nil, w_one, w_var, toVar_some, w_glob, toGl_some, toTup_tup, toBl_true, toBl_false, w_cons, w_tup, w_lst, w_bin, w_cmp, w_chain, w_not, w_and, w_or, w_ife, toInt_int, w_neg, w_idx, w_slice, w_isi, w_call, w_call0, w_meth, w_blt, toSeq_tup, w_star, w_rev, onNx_nx, onNx_rt, onNx_ct, x_skip, x_seq, toSl_some, x_set, x_setC, x_par, x_ret, x_expr, x_cont, x_sif, onRt_rt, onRt_nx, onTurn_nx, onTurn_ct, onTurn_rt, lay, layN, List.map_cons, List.map_nil, List.getElem?_cons_zero, List.getElem?_cons_succ, Nat.sub_self, List.replicate_zero, List.replicate_succ, List.append_nil, List.cons_append, List.nil_append, List.set_cons_zero, List.set_cons_succ, Nat.reduceSub, to_ok, wipeP, true_and, capk0, capk1, capk2, capk3, capk4, capk5, capk6, capk7, capk8, e2]
    obtain ⟨y3, e3, y30, y31⟩ := mixed_ok (n := n) (s := s2) (x := y2) (k := 7 + (t : Int)) (by omega) (by omega)
    simp only [w_int, w_bl, w_non, w_no, w_str, w_nil, w_one, w_var, toVar_some, w_glob, toGl_some, toTup_tup, toBl_true, toBl_false, w_cons, w_tup, w_lst, w_bin, w_cmp, w_chain, w_not, w_and, w_or, w_ife, toInt_int, w_neg, w_idx, w_slice, w_isi, w_call, w_call0, w_meth, w_blt, toSeq_tup, w_star, w_rev, onNx_nx, onNx_rt, onNx_ct, x_skip, x_seq, toSl_some, x_set, x_setC, x_par, x_ret, x_expr, x_cont, x_sif, onRt_rt, onRt_nx, onTurn_nx, onTurn_ct, onTurn_rt, lay, layN, List.map_cons, List.map_nil, List.getElem?_cons_zero, List.getElem?_cons_succ, Nat.sub_self, List.replicate_zero, List.replicate_succ, List.append_nil, List.cons_append, List.nil_append, List.set_cons_zero, List.set_cons_succ, Nat.reduceSub, to_ok, wipeP, true_and, capk0, capk1, capk2, capk3, capk4, capk5, capk6, capk7, capk8, w_mul (small_lt y20 (by omega)) (small_lt (by decide : (0 : Int) ≤ 2147483647) (by decide)), w_add, e3, w_toint, w_fdiv (by decide : (0 : Int) < 64) (small_lt (by decide) (by decide)), w_mod h0]
    refine ⟨⟨((y2 * 2147483647 + y3) / 64 % m).toNat, ?_, ?_⟩, done, f2⟩
    · rw [Int.toNat_of_nonneg (Int.emod_nonneg _ (by omega))]
    · rw [Int.toNat_of_nonneg (Int.emod_nonneg _ (by omega))]
      exact Int.emod_lt_of_pos _ h0
theorem begin_ok {i : Nat} {ns : List Int} (hs : look i s.os = some (.rol (ns.map .int))) (hin : i < s.n) (hl : ns.length ≤ 63) : (runF T (n + 1) f__law_begin [.lst i] s).to fun v s' => Fr [] s s' ∧ ∃ d l, v = .dct d ∧ St s' d l 0 ∧ s.n ≤ d ∧ s.n ≤ l := by
  refine run_to d__law_begin rfl ?_
  simp only [c__law_begin, w_int, w_bl, w_non, w_no, w_str, w_nil, w_one, w_var, toVar_some, w_glob, toGl_some, toTup_tup, toBl_true, toBl_false, w_cons, w_tup, w_lst, w_bin, w_cmp, w_chain, w_not, w_and, w_or, w_ife, toInt_int, w_neg, w_idx, w_slice, w_isi, w_call, w_call0, w_meth, w_blt, toSeq_tup, w_star, w_rev, onNx_nx, onNx_rt, onNx_ct, x_skip, x_seq, toSl_some, x_set, x_setC, x_par, x_ret, x_expr, x_cont, x_sif, onRt_rt, onRt_nx, onTurn_nx, onTurn_ct, onTurn_rt, lay, layN, List.map_cons, List.map_nil, List.getElem?_cons_zero, List.getElem?_cons_succ, Nat.sub_self, List.replicate_zero, List.replicate_succ, List.append_nil, List.cons_append, List.nil_append, List.set_cons_zero, List.set_cons_succ, Nat.reduceSub, to_ok, wipeP, true_and, capk0, capk1, capk2, capk3, capk4, capk5, capk6, capk7, capk8]
  have hs2 : look i (s.new (.lst [])).os = some (.rol (ns.map .int)) := (look_old hin).trans hs
  have f2 : Fr [] s (s.new (.lst [])) := .new
  have hE : At (s.new (.lst [])) s.n [] := .new
  generalize s.new (.lst []) = s2 at hs2 f2 hE ⊢
  have hg : s2.getL i = some (ns.map .int) := by unfold Sto.getL; rw [hs2]
  have hg2 : s2.getL s.n = some (([] : List Int).map .int) := hE.getL
  have rest : ∀ (c : Nat) (cells : List Int) (s3 : Sto), Fr [] s s3 → At s3 c (cells.map .int) → s.n ≤ c → 0 < cells.length → cells.length ≤ 63 →
      (ev T (runF T n) (.ddisp (.cons (.str "cells") (.cons (.var 1) (.cons (.str "lefts") (.cons (.comp [("_law_cell", 2)] (.tn 2) (.iseq (.var 1)) (.bl true) (.ife (.cmp .ge (.var 2) (.bin .pow (.int 10) (.int 18))) (.var 2) (.int 0))) (.cons (.str "at") (.cons (.int 0) (.cons (.str "room") (.cons (.int 0) .nil))))))))) [some (.lst i), some (.lst c), none] s3).to fun v s' => Fr [] s s' ∧ ∃ d l, v = .dct d ∧ St s' d l 0 ∧ s.n ≤ d ∧ s.n ≤ l := fun c cells s3 f3 hc hcn h0 h63 => by
    refine w_ddisp ?_
    simp only [w_int, w_bl, w_non, w_no, w_str, w_nil, w_one, w_var, toVar_some, w_glob, toGl_some, toTup_tup, toBl_true, toBl_false, w_cons, w_tup, w_lst, w_bin, w_cmp, w_chain, w_not, w_and, w_or, w_ife, toInt_int, w_neg, w_idx, w_slice, w_isi, w_call, w_call0, w_meth, w_blt, toSeq_tup, w_star, w_rev, onNx_nx, onNx_rt, onNx_ct, x_skip, x_seq, toSl_some, x_set, x_setC, x_par, x_ret, x_expr, x_cont, x_sif, onRt_rt, onRt_nx, onTurn_nx, onTurn_ct, onTurn_rt, lay, layN, List.map_cons, List.map_nil, List.getElem?_cons_zero, List.getElem?_cons_succ, Nat.sub_self, List.replicate_zero, List.replicate_succ, List.append_nil, List.cons_append, List.nil_append, List.set_cons_zero, List.set_cons_succ, Nat.reduceSub, to_ok, wipeP, true_and, capk0, capk1, capk2, capk3, capk4, capk5, capk6, capk7, capk8]
    refine comp_pure cells PV.int (fun x => some (.int (if 10 ^ 18 ≤ x then x else 0))) ?_ (by simp [cap]; omega) (fun x hx s' hs => ?_) fun il s4 hf4 hA4 hi4 => ?_
    · simp only [j_seq, w_int, w_bl, w_non, w_no, w_str, w_nil, w_one, w_var, toVar_some, w_glob, toGl_some, toTup_tup, toBl_true, toBl_false, w_cons, w_tup, w_lst, w_bin, w_cmp, w_chain, w_not, w_and, w_or, w_ife, toInt_int, w_neg, w_idx, w_slice, w_isi, w_call, w_call0, w_meth, w_blt, toSeq_tup, w_star, w_rev, onNx_nx, onNx_rt, onNx_ct, x_skip, x_seq, toSl_some, x_set, x_setC, x_par, x_ret, x_expr, x_cont, x_sif, onRt_rt, onRt_nx, onTurn_nx, onTurn_ct, onTurn_rt, lay, layN, List.map_cons, List.map_nil, List.getElem?_cons_zero, List.getElem?_cons_succ, Nat.sub_self, List.replicate_zero, List.replicate_succ, List.append_nil, List.cons_append, List.nil_append, List.set_cons_zero, List.set_cons_succ, Nat.reduceSub, to_ok, wipeP, true_and, capk0, capk1, capk2, capk3, capk4, capk5, capk6, capk7, capk8]
      exact ⟨_, hc.getL, by simp [It.most, hc.getL], sees_l fun s'' hs'' => hc.fr0 hs'', .refl⟩
    · have hp : ∀ {Q : PV → Sto → Prop}, (evBin .pow (.int 10) (.int 18) s').to Q = Q (.int (10 ^ 18)) s' := rfl
      simp only [Turn, w_int, w_bl, w_non, w_no, w_str, w_nil, w_one, w_var, toVar_some, w_glob, toGl_some, toTup_tup, toBl_true, toBl_false, w_cons, w_tup, w_lst, w_bin, w_cmp, w_chain, w_not, w_and, w_or, w_ife, toInt_int, w_neg, w_idx, w_slice, w_isi, w_call, w_call0, w_meth, w_blt, toSeq_tup, w_star, w_rev, onNx_nx, onNx_rt, onNx_ct, x_skip, x_seq, toSl_some, x_set, x_setC, x_par, x_ret, x_expr, x_cont, x_sif, onRt_rt, onRt_nx, onTurn_nx, onTurn_ct, onTurn_rt, lay, layN, List.map_cons, List.map_nil, List.getElem?_cons_zero, List.getElem?_cons_succ, Nat.sub_self, List.replicate_zero, List.replicate_succ, List.append_nil, List.cons_append, List.nil_append, List.set_cons_zero, List.set_cons_succ, Nat.reduceSub, to_ok, wipeP, true_and, capk0, capk1, capk2, capk3, capk4, capk5, capk6, capk7, capk8, hp, w_ge]
      by_cases hc : (10 : Int) ^ 18 ≤ x
      · simp only [hc, decide_true, w_int, w_bl, w_non, w_no, w_str, w_nil, w_one, w_var, toVar_some, w_glob, toGl_some, toTup_tup, toBl_true, toBl_false, w_cons, w_tup, w_lst, w_bin, w_cmp, w_chain, w_not, w_and, w_or, w_ife, toInt_int, w_neg, w_idx, w_slice, w_isi, w_call, w_call0, w_meth, w_blt, toSeq_tup, w_star, w_rev, onNx_nx, onNx_rt, onNx_ct, x_skip, x_seq, toSl_some, x_set, x_setC, x_par, x_ret, x_expr, x_cont, x_sif, onRt_rt, onRt_nx, onTurn_nx, onTurn_ct, onTurn_rt, lay, layN, List.map_cons, List.map_nil, List.getElem?_cons_zero, List.getElem?_cons_succ, Nat.sub_self, List.replicate_zero, List.replicate_succ, List.append_nil, List.cons_append, List.nil_append, List.set_cons_zero, List.set_cons_succ, Nat.reduceSub, to_ok, wipeP, true_and, capk0, capk1, capk2, capk3, capk4, capk5, capk6, capk7, capk8, if_true]
        exact .refl
      · simp only [hc, decide_false, w_int, w_bl, w_non, w_no, w_str, w_nil, w_one, w_var, toVar_some, w_glob, toGl_some, toTup_tup, toBl_true, toBl_false, w_cons, w_tup, w_lst, w_bin, w_cmp, w_chain, w_not, w_and, w_or, w_ife, toInt_int, w_neg, w_idx, w_slice, w_isi, w_call, w_call0, w_meth, w_blt, toSeq_tup, w_star, w_rev, onNx_nx, onNx_rt, onNx_ct, x_skip, x_seq, toSl_some, x_set, x_setC, x_par, x_ret, x_expr, x_cont, x_sif, onRt_rt, onRt_nx, onTurn_nx, onTurn_ct, onTurn_rt, lay, layN, List.map_cons, List.map_nil, List.getElem?_cons_zero, List.getElem?_cons_succ, Nat.sub_self, List.replicate_zero, List.replicate_succ, List.append_nil, List.cons_append, List.nil_append, List.set_cons_zero, List.set_cons_succ, Nat.reduceSub, to_ok, wipeP, true_and, capk0, capk1, capk2, capk3, capk4, capk5, capk6, capk7, capk8, if_false]
        exact .refl
    · rw [fm_some, show cells.map (fun x => PV.int (if 10 ^ 18 ≤ x then x else 0)) = (cells.map fun x => if (10 : Int) ^ 18 ≤ x then x else 0).map PV.int by simp] at hA4
      try simp only [w_int, w_bl, w_non, w_no, w_str, w_nil, w_one, w_var, toVar_some, w_glob, toGl_some, toTup_tup, toBl_true, toBl_false, w_cons, w_tup, w_lst, w_bin, w_cmp, w_chain, w_not, w_and, w_or, w_ife, toInt_int, w_neg, w_idx, w_slice, w_isi, w_call, w_call0, w_meth, w_blt, toSeq_tup, w_star, w_rev, onNx_nx, onNx_rt, onNx_ct, x_skip, x_seq, toSl_some, x_set, x_setC, x_par, x_ret, x_expr, x_cont, x_sif, onRt_rt, onRt_nx, onTurn_nx, onTurn_ct, onTurn_rt, lay, layN, List.map_cons, List.map_nil, List.getElem?_cons_zero, List.getElem?_cons_succ, Nat.sub_self, List.replicate_zero, List.replicate_succ, List.append_nil, List.cons_append, List.nil_append, List.set_cons_zero, List.set_cons_succ, Nat.reduceSub, to_ok, wipeP, true_and, capk0, capk1, capk2, capk3, capk4, capk5, capk6, capk7, capk8]
      refine ⟨_, kvsOf c il 0, rfl, rfl, rfl, by simp [kvsOf], ?_⟩
      refine ⟨(f3.trans hf4).trans .new, _, il, rfl, ⟨c, cells, cells.map fun x => if (10 : Int) ^ 18 ≤ x then x else 0, 0, look_new, Nat.lt_succ_self _, (hc.fr0 hf4).fr0 .new, hA4.fr0 .new, by simp, h0, Nat.le_refl _, by have := hc.2; omega, by have := hc.2; have := hf4.le; omega⟩, (f3.trans hf4).le, Nat.le_trans f3.le hi4⟩
  cases hns : ns with
  | nil =>
    subst hns
    have e : eqP s2 (.lst i) (.lst s.n) = some true := eq_same (toD_script hg) (toD_script hg2) rfl (by simp [PyData.depth, PyData.depthAll])
    have e2 : ∀ {Q : PV → Sto → Prop}, (evCmp .ne (.lst i) (.lst s.n) s2).to Q = Q (.bl false) s2 := fun {Q} => by simp only [evCmp, e, to_ok, Bool.not_true]
    simp only [e2, w_int, w_bl, w_non, w_no, w_str, w_nil, w_one, w_var, toVar_some, w_glob, toGl_some, toTup_tup, toBl_true, toBl_false, w_cons, w_tup, w_lst, w_bin, w_cmp, w_chain, w_not, w_and, w_or, w_ife, toInt_int, w_neg, w_idx, w_slice, w_isi, w_call, w_call0, w_meth, w_blt, toSeq_tup, w_star, w_rev, onNx_nx, onNx_rt, onNx_ct, x_skip, x_seq, toSl_some, x_set, x_setC, x_par, x_ret, x_expr, x_cont, x_sif, onRt_rt, onRt_nx, onTurn_nx, onTurn_ct, onTurn_rt, lay, layN, List.map_cons, List.map_nil, List.getElem?_cons_zero, List.getElem?_cons_succ, Nat.sub_self, List.replicate_zero, List.replicate_succ, List.append_nil, List.cons_append, List.nil_append, List.set_cons_zero, List.set_cons_succ, Nat.reduceSub, to_ok, wipeP, true_and, capk0, capk1, capk2, capk3, capk4, capk5, capk6, capk7, capk8]
    have t := rest s2.n [0] (s2.new (.lst [.int 0])) (f2.trans .new) .new f2.le (by decide) (by decide)
    exact t
  | cons x xs =>
    subst hns
    have e : eqP s2 (.lst i) (.lst s.n) = some false := by
      simp only [eqP, isRep, toD_script hg, toD_script hg2]
      have h1 : SeqAt.shaped (.list ((x :: xs).map PyData.int)) = true := by
        have c1 : (PyData.list ((x :: xs).map PyData.int)).canLay0 = true := canAll fun a _ => rfl
        have c2 : (PyData.list ((x :: xs).map PyData.int)).depth ≤ 64 := dep_lst (m := 10) (fun a _ => by simp [PyData.depth]) (by decide)
        simp only [SeqAt.shaped, c1, c2, decide_true, Bool.and_self]
      have h2 : SeqAt.shaped (.list (([] : List Int).map PyData.int)) = true := rfl
      rw [h1, h2]
      rfl
    have e2 : ∀ {Q : PV → Sto → Prop}, (evCmp .ne (.lst i) (.lst s.n) s2).to Q = Q (.bl true) s2 := fun {Q} => by simp only [evCmp, e, to_ok, Bool.not_false]
    have e3 : ∀ {Q : PV → Sto → Prop}, (evBlt .list [.lst i] s2).to Q = Q (.lst s2.n) (s2.new (.lst ((x :: xs).map .int))) := fun {Q} => by simp only [evBlt, seqOf, hg, to_ok]
    simp only [e2, w_int, w_bl, w_non, w_no, w_str, w_nil, w_one, w_var, toVar_some, w_glob, toGl_some, toTup_tup, toBl_true, toBl_false, w_cons, w_tup, w_lst, w_bin, w_cmp, w_chain, w_not, w_and, w_or, w_ife, toInt_int, w_neg, w_idx, w_slice, w_isi, w_call, w_call0, w_meth, w_blt, toSeq_tup, w_star, w_rev, onNx_nx, onNx_rt, onNx_ct, x_skip, x_seq, toSl_some, x_set, x_setC, x_par, x_ret, x_expr, x_cont, x_sif, onRt_rt, onRt_nx, onTurn_nx, onTurn_ct, onTurn_rt, lay, layN, List.map_cons, List.map_nil, List.getElem?_cons_zero, List.getElem?_cons_succ, Nat.sub_self, List.replicate_zero, List.replicate_succ, List.append_nil, List.cons_append, List.nil_append, List.set_cons_zero, List.set_cons_succ, Nat.reduceSub, to_ok, wipeP, true_and, capk0, capk1, capk2, capk3, capk4, capk5, capk6, capk7, capk8, e3]
    have t := rest s2.n (x :: xs) (s2.new (.lst ((x :: xs).map .int))) (f2.trans .new) .new f2.le (by simp) hl
    exact t
end
end K39

namespace K39
open PySem FI GI
/-! ### runs -/
def rp (r : List Int) : PV := .tup (r.map .int)
def two (r : List Int) : List (List Int) := [r ++ [0], r ++ [1]]
def lev : Nat → List (List Int)
  | 0 => [[]]
  | k + 1 => (lev k).flatMap two
def inn : Nat → List (List Int)
  | 0 => []
  | k + 1 => inn k ++ lev k
theorem lev_len : ∀ k, (lev k).length = 2 ^ k
  | 0 => rfl
  | k + 1 => by
    simp only [lev, List.length_flatMap, two, List.length_cons, List.length_nil]
    have : (lev k).length = 2 ^ k := lev_len k
    rw [List.map_const', List.sum_replicate_nat, this, Nat.pow_succ]
theorem pow16 {k : Nat} (h : k ≤ 5) : 2 ^ k ≤ 32 := Nat.le_trans (Nat.pow_le_pow_right (by decide) h) (by decide)
theorem inn_len : ∀ k, (inn k).length + 1 = 2 ^ k
  | 0 => rfl
  | k + 1 => by
    simp only [inn, List.length_append, lev_len]
    have := inn_len k
    rw [Nat.pow_succ]
    omega
section
variable {n : Nat} {a b : Rat} {s : Sto} {Q : PV → Sto → Prop}
theorem add_rp {r : List Int} {o : Int} (h : r.length ≤ 100) : (evBin .add (rp r) (.tup [.int o]) s).to Q = Q (rp (r ++ [o])) s := by
  simp only [rp, evBin, List.length_map, List.length_cons, List.length_nil, List.map_append, List.map_cons, List.map_nil]
  rw [if_pos (by simp [cap]; omega), to_ok]
theorem lev_mem_len : ∀ {k : Nat} {r : List Int}, r ∈ lev k → r.length = k
  | 0, r, h => by simp [lev] at h; subst h; rfl
  | k + 1, r, h => by
    simp only [lev, List.mem_flatMap, two, List.mem_cons, List.not_mem_nil, or_false] at h
    obtain ⟨r', h1, h2⟩ := h
    have := lev_mem_len h1
    rcases h2 with rfl | rfl <;> simp [this]
theorem flat_take {α β : Type} {l : List α} {k : Nat} {x : α} {f : α → List β} (h : l[k]? = some x) : (l.take (k + 1)).flatMap f = (l.take k).flatMap f ++ f x := by
  rw [List.take_add_one, h, Option.toList_some, List.flatMap_append]
  simp
theorem flat_len {l : List (List Int)} : (l.flatMap two).length = 2 * l.length := by
  induction l with
  | nil => rfl
  | cons x l ih => simp [two, ih]; omega
/-- the law's lists of runs -/
theorem allruns_ok {L : Nat} (hL : L ≤ 5) : (runF T (n + 1) f__law_all_runs [.int (L : Int)] s).to fun v s' => Fr [] s s' ∧ ∃ i j, v = .tup [.lst i, .lst j] ∧ At s' i ((inn L).map rp) ∧ At s' j ((lev L).map rp) ∧ s.n ≤ i ∧ s.n ≤ j := by
  refine run_to d__law_all_runs rfl ?_
  simp only [c__law_all_runs, w_int, w_bl, w_non, w_no, w_str, w_nil, w_one, w_var, toVar_some, w_glob, toGl_some, toTup_tup, toBl_true, toBl_false, w_cons, w_tup, w_lst, w_bin, w_cmp, w_chain, w_not, w_and, w_or, w_ife, toInt_int, w_neg, w_idx, w_slice, w_isi, w_call, w_call0, w_meth, w_blt, toSeq_tup, w_star, w_rev, onNx_nx, onNx_rt, onNx_ct, x_skip, x_seq, toSl_some, x_set, x_setC, x_par, x_ret, x_expr, x_cont, x_sif, onRt_rt, onRt_nx, onTurn_nx, onTurn_ct, onTurn_rt, lay, layN, List.map_cons, List.map_nil, List.getElem?_cons_zero, List.getElem?_cons_succ, Nat.sub_self, List.replicate_zero, List.replicate_succ, List.append_nil, List.cons_append, List.nil_append, List.set_cons_zero, List.set_cons_succ, Nat.reduceSub, to_ok, wipeP, true_and, capk0, capk1, capk2, capk3, capk4, capk5, capk6, capk7, capk8]
  refine x_for (List.range L) (fun k => .int (k : Int)) (fun _ => True) (fun k σ s' => Fr [] s s' ∧ ∃ i j x3 x4 x5, σ = [some (.int (L : Int)), some (.lst i), some (.lst j), x3, x4, x5] ∧ At s' i ((inn k).map rp) ∧ At s' j ((lev k).map rp) ∧ s.n ≤ i ∧ s.n ≤ j) ?_ (fun _ _ _ _ => trivial) (fun k x σ s' hx ⟨f1, i, j, x3, x4, x5, e, hi, hj, hi', hj'⟩ => ?_) (fun σ s' ⟨f1, i, j, x3, x4, x5, e, hi, hj, hi', hj'⟩ => ?_)
  · simp only [j_rng, w_int, w_bl, w_non, w_no, w_str, w_nil, w_one, w_var, toVar_some, w_glob, toGl_some, toTup_tup, toBl_true, toBl_false, w_cons, w_tup, w_lst, w_bin, w_cmp, w_chain, w_not, w_and, w_or, w_ife, toInt_int, w_neg, w_idx, w_slice, w_isi, w_call, w_call0, w_meth, w_blt, toSeq_tup, w_star, w_rev, onNx_nx, onNx_rt, onNx_ct, x_skip, x_seq, toSl_some, x_set, x_setC, x_par, x_ret, x_expr, x_cont, x_sif, onRt_rt, onRt_nx, onTurn_nx, onTurn_ct, onTurn_rt, lay, layN, List.map_cons, List.map_nil, List.getElem?_cons_zero, List.getElem?_cons_succ, Nat.sub_self, List.replicate_zero, List.replicate_succ, List.append_nil, List.cons_append, List.nil_append, List.set_cons_zero, List.set_cons_succ, Nat.reduceSub, to_ok, wipeP, true_and, capk0, capk1, capk2, capk3, capk4, capk5, capk6, capk7, capk8]
    refine ⟨⟨by omega, by omega⟩, by simp [It.most], by simpa using sees_r (n := L), Fr.new.trans .new, s.n, s.n + 1, none, none, none, rfl, At.new.fr0 .new, .new, Nat.le_refl _, Nat.le_succ _⟩
  · subst e
    have hk : k < L := by have := (List.getElem?_eq_some_iff.mp hx).1; simpa using this
    have hl1 : (inn k).length ≤ 32 := by have := inn_len k; have := pow16 (k := k) (by omega); omega
    have hl2 : (lev k).length ≤ 32 := by rw [lev_len]; exact pow16 (by omega)
    simp only [w_int, w_bl, w_non, w_no, w_str, w_nil, w_one, w_var, toVar_some, w_glob, toGl_some, toTup_tup, toBl_true, toBl_false, w_cons, w_tup, w_lst, w_bin, w_cmp, w_chain, w_not, w_and, w_or, w_ife, toInt_int, w_neg, w_idx, w_slice, w_isi, w_call, w_call0, w_meth, w_blt, toSeq_tup, w_star, w_rev, onNx_nx, onNx_rt, onNx_ct, x_skip, x_seq, toSl_some, x_set, x_setC, x_par, x_ret, x_expr, x_cont, x_sif, onRt_rt, onRt_nx, onTurn_nx, onTurn_ct, onTurn_rt, lay, layN, List.map_cons, List.map_nil, List.getElem?_cons_zero, List.getElem?_cons_succ, Nat.sub_self, List.replicate_zero, List.replicate_succ, List.append_nil, List.cons_append, List.nil_append, List.set_cons_zero, List.set_cons_succ, Nat.reduceSub, to_ok, wipeP, true_and, capk0, capk1, capk2, capk3, capk4, capk5, capk6, capk7, capk8]
    rw [addL hi hj (by simp [cap]; omega)]
    try simp only [w_int, w_bl, w_non, w_no, w_str, w_nil, w_one, w_var, toVar_some, w_glob, toGl_some, toTup_tup, toBl_true, toBl_false, w_cons, w_tup, w_lst, w_bin, w_cmp, w_chain, w_not, w_and, w_or, w_ife, toInt_int, w_neg, w_idx, w_slice, w_isi, w_call, w_call0, w_meth, w_blt, toSeq_tup, w_star, w_rev, onNx_nx, onNx_rt, onNx_ct, x_skip, x_seq, toSl_some, x_set, x_setC, x_par, x_ret, x_expr, x_cont, x_sif, onRt_rt, onRt_nx, onTurn_nx, onTurn_ct, onTurn_rt, lay, layN, List.map_cons, List.map_nil, List.getElem?_cons_zero, List.getElem?_cons_succ, Nat.sub_self, List.replicate_zero, List.replicate_succ, List.append_nil, List.cons_append, List.nil_append, List.set_cons_zero, List.set_cons_succ, Nat.reduceSub, to_ok, wipeP, true_and, capk0, capk1, capk2, capk3, capk4, capk5, capk6, capk7, capk8]
    refine x_for (lev k) rp (fun s'' => At s'' j ((lev k).map rp)) (fun m σ s'' => Fr [] s s'' ∧ At s'' s'.n ((inn (k + 1)).map rp) ∧ At s'' j ((lev k).map rp) ∧ ∃ i4 y5 y3, σ = [some (.int (L : Int)), some (.lst s'.n), some (.lst j), y3, some (.lst i4), y5] ∧ At s'' i4 ((((lev k).take m).flatMap two).map rp) ∧ s.n ≤ i4) ?_ (fun _ _ _ h => h.2.2.1) (fun m r σ s'' hr ⟨g1, g2, g3, i4, y5, y3, e, g4, g5⟩ => ?_) (fun σ s'' ⟨g1, g2, g3, i4, y5, y3, e, g4, g5⟩ => ?_)
    · simp only [j_seq, w_int, w_bl, w_non, w_no, w_str, w_nil, w_one, w_var, toVar_some, w_glob, toGl_some, toTup_tup, toBl_true, toBl_false, w_cons, w_tup, w_lst, w_bin, w_cmp, w_chain, w_not, w_and, w_or, w_ife, toInt_int, w_neg, w_idx, w_slice, w_isi, w_call, w_call0, w_meth, w_blt, toSeq_tup, w_star, w_rev, onNx_nx, onNx_rt, onNx_ct, x_skip, x_seq, toSl_some, x_set, x_setC, x_par, x_ret, x_expr, x_cont, x_sif, onRt_rt, onRt_nx, onTurn_nx, onTurn_ct, onTurn_rt, lay, layN, List.map_cons, List.map_nil, List.getElem?_cons_zero, List.getElem?_cons_succ, Nat.sub_self, List.replicate_zero, List.replicate_succ, List.append_nil, List.cons_append, List.nil_append, List.set_cons_zero, List.set_cons_succ, Nat.reduceSub, to_ok, wipeP, true_and, capk0, capk1, capk2, capk3, capk4, capk5, capk6, capk7, capk8]
      refine ⟨_, ((hj.fr0 .new).fr0 .new).getL, ?_, sees_l (fun s'' h => h), (f1.trans .new).trans .new, ?_, (hj.fr0 .new).fr0 .new, _, _, _, rfl, .new, Nat.le_trans f1.le (Nat.le_succ _)⟩
      · simp [It.most, ((hj.fr0 .new).fr0 .new).getL]
      · have z : At (s'.new (.lst ((inn k).map rp ++ (lev k).map rp))) s'.n ((inn (k + 1)).map rp) := by
          rw [inn, List.map_append]; exact .new
        exact z.fr0 .new
    · subst e
      have hm : m < (lev k).length := (List.getElem?_eq_some_iff.mp hr).1
      have hrl : r.length ≤ 100 := by rw [lev_mem_len (List.mem_of_getElem? hr)]; omega
      simp only [w_int, w_bl, w_non, w_no, w_str, w_nil, w_one, w_var, toVar_some, w_glob, toGl_some, toTup_tup, toBl_true, toBl_false, w_cons, w_tup, w_lst, w_bin, w_cmp, w_chain, w_not, w_and, w_or, w_ife, toInt_int, w_neg, w_idx, w_slice, w_isi, w_call, w_call0, w_meth, w_blt, toSeq_tup, w_star, w_rev, onNx_nx, onNx_rt, onNx_ct, x_skip, x_seq, toSl_some, x_set, x_setC, x_par, x_ret, x_expr, x_cont, x_sif, onRt_rt, onRt_nx, onTurn_nx, onTurn_ct, onTurn_rt, lay, layN, List.map_cons, List.map_nil, List.getElem?_cons_zero, List.getElem?_cons_succ, Nat.sub_self, List.replicate_zero, List.replicate_succ, List.append_nil, List.cons_append, List.nil_append, List.set_cons_zero, List.set_cons_succ, Nat.reduceSub, to_ok, wipeP, true_and, capk0, capk1, capk2, capk3, capk4, capk5, capk6, capk7, capk8, add_rp hrl]
      have hfl : ((((lev k).take m).flatMap two).map rp).length ≤ 64 := by rw [List.length_map, flat_len, List.length_take]; omega
      rw [addL (g4.fr0 .new) .new (by simp only [cap, List.length_cons, List.length_nil]; omega)]
      try simp only [w_int, w_bl, w_non, w_no, w_str, w_nil, w_one, w_var, toVar_some, w_glob, toGl_some, toTup_tup, toBl_true, toBl_false, w_cons, w_tup, w_lst, w_bin, w_cmp, w_chain, w_not, w_and, w_or, w_ife, toInt_int, w_neg, w_idx, w_slice, w_isi, w_call, w_call0, w_meth, w_blt, toSeq_tup, w_star, w_rev, onNx_nx, onNx_rt, onNx_ct, x_skip, x_seq, toSl_some, x_set, x_setC, x_par, x_ret, x_expr, x_cont, x_sif, onRt_rt, onRt_nx, onTurn_nx, onTurn_ct, onTurn_rt, lay, layN, List.map_cons, List.map_nil, List.getElem?_cons_zero, List.getElem?_cons_succ, Nat.sub_self, List.replicate_zero, List.replicate_succ, List.append_nil, List.cons_append, List.nil_append, List.set_cons_zero, List.set_cons_succ, Nat.reduceSub, to_ok, wipeP, true_and, capk0, capk1, capk2, capk3, capk4, capk5, capk6, capk7, capk8]
      refine ⟨(g1.trans .new).trans .new, (g2.fr0 .new).fr0 .new, (g3.fr0 .new).fr0 .new, _, _, _, rfl, ?_, Nat.le_trans g1.le (Nat.le_succ _)⟩
      rw [flat_take hr, List.map_append]
      exact .new
    · subst e
      simp only [w_int, w_bl, w_non, w_no, w_str, w_nil, w_one, w_var, toVar_some, w_glob, toGl_some, toTup_tup, toBl_true, toBl_false, w_cons, w_tup, w_lst, w_bin, w_cmp, w_chain, w_not, w_and, w_or, w_ife, toInt_int, w_neg, w_idx, w_slice, w_isi, w_call, w_call0, w_meth, w_blt, toSeq_tup, w_star, w_rev, onNx_nx, onNx_rt, onNx_ct, x_skip, x_seq, toSl_some, x_set, x_setC, x_par, x_ret, x_expr, x_cont, x_sif, onRt_rt, onRt_nx, onTurn_nx, onTurn_ct, onTurn_rt, lay, layN, List.map_cons, List.map_nil, List.getElem?_cons_zero, List.getElem?_cons_succ, Nat.sub_self, List.replicate_zero, List.replicate_succ, List.append_nil, List.cons_append, List.nil_append, List.set_cons_zero, List.set_cons_succ, Nat.reduceSub, to_ok, wipeP, true_and, capk0, capk1, capk2, capk3, capk4, capk5, capk6, capk7, capk8]
      refine ⟨g1, s'.n, i4, _, _, _, rfl, g2, ?_, f1.le, g5⟩
      rw [List.take_length] at g4
      exact g4
  · subst e
    simp only [w_int, w_bl, w_non, w_no, w_str, w_nil, w_one, w_var, toVar_some, w_glob, toGl_some, toTup_tup, toBl_true, toBl_false, w_cons, w_tup, w_lst, w_bin, w_cmp, w_chain, w_not, w_and, w_or, w_ife, toInt_int, w_neg, w_idx, w_slice, w_isi, w_call, w_call0, w_meth, w_blt, toSeq_tup, w_star, w_rev, onNx_nx, onNx_rt, onNx_ct, x_skip, x_seq, toSl_some, x_set, x_setC, x_par, x_ret, x_expr, x_cont, x_sif, onRt_rt, onRt_nx, onTurn_nx, onTurn_ct, onTurn_rt, lay, layN, List.map_cons, List.map_nil, List.getElem?_cons_zero, List.getElem?_cons_succ, Nat.sub_self, List.replicate_zero, List.replicate_succ, List.append_nil, List.cons_append, List.nil_append, List.set_cons_zero, List.set_cons_succ, Nat.reduceSub, to_ok, wipeP, true_and, capk0, capk1, capk2, capk3, capk4, capk5, capk6, capk7, capk8]
    rw [List.length_range] at hi hj
    exact ⟨f1, i, j, rfl, hi, hj, hi', hj'⟩
/-! ### numbers of runs, chances -/
def spot (r : List Int) : Nat := r.foldl (fun x o => 2 * x + 1 + o.toNat) 0
def bit (o : Int) : Prop := o = 0 ∨ o = 1
theorem lev_bits : ∀ {k : Nat} {r : List Int}, r ∈ lev k → ∀ o ∈ r, bit o
  | 0, r, h, o, ho => by simp [lev] at h; subst h; cases ho
  | k + 1, r, h, o, ho => by
    simp only [lev, List.mem_flatMap, two, List.mem_cons, List.not_mem_nil, or_false] at h
    obtain ⟨r', h1, h2⟩ := h
    have ih := lev_bits h1
    rcases h2 with rfl | rfl <;>
    · rw [List.mem_append, List.mem_singleton] at ho
      rcases ho with ho | ho
      · exact ih o ho
      · subst ho; first | exact .inl rfl | exact .inr rfl
theorem spot_snoc {r : List Int} {o : Int} : spot (r ++ [o]) = 2 * spot r + 1 + o.toNat := by simp [spot, List.foldl_append]
theorem spot_lt : ∀ (k : Nat) (r : List Int), r.length = k → (∀ o ∈ r, bit o) → spot r + 1 < 2 ^ (r.length + 1)
  | 0, r, h, _ => by
    have : r = [] := List.length_eq_zero_iff.mp h
    subst this; decide
  | k + 1, r, h, hb => by
    have hne : r ≠ [] := by rintro rfl; simp at h
    have e := List.dropLast_concat_getLast hne
    have hl : r.dropLast.length = k := by rw [List.length_dropLast]; omega
    have ih := spot_lt k r.dropLast hl fun o ho => hb o (List.dropLast_subset r ho)
    have hg : bit (r.getLast hne) := hb _ (List.getLast_mem hne)
    have hl2 : r.length + 1 = (r.dropLast.length + 1) + 1 := by omega
    have e1 : spot r = 2 * spot r.dropLast + 1 + (r.getLast hne).toNat := (congrArg spot e).symm.trans spot_snoc
    have hz : (r.getLast hne).toNat ≤ 1 := by rcases hg with z | z <;> rw [z] <;> decide
    rw [e1, hl2, Nat.pow_succ]
    omega
theorem pure_ints : ∀ r : List Int, pureVs (r.map PV.int) = true
  | [] => rfl
  | x :: r => by simp only [List.map_cons, pureVs, pureV, pure_ints r, Bool.and_self]
theorem pure_rp (r : List Int) : pureV (rp r) = true := by simp only [rp, pureV, pure_ints]
theorem pure_map {α : Type} {f : α → PV} : ∀ {l : List α}, (∀ a ∈ l, pureV (f a) = true) → pureVs (l.map f) = true
  | [], _ => rfl
  | a :: l, h => by
    simp only [List.map_cons, pureVs, h a List.mem_cons_self, pure_map fun b hb => h b (List.mem_cons_of_mem _ hb), Bool.and_self]
theorem pure_q : pureV (q a) = true := rfl
theorem pure_qs {l : List Rat} : pureV (.tup (l.map q)) = true := by simp only [pureV]; exact pure_map fun _ _ => rfl
theorem spot_ok {r : List Int} (hb : ∀ o ∈ r, bit o) (hl : r.length ≤ 10) : runF T (n + 1) f_spot_of [rp r] s = .ok (.int (spot r : Int)) s := by
  refine run_pu d_spot_of rfl (by simp only [pureVs, pure_rp, Bool.and_self]) rfl ?_
  simp only [c_spot_of, w_int, w_bl, w_non, w_no, w_str, w_nil, w_one, w_var, toVar_some, w_glob, toGl_some, toTup_tup, toBl_true, toBl_false, w_cons, w_tup, w_lst, w_bin, w_cmp, w_chain, w_not, w_and, w_or, w_ife, toInt_int, w_neg, w_idx, w_slice, w_isi, w_call, w_call0, w_meth, w_blt, toSeq_tup, w_star, w_rev, onNx_nx, onNx_rt, onNx_ct, x_skip, x_seq, toSl_some, x_set, x_setC, x_par, x_ret, x_expr, x_cont, x_sif, onRt_rt, onRt_nx, onTurn_nx, onTurn_ct, onTurn_rt, lay, layN, List.map_cons, List.map_nil, List.getElem?_cons_zero, List.getElem?_cons_succ, Nat.sub_self, List.replicate_zero, List.replicate_succ, List.append_nil, List.cons_append, List.nil_append, List.set_cons_zero, List.set_cons_succ, Nat.reduceSub, to_ok, wipeP, true_and, capk0, capk1, capk2, capk3, capk4, capk5, capk6, capk7, capk8]
  refine x_for r PV.int (fun _ => True) (fun k σ s' => ∃ o, σ = [some (rp r), some (.int (spot (r.take k) : Int)), o]) ?_ (fun _ _ _ _ => trivial) (fun k x σ s' hx ⟨o, e⟩ => ?_) (fun σ s' ⟨o, e⟩ => ?_)
  · simp only [j_seq, w_int, w_bl, w_non, w_no, w_str, w_nil, w_one, w_var, toVar_some, w_glob, toGl_some, toTup_tup, toBl_true, toBl_false, w_cons, w_tup, w_lst, w_bin, w_cmp, w_chain, w_not, w_and, w_or, w_ife, toInt_int, w_neg, w_idx, w_slice, w_isi, w_call, w_call0, w_meth, w_blt, toSeq_tup, w_star, w_rev, onNx_nx, onNx_rt, onNx_ct, x_skip, x_seq, toSl_some, x_set, x_setC, x_par, x_ret, x_expr, x_cont, x_sif, onRt_rt, onRt_nx, onTurn_nx, onTurn_ct, onTurn_rt, lay, layN, List.map_cons, List.map_nil, List.getElem?_cons_zero, List.getElem?_cons_succ, Nat.sub_self, List.replicate_zero, List.replicate_succ, List.append_nil, List.cons_append, List.nil_append, List.set_cons_zero, List.set_cons_succ, Nat.reduceSub, to_ok, wipeP, true_and, capk0, capk1, capk2, capk3, capk4, capk5, capk6, capk7, capk8, rp]
    exact ⟨by simp [It.most], sees_t, none, rfl⟩
  · subst e
    have hm := List.mem_of_getElem? hx
    have hk : k < r.length := (List.getElem?_eq_some_iff.mp hx).1
    have hs := spot_lt k (r.take k) (by simp; omega) fun o ho => hb o (List.mem_of_mem_take ho)
    have hs2 : spot (r.take k) < 2 ^ 11 := by
      have : 2 ^ ((r.take k).length + 1) ≤ 2 ^ 11 := Nat.pow_le_pow_right (by decide) (by simp; omega)
      omega
    simp only [w_int, w_bl, w_non, w_no, w_str, w_nil, w_one, w_var, toVar_some, w_glob, toGl_some, toTup_tup, toBl_true, toBl_false, w_cons, w_tup, w_lst, w_bin, w_cmp, w_chain, w_not, w_and, w_or, w_ife, toInt_int, w_neg, w_idx, w_slice, w_isi, w_call, w_call0, w_meth, w_blt, toSeq_tup, w_star, w_rev, onNx_nx, onNx_rt, onNx_ct, x_skip, x_seq, toSl_some, x_set, x_setC, x_par, x_ret, x_expr, x_cont, x_sif, onRt_rt, onRt_nx, onTurn_nx, onTurn_ct, onTurn_rt, lay, layN, List.map_cons, List.map_nil, List.getElem?_cons_zero, List.getElem?_cons_succ, Nat.sub_self, List.replicate_zero, List.replicate_succ, List.append_nil, List.cons_append, List.nil_append, List.set_cons_zero, List.set_cons_succ, Nat.reduceSub, to_ok, wipeP, true_and, capk0, capk1, capk2, capk3, capk4, capk5, capk6, capk7, capk8, w_add]
    have hs3 : (spot (r.take k) : Int) < 18446744073709551616 := by omega
    rw [w_mul (small_lt (by decide : (0 : Int) ≤ 2) (by decide)) (small_lt (Int.natCast_nonneg _) hs3)]
    simp only [w_int, w_bl, w_non, w_no, w_str, w_nil, w_one, w_var, toVar_some, w_glob, toGl_some, toTup_tup, toBl_true, toBl_false, w_cons, w_tup, w_lst, w_bin, w_cmp, w_chain, w_not, w_and, w_or, w_ife, toInt_int, w_neg, w_idx, w_slice, w_isi, w_call, w_call0, w_meth, w_blt, toSeq_tup, w_star, w_rev, onNx_nx, onNx_rt, onNx_ct, x_skip, x_seq, toSl_some, x_set, x_setC, x_par, x_ret, x_expr, x_cont, x_sif, onRt_rt, onRt_nx, onTurn_nx, onTurn_ct, onTurn_rt, lay, layN, List.map_cons, List.map_nil, List.getElem?_cons_zero, List.getElem?_cons_succ, Nat.sub_self, List.replicate_zero, List.replicate_succ, List.append_nil, List.cons_append, List.nil_append, List.set_cons_zero, List.set_cons_succ, Nat.reduceSub, to_ok, wipeP, true_and, capk0, capk1, capk2, capk3, capk4, capk5, capk6, capk7, capk8, w_add]
    refine ⟨some (.int x), ?_⟩
    rw [List.take_add_one, hx, Option.toList_some, spot_snoc]
    rcases hb x hm with z | z <;> subst z <;> simp <;> rfl
  · subst e
    simp only [w_int, w_bl, w_non, w_no, w_str, w_nil, w_one, w_var, toVar_some, w_glob, toGl_some, toTup_tup, toBl_true, toBl_false, w_cons, w_tup, w_lst, w_bin, w_cmp, w_chain, w_not, w_and, w_or, w_ife, toInt_int, w_neg, w_idx, w_slice, w_isi, w_call, w_call0, w_meth, w_blt, toSeq_tup, w_star, w_rev, onNx_nx, onNx_rt, onNx_ct, x_skip, x_seq, toSl_some, x_set, x_setC, x_par, x_ret, x_expr, x_cont, x_sif, onRt_rt, onRt_nx, onTurn_nx, onTurn_ct, onTurn_rt, lay, layN, List.map_cons, List.map_nil, List.getElem?_cons_zero, List.getElem?_cons_succ, Nat.sub_self, List.replicate_zero, List.replicate_succ, List.append_nil, List.cons_append, List.nil_append, List.set_cons_zero, List.set_cons_succ, Nat.reduceSub, to_ok, wipeP, true_and, capk0, capk1, capk2, capk3, capk4, capk5, capk6, capk7, capk8, List.take_length]
/-- what comes at a place of a run -/
def fac (fs : List Rat) (r : List Int) (k : Nat) : Rat := if r[k]? = some 1 then fs.getD (spot (r.take k)) 0 else 1 - fs.getD (spot (r.take k)) 0
def prb (fs : List Rat) (r : List Int) : Nat → Rat
  | 0 => 1
  | k + 1 => prb fs r k * fac fs r k
def prob (fs : List Rat) (r : List Int) : Rat := prb fs r r.length
theorem fac_app {fs : List Rat} {r : List Int} {o : Int} {k : Nat} (h : k < r.length) : fac fs (r ++ [o]) k = fac fs r k := by
  unfold fac
  rw [List.getElem?_append_left h, List.take_append_of_le_length (by omega)]
theorem prb_app {fs : List Rat} {r : List Int} {o : Int} : ∀ {k : Nat}, k ≤ r.length → prb fs (r ++ [o]) k = prb fs r k
  | 0, _ => rfl
  | k + 1, h => by rw [prb, prb, prb_app (by omega), fac_app (by omega)]
theorem prob_snoc {fs : List Rat} {r : List Int} {o : Int} : prob fs (r ++ [o]) = prob fs r * (if o = 1 then fs.getD (spot r) 0 else 1 - fs.getD (spot r) 0) := by
  unfold prob
  rw [List.length_append, List.length_singleton, prb, prb_app (Nat.le_refl _)]
  unfold fac
  simp
theorem prob_two {fs : List Rat} {r : List Int} : prob fs (r ++ [0]) + prob fs (r ++ [1]) = prob fs r := by
  rw [prob_snoc, prob_snoc]
  simp
  grind
theorem prob_nil {fs : List Rat} : prob fs [] = 1 := rfl
theorem prob_lev {fs : List Rat} : ∀ k, S ((lev k).map (prob fs)) = 1
  | 0 => by simp only [lev, List.map_cons, List.map_nil, S, prob_nil]; grind
  | k + 1 => by
    have aux : ∀ l : List (List Int), S ((l.flatMap two).map (prob fs)) = S (l.map (prob fs)) := by
      intro l
      induction l with
      | nil => rfl
      | cons r l ih =>
        simp only [List.flatMap_cons, List.map_append, List.map_cons, S_app, S, ih, two, List.map_nil]
        have := prob_two (fs := fs) (r := r)
        grind
    rw [lev, aux]
    exact prob_lev k
theorem W_one : W 1 1 := ⟨by decide, by decide⟩
/-- chances: so many, each small -/
structure Ch (L : Nat) (fs : List Rat) : Prop where
  len : fs.length = (inn L).length
  w : ∀ x ∈ fs, W 24 x
theorem W_fac {L : Nat} {fs : List Rat} {r : List Int} {k : Nat} (h : Ch L fs) : W 26 (fac fs r k) := by
  have hg : W 24 (fs.getD (spot (r.take k)) 0) := by
    rw [List.getD_eq_getElem?_getD]
    cases e : fs[spot (r.take k)]? with
    | none => exact W.zero.mono (by decide)
    | some x => exact h.w x (List.mem_of_getElem? e)
  unfold fac
  split
  · exact hg.mono (by decide)
  · exact (W_one.sub hg).mono (by decide)
theorem W_prb {L : Nat} {fs : List Rat} {r : List Int} (h : Ch L fs) : ∀ k, W (1 + 26 * k) (prb fs r k)
  | 0 => W_one
  | k + 1 => ((W_prb h k).mul (W_fac h)).mono (by omega)
theorem W_prob {L : Nat} {fs : List Rat} {r : List Int} (h : Ch L fs) (hl : r.length ≤ 5) : W 131 (prob fs r) := (W_prb h r.length).mono (by omega)
theorem W_prob4 {L : Nat} {fs : List Rat} {r : List Int} (h : Ch L fs) (hl : r.length ≤ 4) : W 105 (prob fs r) := (W_prb h r.length).mono (by omega)
theorem take_ok {r : List Int} {k : Nat} (h : k ≤ r.length) : (evSlice (rp r) none (some (k : Int)) s).to Q = Q (rp (r.take k)) s := by
  simp only [rp, evSlice, cutP, HT.sIx_none, HT.sIx_nat, to_ok, List.length_map, Nat.min_eq_left h, List.drop_zero, Nat.sub_zero, List.map_take]
theorem spot_in {L : Nat} {r : List Int} {k : Nat} (hb : ∀ o ∈ r, bit o) (hl : r.length ≤ L) (hk : k < r.length) : spot (r.take k) < (inn L).length := by
  have h1 := spot_lt k (r.take k) (by simp; omega) fun o ho => hb o (List.mem_of_mem_take ho)
  have h2 := inn_len L
  have h3 : 2 ^ ((r.take k).length + 1) ≤ 2 ^ L := Nat.pow_le_pow_right (by decide) (by simp; omega)
  omega
theorem getD_at {l : List Rat} {k : Nat} (h : k < l.length) : (l.map q)[k]? = some (q (l.getD k 0)) := by
  simp [List.getElem?_eq_getElem h]
theorem glob_sure : T.consts[2]? = some (q 1) := rfl
theorem glob_nought : T.consts[0]? = some (q 0) := rfl
theorem cap3 {r : List Int} {L : Nat} : True := trivial
theorem eqI1 {o : Int} : (evCmp .eq (.int o) (.int 1) s).to Q = Q (.bl (decide (o = 1))) s := w_eqI
theorem chancein_ok {L : Nat} {fs : List Rat} {r : List Int} (h : Ch L fs) (hL : L ≤ 5) (hb : ∀ o ∈ r, bit o) (hl : r.length ≤ L) : runF T (n + 4) f_chance_in [.tup (fs.map q), rp r] s = .ok (q (prob fs r)) s := by
  refine run_pu d_chance_in rfl (by simp only [pureVs, pure_rp, pure_qs, Bool.and_self]) rfl ?_
  simp only [c_chance_in, w_int, w_bl, w_non, w_no, w_str, w_nil, w_one, w_var, toVar_some, w_glob, toGl_some, toTup_tup, toBl_true, toBl_false, w_cons, w_tup, w_lst, w_bin, w_cmp, w_chain, w_not, w_and, w_or, w_ife, toInt_int, w_neg, w_idx, w_slice, w_isi, w_call, w_call0, w_meth, w_blt, toSeq_tup, w_star, w_rev, onNx_nx, onNx_rt, onNx_ct, x_skip, x_seq, toSl_some, x_set, x_setC, x_par, x_ret, x_expr, x_cont, x_sif, onRt_rt, onRt_nx, onTurn_nx, onTurn_ct, onTurn_rt, lay, layN, List.map_cons, List.map_nil, List.getElem?_cons_zero, List.getElem?_cons_succ, Nat.sub_self, List.replicate_zero, List.replicate_succ, List.append_nil, List.cons_append, List.nil_append, List.set_cons_zero, List.set_cons_succ, Nat.reduceSub, to_ok, wipeP, true_and, capk0, capk1, capk2, capk3, capk4, capk5, capk6, capk7, capk8, glob_sure]
  refine x_for r.zipIdx (fun p => .tup [.int (p.2 : Int), .int p.1]) (fun _ => True) (fun k σ s' => ∃ o1 o2 o3, σ = [some (.tup (fs.map q)), some (rp r), some (q (prb fs r k)), o1, o2, o3]) ?_ (fun _ _ _ _ => trivial) (fun k x σ s' hx ⟨o1, o2, o3, e⟩ => ?_) (fun σ s' ⟨o1, o2, o3, e⟩ => ?_)
  · simp only [j_enum, w_int, w_bl, w_non, w_no, w_str, w_nil, w_one, w_var, toVar_some, w_glob, toGl_some, toTup_tup, toBl_true, toBl_false, w_cons, w_tup, w_lst, w_bin, w_cmp, w_chain, w_not, w_and, w_or, w_ife, toInt_int, w_neg, w_idx, w_slice, w_isi, w_call, w_call0, w_meth, w_blt, toSeq_tup, w_star, w_rev, onNx_nx, onNx_rt, onNx_ct, x_skip, x_seq, toSl_some, x_set, x_setC, x_par, x_ret, x_expr, x_cont, x_sif, onRt_rt, onRt_nx, onTurn_nx, onTurn_ct, onTurn_rt, lay, layN, List.map_cons, List.map_nil, List.getElem?_cons_zero, List.getElem?_cons_succ, Nat.sub_self, List.replicate_zero, List.replicate_succ, List.append_nil, List.cons_append, List.nil_append, List.set_cons_zero, List.set_cons_succ, Nat.reduceSub, to_ok, wipeP, true_and, capk0, capk1, capk2, capk3, capk4, capk5, capk6, capk7, capk8, rp]
    exact ⟨_, rfl, by simp [It.most], sees_en_t, none, none, none, rfl⟩
  · subst e
    have hk : k < r.length := by have := (List.getElem?_eq_some_iff.mp hx).1; simpa using this
    have ex : x = (r[k], k) := by
      rw [List.getElem?_eq_getElem (by simpa using hk)] at hx
      have := Option.some.inj hx
      rw [← this]; simp
    subst ex
    have hsp := spot_in hb hl hk
    simp only [w_int, w_bl, w_non, w_no, w_str, w_nil, w_one, w_var, toVar_some, w_glob, toGl_some, toTup_tup, toBl_true, toBl_false, w_cons, w_tup, w_lst, w_bin, w_cmp, w_chain, w_not, w_and, w_or, w_ife, toInt_int, w_neg, w_idx, w_slice, w_isi, w_call, w_call0, w_meth, w_blt, toSeq_tup, w_star, w_rev, onNx_nx, onNx_rt, onNx_ct, x_skip, x_seq, toSl_some, x_set, x_setC, x_par, x_ret, x_expr, x_cont, x_sif, onRt_rt, onRt_nx, onTurn_nx, onTurn_ct, onTurn_rt, lay, layN, List.map_cons, List.map_nil, List.getElem?_cons_zero, List.getElem?_cons_succ, Nat.sub_self, List.replicate_zero, List.replicate_succ, List.append_nil, List.cons_append, List.nil_append, List.set_cons_zero, List.set_cons_succ, Nat.reduceSub, to_ok, wipeP, true_and, capk0, capk1, capk2, capk3, capk4, capk5, capk6, capk7, capk8]
    refine ⟨none, some (k : Int), rfl, rfl, ?_⟩
    rw [take_ok (by omega), spot_ok (fun o ho => hb o (List.mem_of_mem_take ho)) (by simp; omega)]
    simp only [w_int, w_bl, w_non, w_no, w_str, w_nil, w_one, w_var, toVar_some, w_glob, toGl_some, toTup_tup, toBl_true, toBl_false, w_cons, w_tup, w_lst, w_bin, w_cmp, w_chain, w_not, w_and, w_or, w_ife, toInt_int, w_neg, w_idx, w_slice, w_isi, w_call, w_call0, w_meth, w_blt, toSeq_tup, w_star, w_rev, onNx_nx, onNx_rt, onNx_ct, x_skip, x_seq, toSl_some, x_set, x_setC, x_par, x_ret, x_expr, x_cont, x_sif, onRt_rt, onRt_nx, onTurn_nx, onTurn_ct, onTurn_rt, lay, layN, List.map_cons, List.map_nil, List.getElem?_cons_zero, List.getElem?_cons_succ, Nat.sub_self, List.replicate_zero, List.replicate_succ, List.append_nil, List.cons_append, List.nil_append, List.set_cons_zero, List.set_cons_succ, Nat.reduceSub, to_ok, wipeP, true_and, capk0, capk1, capk2, capk3, capk4, capk5, capk6, capk7, capk8]
    rw [idx_tup (getD_at (by rw [h.len]; exact hsp))]
    have hg : W 24 (fs.getD (spot (r.take k)) 0) := by
      rw [List.getD_eq_getElem?_getD, List.getElem?_eq_getElem (by rw [h.len]; exact hsp)]
      exact h.w _ (List.getElem_mem _)
    have hp : W 4000 (prb fs r k) := (W_prb h k).mono (by omega)
    have hf : W 4000 (fac fs r k) := (W_fac h).mono (by decide)
    simp only [w_int, w_bl, w_non, w_no, w_str, w_nil, w_one, w_var, toVar_some, w_glob, toGl_some, toTup_tup, toBl_true, toBl_false, w_cons, w_tup, w_lst, w_bin, w_cmp, w_chain, w_not, w_and, w_or, w_ife, toInt_int, w_neg, w_idx, w_slice, w_isi, w_call, w_call0, w_meth, w_blt, toSeq_tup, w_star, w_rev, onNx_nx, onNx_rt, onNx_ct, x_skip, x_seq, toSl_some, x_set, x_setC, x_par, x_ret, x_expr, x_cont, x_sif, onRt_rt, onRt_nx, onTurn_nx, onTurn_ct, onTurn_rt, lay, layN, List.map_cons, List.map_nil, List.getElem?_cons_zero, List.getElem?_cons_succ, Nat.sub_self, List.replicate_zero, List.replicate_succ, List.append_nil, List.cons_append, List.nil_append, List.set_cons_zero, List.set_cons_succ, Nat.reduceSub, to_ok, wipeP, true_and, capk0, capk1, capk2, capk3, capk4, capk5, capk6, capk7, capk8, w_eqI, glob_sure]
    have ef : fac fs r k = if r[k] = 1 then fs.getD (spot (r.take k)) 0 else 1 - fs.getD (spot (r.take k)) 0 := by
      unfold fac
      rw [List.getElem?_eq_getElem hk]
      simp
    by_cases h1 : r[k] = 1
    · rw [if_pos h1] at ef
      simp only [h1, decide_true, w_int, w_bl, w_non, w_no, w_str, w_nil, w_one, w_var, toVar_some, w_glob, toGl_some, toTup_tup, toBl_true, toBl_false, w_cons, w_tup, w_lst, w_bin, w_cmp, w_chain, w_not, w_and, w_or, w_ife, toInt_int, w_neg, w_idx, w_slice, w_isi, w_call, w_call0, w_meth, w_blt, toSeq_tup, w_star, w_rev, onNx_nx, onNx_rt, onNx_ct, x_skip, x_seq, toSl_some, x_set, x_setC, x_par, x_ret, x_expr, x_cont, x_sif, onRt_rt, onRt_nx, onTurn_nx, onTurn_ct, onTurn_rt, lay, layN, List.map_cons, List.map_nil, List.getElem?_cons_zero, List.getElem?_cons_succ, Nat.sub_self, List.replicate_zero, List.replicate_succ, List.append_nil, List.cons_append, List.nil_append, List.set_cons_zero, List.set_cons_succ, Nat.reduceSub, to_ok, wipeP, true_and, capk0, capk1, capk2, capk3, capk4, capk5, capk6, capk7, capk8]
      rw [← ef, mul_ok hp hf]
      simp only [w_int, w_bl, w_non, w_no, w_str, w_nil, w_one, w_var, toVar_some, w_glob, toGl_some, toTup_tup, toBl_true, toBl_false, w_cons, w_tup, w_lst, w_bin, w_cmp, w_chain, w_not, w_and, w_or, w_ife, toInt_int, w_neg, w_idx, w_slice, w_isi, w_call, w_call0, w_meth, w_blt, toSeq_tup, w_star, w_rev, onNx_nx, onNx_rt, onNx_ct, x_skip, x_seq, toSl_some, x_set, x_setC, x_par, x_ret, x_expr, x_cont, x_sif, onRt_rt, onRt_nx, onTurn_nx, onTurn_ct, onTurn_rt, lay, layN, List.map_cons, List.map_nil, List.getElem?_cons_zero, List.getElem?_cons_succ, Nat.sub_self, List.replicate_zero, List.replicate_succ, List.append_nil, List.cons_append, List.nil_append, List.set_cons_zero, List.set_cons_succ, Nat.reduceSub, to_ok, wipeP, true_and, capk0, capk1, capk2, capk3, capk4, capk5, capk6, capk7, capk8]
      exact ⟨_, _, _, rfl⟩
    · rw [if_neg h1] at ef
      simp only [h1, decide_false, w_int, w_bl, w_non, w_no, w_str, w_nil, w_one, w_var, toVar_some, w_glob, toGl_some, toTup_tup, toBl_true, toBl_false, w_cons, w_tup, w_lst, w_bin, w_cmp, w_chain, w_not, w_and, w_or, w_ife, toInt_int, w_neg, w_idx, w_slice, w_isi, w_call, w_call0, w_meth, w_blt, toSeq_tup, w_star, w_rev, onNx_nx, onNx_rt, onNx_ct, x_skip, x_seq, toSl_some, x_set, x_setC, x_par, x_ret, x_expr, x_cont, x_sif, onRt_rt, onRt_nx, onTurn_nx, onTurn_ct, onTurn_rt, lay, layN, List.map_cons, List.map_nil, List.getElem?_cons_zero, List.getElem?_cons_succ, Nat.sub_self, List.replicate_zero, List.replicate_succ, List.append_nil, List.cons_append, List.nil_append, List.set_cons_zero, List.set_cons_succ, Nat.reduceSub, to_ok, wipeP, true_and, capk0, capk1, capk2, capk3, capk4, capk5, capk6, capk7, capk8, glob_sure]
      rw [sub_ok (W_one.mono (by decide)) (hg.mono (by decide))]
      simp only [w_int, w_bl, w_non, w_no, w_str, w_nil, w_one, w_var, toVar_some, w_glob, toGl_some, toTup_tup, toBl_true, toBl_false, w_cons, w_tup, w_lst, w_bin, w_cmp, w_chain, w_not, w_and, w_or, w_ife, toInt_int, w_neg, w_idx, w_slice, w_isi, w_call, w_call0, w_meth, w_blt, toSeq_tup, w_star, w_rev, onNx_nx, onNx_rt, onNx_ct, x_skip, x_seq, toSl_some, x_set, x_setC, x_par, x_ret, x_expr, x_cont, x_sif, onRt_rt, onRt_nx, onTurn_nx, onTurn_ct, onTurn_rt, lay, layN, List.map_cons, List.map_nil, List.getElem?_cons_zero, List.getElem?_cons_succ, Nat.sub_self, List.replicate_zero, List.replicate_succ, List.append_nil, List.cons_append, List.nil_append, List.set_cons_zero, List.set_cons_succ, Nat.reduceSub, to_ok, wipeP, true_and, capk0, capk1, capk2, capk3, capk4, capk5, capk6, capk7, capk8]
      rw [← ef, mul_ok hp hf]
      simp only [w_int, w_bl, w_non, w_no, w_str, w_nil, w_one, w_var, toVar_some, w_glob, toGl_some, toTup_tup, toBl_true, toBl_false, w_cons, w_tup, w_lst, w_bin, w_cmp, w_chain, w_not, w_and, w_or, w_ife, toInt_int, w_neg, w_idx, w_slice, w_isi, w_call, w_call0, w_meth, w_blt, toSeq_tup, w_star, w_rev, onNx_nx, onNx_rt, onNx_ct, x_skip, x_seq, toSl_some, x_set, x_setC, x_par, x_ret, x_expr, x_cont, x_sif, onRt_rt, onRt_nx, onTurn_nx, onTurn_ct, onTurn_rt, lay, layN, List.map_cons, List.map_nil, List.getElem?_cons_zero, List.getElem?_cons_succ, Nat.sub_self, List.replicate_zero, List.replicate_succ, List.append_nil, List.cons_append, List.nil_append, List.set_cons_zero, List.set_cons_succ, Nat.reduceSub, to_ok, wipeP, true_and, capk0, capk1, capk2, capk3, capk4, capk5, capk6, capk7, capk8]
      exact ⟨_, _, _, rfl⟩
  · subst e
    simp only [w_int, w_bl, w_non, w_no, w_str, w_nil, w_one, w_var, toVar_some, w_glob, toGl_some, toTup_tup, toBl_true, toBl_false, w_cons, w_tup, w_lst, w_bin, w_cmp, w_chain, w_not, w_and, w_or, w_ife, toInt_int, w_neg, w_idx, w_slice, w_isi, w_call, w_call0, w_meth, w_blt, toSeq_tup, w_star, w_rev, onNx_nx, onNx_rt, onNx_ct, x_skip, x_seq, toSl_some, x_set, x_setC, x_par, x_ret, x_expr, x_cont, x_sif, onRt_rt, onRt_nx, onTurn_nx, onTurn_ct, onTurn_rt, lay, layN, List.map_cons, List.map_nil, List.getElem?_cons_zero, List.getElem?_cons_succ, Nat.sub_self, List.replicate_zero, List.replicate_succ, List.append_nil, List.cons_append, List.nil_append, List.set_cons_zero, List.set_cons_succ, Nat.reduceSub, to_ok, wipeP, true_and, capk0, capk1, capk2, capk3, capk4, capk5, capk6, capk7, capk8, List.length_zipIdx]
    rfl
end
end K39

namespace K39
open PySem FI GI
section
variable {n : Nat} {a b : Rat} {s : Sto} {Q : PV → Sto → Prop} {L : Nat} {rs : List (Rat × Rat)} {fs : List Rat}
theorem len15 (h1 : 1 ≤ L) (h5 : L ≤ 5) : L = 1 ∨ L = 2 ∨ L = 3 ∨ L = 4 ∨ L = 5 := by omega
theorem innercount_ok (h1 : 1 ≤ L) (h5 : L ≤ 5) : runF T (n + 4) f_inner_count [.int (L : Int)] s = .ok (.int ((inn L).length : Int)) s := by
  rcases len15 h1 h5 with rfl | rfl | rfl | rfl | rfl <;> kernel_rfl
theorem glob_most : T.consts[1]? = some (.int 5) := rfl
theorem needlength_ok (h1 : 1 ≤ L) (h5 : L ≤ 5) : runF T (n + 2) f_need_length [.int (L : Int)] s = .ok .non s := by
  rcases len15 h1 h5 with rfl | rfl | rfl | rfl | rfl <;> kernel_rfl
def rg (p : Rat × Rat) : PV := .tup [q p.1, q p.2]
structure Fc (L : Nat) (rs : List (Rat × Rat)) : Prop where
  len : rs.length = (inn L).length
  ok : ∀ p ∈ rs, 0 ≤ p.1 ∧ p.1 ≤ p.2 ∧ p.2 ≤ 1 ∧ W 10 p.1 ∧ W 10 p.2
structure Cs (rs : List (Rat × Rat)) (fs : List Rat) : Prop where
  len : fs.length = rs.length
  ok : ∀ p ∈ rs.zip fs, p.1.1 ≤ p.2 ∧ p.2 ≤ p.1.2
theorem pure_rs : pureV (.tup (rs.map rg)) = true := by simp only [pureV]; exact pure_map fun _ _ => rfl
theorem within_ok {x : Rat} (ha : W 24 a) (hb : W 24 b) (hx : W 24 x) (h1 : a ≤ x) (h2 : x ≤ b) : runF T (n + 3) f_is_within [q a, q b, q x] s = .ok (.bl true) s := by
  refine run_pu d_is_within rfl rfl rfl ?_
  simp only [c_is_within, w_int, w_bl, w_non, w_no, w_str, w_nil, w_one, w_var, toVar_some, w_glob, toGl_some, toTup_tup, toBl_true, toBl_false, w_cons, w_tup, w_lst, w_bin, w_cmp, w_chain, w_not, w_and, w_or, w_ife, toInt_int, w_neg, w_idx, w_slice, w_isi, w_call, w_call0, w_meth, w_blt, toSeq_tup, w_star, w_rev, onNx_nx, onNx_rt, onNx_ct, x_skip, x_seq, toSl_some, x_set, x_setC, x_par, x_ret, x_expr, x_cont, x_sif, onRt_rt, onRt_nx, onTurn_nx, onTurn_ct, onTurn_rt, lay, layN, List.map_cons, List.map_nil, List.getElem?_cons_zero, List.getElem?_cons_succ, Nat.sub_self, List.replicate_zero, List.replicate_succ, List.append_nil, List.cons_append, List.nil_append, List.set_cons_zero, List.set_cons_succ, Nat.reduceSub, to_ok, wipeP, true_and, capk0, capk1, capk2, capk3, capk4, capk5, capk6, capk7, capk8, isfrac_ok (hx.mono (by decide)), under_ok (hx.mono (by decide)) (ha.mono (by decide)), under_ok (hb.mono (by decide)) (hx.mono (by decide))]
  simp only [decide_eq_false (Rat.not_lt.mpr h1), decide_eq_false (Rat.not_lt.mpr h2), w_int, w_bl, w_non, w_no, w_str, w_nil, w_one, w_var, toVar_some, w_glob, toGl_some, toTup_tup, toBl_true, toBl_false, w_cons, w_tup, w_lst, w_bin, w_cmp, w_chain, w_not, w_and, w_or, w_ife, toInt_int, w_neg, w_idx, w_slice, w_isi, w_call, w_call0, w_meth, w_blt, toSeq_tup, w_star, w_rev, onNx_nx, onNx_rt, onNx_ct, x_skip, x_seq, toSl_some, x_set, x_setC, x_par, x_ret, x_expr, x_cont, x_sif, onRt_rt, onRt_nx, onTurn_nx, onTurn_ct, onTurn_rt, lay, layN, List.map_cons, List.map_nil, List.getElem?_cons_zero, List.getElem?_cons_succ, Nat.sub_self, List.replicate_zero, List.replicate_succ, List.append_nil, List.cons_append, List.nil_append, List.set_cons_zero, List.set_cons_succ, Nat.reduceSub, to_ok, wipeP, true_and, capk0, capk1, capk2, capk3, capk4, capk5, capk6, capk7, capk8]
theorem range_ok {p : Rat × Rat} (h : 0 ≤ p.1 ∧ p.1 ≤ p.2 ∧ p.2 ≤ 1 ∧ W 10 p.1 ∧ W 10 p.2) : runF T (n + 4) f_is_range [rg p] s = .ok (.bl true) s := by
  obtain ⟨h1, h2, h3, w1, w2⟩ := h
  refine run_pu d_is_range rfl rfl rfl ?_
  simp only [c_is_range, w_int, w_bl, w_non, w_no, w_str, w_nil, w_one, w_var, toVar_some, w_glob, toGl_some, toTup_tup, toBl_true, toBl_false, w_cons, w_tup, w_lst, w_bin, w_cmp, w_chain, w_not, w_and, w_or, w_ife, toInt_int, w_neg, w_idx, w_slice, w_isi, w_call, w_call0, w_meth, w_blt, toSeq_tup, w_star, w_rev, onNx_nx, onNx_rt, onNx_ct, x_skip, x_seq, toSl_some, x_set, x_setC, x_par, x_ret, x_expr, x_cont, x_sif, onRt_rt, onRt_nx, onTurn_nx, onTurn_ct, onTurn_rt, lay, layN, List.map_cons, List.map_nil, List.getElem?_cons_zero, List.getElem?_cons_succ, Nat.sub_self, List.replicate_zero, List.replicate_succ, List.append_nil, List.cons_append, List.nil_append, List.set_cons_zero, List.set_cons_succ, Nat.reduceSub, to_ok, wipeP, true_and, capk0, capk1, capk2, capk3, capk4, capk5, capk6, capk7, capk8, rg, isTy_tup, len_tup, ne_int, List.length_cons, List.length_nil]
  refine ⟨true, rfl, ?_⟩
  simp only [w_int, w_bl, w_non, w_no, w_str, w_nil, w_one, w_var, toVar_some, w_glob, toGl_some, toTup_tup, toBl_true, toBl_false, w_cons, w_tup, w_lst, w_bin, w_cmp, w_chain, w_not, w_and, w_or, w_ife, toInt_int, w_neg, w_idx, w_slice, w_isi, w_call, w_call0, w_meth, w_blt, toSeq_tup, w_star, w_rev, onNx_nx, onNx_rt, onNx_ct, x_skip, x_seq, toSl_some, x_set, x_setC, x_par, x_ret, x_expr, x_cont, x_sif, onRt_rt, onRt_nx, onTurn_nx, onTurn_ct, onTurn_rt, lay, layN, List.map_cons, List.map_nil, List.getElem?_cons_zero, List.getElem?_cons_succ, Nat.sub_self, List.replicate_zero, List.replicate_succ, List.append_nil, List.cons_append, List.nil_append, List.set_cons_zero, List.set_cons_succ, Nat.reduceSub, to_ok, wipeP, true_and, capk0, capk1, capk2, capk3, capk4, capk5, capk6, capk7, capk8, Nat.reduceAdd, Int.cast_ofNat_Int, decide_true, Bool.not_true]
  refine comp_pure [p.1, p.2] q (fun _ => some (.bl true)) ?_ (by simp [cap]) (fun x hx s' hs => ?_) fun i s' hf hA hi => ?_
  · simp only [j_seq, w_int, w_bl, w_non, w_no, w_str, w_nil, w_one, w_var, toVar_some, w_glob, toGl_some, toTup_tup, toBl_true, toBl_false, w_cons, w_tup, w_lst, w_bin, w_cmp, w_chain, w_not, w_and, w_or, w_ife, toInt_int, w_neg, w_idx, w_slice, w_isi, w_call, w_call0, w_meth, w_blt, toSeq_tup, w_star, w_rev, onNx_nx, onNx_rt, onNx_ct, x_skip, x_seq, toSl_some, x_set, x_setC, x_par, x_ret, x_expr, x_cont, x_sif, onRt_rt, onRt_nx, onTurn_nx, onTurn_ct, onTurn_rt, lay, layN, List.map_cons, List.map_nil, List.getElem?_cons_zero, List.getElem?_cons_succ, Nat.sub_self, List.replicate_zero, List.replicate_succ, List.append_nil, List.cons_append, List.nil_append, List.set_cons_zero, List.set_cons_succ, Nat.reduceSub, to_ok, wipeP, true_and, capk0, capk1, capk2, capk3, capk4, capk5, capk6, capk7, capk8]
    exact ⟨rfl, sees_t (L := [p.1, p.2]), .refl⟩
  · have hx' : 0 ≤ x ∧ x ≤ 1 ∧ W 10 x := by
      simp only [List.mem_cons, List.not_mem_nil, or_false] at hx
      rcases hx with rfl | rfl
      · exact ⟨h1, Rat.le_trans h2 h3, w1⟩
      · exact ⟨Rat.le_trans h1 h2, h3, w2⟩
    simp only [Turn, w_int, w_bl, w_non, w_no, w_str, w_nil, w_one, w_var, toVar_some, w_glob, toGl_some, toTup_tup, toBl_true, toBl_false, w_cons, w_tup, w_lst, w_bin, w_cmp, w_chain, w_not, w_and, w_or, w_ife, toInt_int, w_neg, w_idx, w_slice, w_isi, w_call, w_call0, w_meth, w_blt, toSeq_tup, w_star, w_rev, onNx_nx, onNx_rt, onNx_ct, x_skip, x_seq, toSl_some, x_set, x_setC, x_par, x_ret, x_expr, x_cont, x_sif, onRt_rt, onRt_nx, onTurn_nx, onTurn_ct, onTurn_rt, lay, layN, List.map_cons, List.map_nil, List.getElem?_cons_zero, List.getElem?_cons_succ, Nat.sub_self, List.replicate_zero, List.replicate_succ, List.append_nil, List.cons_append, List.nil_append, List.set_cons_zero, List.set_cons_succ, Nat.reduceSub, to_ok, wipeP, true_and, capk0, capk1, capk2, capk3, capk4, capk5, capk6, capk7, capk8, glob_nought, glob_sure]
    rw [within_ok (W.zero.mono (by decide)) (W_one.mono (by decide)) (hx'.2.2.mono (by decide)) hx'.1 hx'.2.1]
    simp only [w_int, w_bl, w_non, w_no, w_str, w_nil, w_one, w_var, toVar_some, w_glob, toGl_some, toTup_tup, toBl_true, toBl_false, w_cons, w_tup, w_lst, w_bin, w_cmp, w_chain, w_not, w_and, w_or, w_ife, toInt_int, w_neg, w_idx, w_slice, w_isi, w_call, w_call0, w_meth, w_blt, toSeq_tup, w_star, w_rev, onNx_nx, onNx_rt, onNx_ct, x_skip, x_seq, toSl_some, x_set, x_setC, x_par, x_ret, x_expr, x_cont, x_sif, onRt_rt, onRt_nx, onTurn_nx, onTurn_ct, onTurn_rt, lay, layN, List.map_cons, List.map_nil, List.getElem?_cons_zero, List.getElem?_cons_succ, Nat.sub_self, List.replicate_zero, List.replicate_succ, List.append_nil, List.cons_append, List.nil_append, List.set_cons_zero, List.set_cons_succ, Nat.reduceSub, to_ok, wipeP, true_and, capk0, capk1, capk2, capk3, capk4, capk5, capk6, capk7, capk8]
    exact .refl
  · rw [fm_some] at hA
    rw [all_lst hA]
    simp only [w_int, w_bl, w_non, w_no, w_str, w_nil, w_one, w_var, toVar_some, w_glob, toGl_some, toTup_tup, toBl_true, toBl_false, w_cons, w_tup, w_lst, w_bin, w_cmp, w_chain, w_not, w_and, w_or, w_ife, toInt_int, w_neg, w_idx, w_slice, w_isi, w_call, w_call0, w_meth, w_blt, toSeq_tup, w_star, w_rev, onNx_nx, onNx_rt, onNx_ct, x_skip, x_seq, toSl_some, x_set, x_setC, x_par, x_ret, x_expr, x_cont, x_sif, onRt_rt, onRt_nx, onTurn_nx, onTurn_ct, onTurn_rt, lay, layN, List.map_cons, List.map_nil, List.getElem?_cons_zero, List.getElem?_cons_succ, Nat.sub_self, List.replicate_zero, List.replicate_succ, List.append_nil, List.cons_append, List.nil_append, List.set_cons_zero, List.set_cons_succ, Nat.reduceSub, to_ok, wipeP, true_and, capk0, capk1, capk2, capk3, capk4, capk5, capk6, capk7, capk8, List.all_cons, List.all_nil, Bool.and_self]
    have e1 : ∀ {Q : PV → Sto → Prop}, (evIdx (.tup [q p.1, q p.2]) (.int 1) s').to Q = Q (q p.2) s' := fun {Q} => rfl
    have e0 : ∀ {Q : PV → Sto → Prop}, (evIdx (.tup [q p.1, q p.2]) (.int 0) s').to Q = Q (q p.1) s' := fun {Q} => rfl
    simp only [e1, e0, under_ok (w2.mono (by decide : 10 ≤ 4000)) (w1.mono (by decide : 10 ≤ 4000)), w_int, w_bl, w_non, w_no, w_str, w_nil, w_one, w_var, toVar_some, w_glob, toGl_some, toTup_tup, toBl_true, toBl_false, w_cons, w_tup, w_lst, w_bin, w_cmp, w_chain, w_not, w_and, w_or, w_ife, toInt_int, w_neg, w_idx, w_slice, w_isi, w_call, w_call0, w_meth, w_blt, toSeq_tup, w_star, w_rev, onNx_nx, onNx_rt, onNx_ct, x_skip, x_seq, toSl_some, x_set, x_setC, x_par, x_ret, x_expr, x_cont, x_sif, onRt_rt, onRt_nx, onTurn_nx, onTurn_ct, onTurn_rt, lay, layN, List.map_cons, List.map_nil, List.getElem?_cons_zero, List.getElem?_cons_succ, Nat.sub_self, List.replicate_zero, List.replicate_succ, List.append_nil, List.cons_append, List.nil_append, List.set_cons_zero, List.set_cons_succ, Nat.reduceSub, to_ok, wipeP, true_and, capk0, capk1, capk2, capk3, capk4, capk5, capk6, capk7, capk8, decide_eq_false (Rat.not_lt.mpr h2)]
theorem allt {α : Type} {l : List α} : l.all (fun _ => true) = true := by simp
theorem inn_le (h5 : L ≤ 5) : (inn L).length ≤ 31 := by have := inn_len L; have := pow16 h5; omega
theorem forecaster_ok (h : Fc L rs) (h1 : 1 ≤ L) (h5 : L ≤ 5) : runF T (n + 5) f_is_forecaster [.int (L : Int), .tup (rs.map rg)] s = .ok (.bl true) s := by
  refine run_pu d_is_forecaster rfl (by simp only [pureVs, pure_rs, Bool.and_self]; rfl) rfl ?_
  simp only [c_is_forecaster, w_int, w_bl, w_non, w_no, w_str, w_nil, w_one, w_var, toVar_some, w_glob, toGl_some, toTup_tup, toBl_true, toBl_false, w_cons, w_tup, w_lst, w_bin, w_cmp, w_chain, w_not, w_and, w_or, w_ife, toInt_int, w_neg, w_idx, w_slice, w_isi, w_call, w_call0, w_meth, w_blt, toSeq_tup, w_star, w_rev, onNx_nx, onNx_rt, onNx_ct, x_skip, x_seq, toSl_some, x_set, x_setC, x_par, x_ret, x_expr, x_cont, x_sif, onRt_rt, onRt_nx, onTurn_nx, onTurn_ct, onTurn_rt, lay, layN, List.map_cons, List.map_nil, List.getElem?_cons_zero, List.getElem?_cons_succ, Nat.sub_self, List.replicate_zero, List.replicate_succ, List.append_nil, List.cons_append, List.nil_append, List.set_cons_zero, List.set_cons_succ, Nat.reduceSub, to_ok, wipeP, true_and, capk0, capk1, capk2, capk3, capk4, capk5, capk6, capk7, capk8, isTy_tup, len_tup, List.length_map]
  refine ⟨true, rfl, ?_⟩
  simp only [w_int, w_bl, w_non, w_no, w_str, w_nil, w_one, w_var, toVar_some, w_glob, toGl_some, toTup_tup, toBl_true, toBl_false, w_cons, w_tup, w_lst, w_bin, w_cmp, w_chain, w_not, w_and, w_or, w_ife, toInt_int, w_neg, w_idx, w_slice, w_isi, w_call, w_call0, w_meth, w_blt, toSeq_tup, w_star, w_rev, onNx_nx, onNx_rt, onNx_ct, x_skip, x_seq, toSl_some, x_set, x_setC, x_par, x_ret, x_expr, x_cont, x_sif, onRt_rt, onRt_nx, onTurn_nx, onTurn_ct, onTurn_rt, lay, layN, List.map_cons, List.map_nil, List.getElem?_cons_zero, List.getElem?_cons_succ, Nat.sub_self, List.replicate_zero, List.replicate_succ, List.append_nil, List.cons_append, List.nil_append, List.set_cons_zero, List.set_cons_succ, Nat.reduceSub, to_ok, wipeP, true_and, capk0, capk1, capk2, capk3, capk4, capk5, capk6, capk7, capk8, innercount_ok h1 h5, ne_int, h.len, decide_true, Bool.not_true]
  refine comp_pure rs rg (fun _ => some (.bl true)) ?_ (by rw [h.len]; have := inn_le h5; simp [cap]; omega) (fun x hx s' hs => ?_) fun i s' hf hA hi => ?_
  · simp only [j_seq, w_int, w_bl, w_non, w_no, w_str, w_nil, w_one, w_var, toVar_some, w_glob, toGl_some, toTup_tup, toBl_true, toBl_false, w_cons, w_tup, w_lst, w_bin, w_cmp, w_chain, w_not, w_and, w_or, w_ife, toInt_int, w_neg, w_idx, w_slice, w_isi, w_call, w_call0, w_meth, w_blt, toSeq_tup, w_star, w_rev, onNx_nx, onNx_rt, onNx_ct, x_skip, x_seq, toSl_some, x_set, x_setC, x_par, x_ret, x_expr, x_cont, x_sif, onRt_rt, onRt_nx, onTurn_nx, onTurn_ct, onTurn_rt, lay, layN, List.map_cons, List.map_nil, List.getElem?_cons_zero, List.getElem?_cons_succ, Nat.sub_self, List.replicate_zero, List.replicate_succ, List.append_nil, List.cons_append, List.nil_append, List.set_cons_zero, List.set_cons_succ, Nat.reduceSub, to_ok, wipeP, true_and, capk0, capk1, capk2, capk3, capk4, capk5, capk6, capk7, capk8]
    exact ⟨by simp [It.most], sees_t, .refl⟩
  · simp only [Turn, w_int, w_bl, w_non, w_no, w_str, w_nil, w_one, w_var, toVar_some, w_glob, toGl_some, toTup_tup, toBl_true, toBl_false, w_cons, w_tup, w_lst, w_bin, w_cmp, w_chain, w_not, w_and, w_or, w_ife, toInt_int, w_neg, w_idx, w_slice, w_isi, w_call, w_call0, w_meth, w_blt, toSeq_tup, w_star, w_rev, onNx_nx, onNx_rt, onNx_ct, x_skip, x_seq, toSl_some, x_set, x_setC, x_par, x_ret, x_expr, x_cont, x_sif, onRt_rt, onRt_nx, onTurn_nx, onTurn_ct, onTurn_rt, lay, layN, List.map_cons, List.map_nil, List.getElem?_cons_zero, List.getElem?_cons_succ, Nat.sub_self, List.replicate_zero, List.replicate_succ, List.append_nil, List.cons_append, List.nil_append, List.set_cons_zero, List.set_cons_succ, Nat.reduceSub, to_ok, wipeP, true_and, capk0, capk1, capk2, capk3, capk4, capk5, capk6, capk7, capk8, range_ok (h.ok x hx)]
    exact .refl
  · rw [fm_some] at hA
    rw [all_lst hA, allt]
theorem needforecaster_ok (h : Fc L rs) (h1 : 1 ≤ L) (h5 : L ≤ 5) : runF T (n + 6) f_need_forecaster [.int (L : Int), .tup (rs.map rg)] s = .ok (.tup (rs.map rg)) s := by
  refine run_pu d_need_forecaster rfl (by simp only [pureVs, pure_rs, Bool.and_self]; rfl) pure_rs ?_
  simp only [c_need_forecaster, w_int, w_bl, w_non, w_no, w_str, w_nil, w_one, w_var, toVar_some, w_glob, toGl_some, toTup_tup, toBl_true, toBl_false, w_cons, w_tup, w_lst, w_bin, w_cmp, w_chain, w_not, w_and, w_or, w_ife, toInt_int, w_neg, w_idx, w_slice, w_isi, w_call, w_call0, w_meth, w_blt, toSeq_tup, w_star, w_rev, onNx_nx, onNx_rt, onNx_ct, x_skip, x_seq, toSl_some, x_set, x_setC, x_par, x_ret, x_expr, x_cont, x_sif, onRt_rt, onRt_nx, onTurn_nx, onTurn_ct, onTurn_rt, lay, layN, List.map_cons, List.map_nil, List.getElem?_cons_zero, List.getElem?_cons_succ, Nat.sub_self, List.replicate_zero, List.replicate_succ, List.append_nil, List.cons_append, List.nil_append, List.set_cons_zero, List.set_cons_succ, Nat.reduceSub, to_ok, wipeP, true_and, capk0, capk1, capk2, capk3, capk4, capk5, capk6, capk7, capk8, needlength_ok h1 h5, forecaster_ok h h1 h5]
theorem needchances_ok (h : Fc L rs) (h5 : L ≤ 5) (hc : Cs rs fs) (hw : Ch L fs) : runF T (n + 4) f_need_chances [.tup (rs.map rg), .tup (fs.map q)] s = .ok .non s := by
  refine run_pu d_need_chances rfl (by simp only [pureVs, pure_rs, pure_qs, Bool.and_self]) rfl ?_
  simp only [c_need_chances, w_int, w_bl, w_non, w_no, w_str, w_nil, w_one, w_var, toVar_some, w_glob, toGl_some, toTup_tup, toBl_true, toBl_false, w_cons, w_tup, w_lst, w_bin, w_cmp, w_chain, w_not, w_and, w_or, w_ife, toInt_int, w_neg, w_idx, w_slice, w_isi, w_call, w_call0, w_meth, w_blt, toSeq_tup, w_star, w_rev, onNx_nx, onNx_rt, onNx_ct, x_skip, x_seq, toSl_some, x_set, x_setC, x_par, x_ret, x_expr, x_cont, x_sif, onRt_rt, onRt_nx, onTurn_nx, onTurn_ct, onTurn_rt, lay, layN, List.map_cons, List.map_nil, List.getElem?_cons_zero, List.getElem?_cons_succ, Nat.sub_self, List.replicate_zero, List.replicate_succ, List.append_nil, List.cons_append, List.nil_append, List.set_cons_zero, List.set_cons_succ, Nat.reduceSub, to_ok, wipeP, true_and, capk0, capk1, capk2, capk3, capk4, capk5, capk6, capk7, capk8, isTy_tup, len_tup, List.length_map]
  refine ⟨true, rfl, ?_⟩
  simp only [w_int, w_bl, w_non, w_no, w_str, w_nil, w_one, w_var, toVar_some, w_glob, toGl_some, toTup_tup, toBl_true, toBl_false, w_cons, w_tup, w_lst, w_bin, w_cmp, w_chain, w_not, w_and, w_or, w_ife, toInt_int, w_neg, w_idx, w_slice, w_isi, w_call, w_call0, w_meth, w_blt, toSeq_tup, w_star, w_rev, onNx_nx, onNx_rt, onNx_ct, x_skip, x_seq, toSl_some, x_set, x_setC, x_par, x_ret, x_expr, x_cont, x_sif, onRt_rt, onRt_nx, onTurn_nx, onTurn_ct, onTurn_rt, lay, layN, List.map_cons, List.map_nil, List.getElem?_cons_zero, List.getElem?_cons_succ, Nat.sub_self, List.replicate_zero, List.replicate_succ, List.append_nil, List.cons_append, List.nil_append, List.set_cons_zero, List.set_cons_succ, Nat.reduceSub, to_ok, wipeP, true_and, capk0, capk1, capk2, capk3, capk4, capk5, capk6, capk7, capk8, ne_int, hc.len, decide_true, Bool.not_true]
  refine comp_pure (rs.zip fs) (fun p => .tup [rg p.1, q p.2]) (fun _ => some (.bl true)) ?_ (by rw [List.length_zip, h.len]; have := inn_le h5; simp [cap]; omega) (fun x hx s' hs => ?_) fun i s' hf hA hi => ?_
  · simp only [j_zip, w_int, w_bl, w_non, w_no, w_str, w_nil, w_one, w_var, toVar_some, w_glob, toGl_some, toTup_tup, toBl_true, toBl_false, w_cons, w_tup, w_lst, w_bin, w_cmp, w_chain, w_not, w_and, w_or, w_ife, toInt_int, w_neg, w_idx, w_slice, w_isi, w_call, w_call0, w_meth, w_blt, toSeq_tup, w_star, w_rev, onNx_nx, onNx_rt, onNx_ct, x_skip, x_seq, toSl_some, x_set, x_setC, x_par, x_ret, x_expr, x_cont, x_sif, onRt_rt, onRt_nx, onTurn_nx, onTurn_ct, onTurn_rt, lay, layN, List.map_cons, List.map_nil, List.getElem?_cons_zero, List.getElem?_cons_succ, Nat.sub_self, List.replicate_zero, List.replicate_succ, List.append_nil, List.cons_append, List.nil_append, List.set_cons_zero, List.set_cons_succ, Nat.reduceSub, to_ok, wipeP, true_and, capk0, capk1, capk2, capk3, capk4, capk5, capk6, capk7, capk8]
    exact ⟨_, rfl, by simp [It.most], sees_zp (fun s _ => rfl) (fun s _ => rfl), .refl⟩
  · obtain ⟨z1, z2⟩ := hc.ok x hx
    have hm := List.of_mem_zip hx
    obtain ⟨_, _, _, w1, w2⟩ := h.ok _ hm.1
    have w3 := hw.w _ hm.2
    simp only [Turn, w_int, w_bl, w_non, w_no, w_str, w_nil, w_one, w_var, toVar_some, w_glob, toGl_some, toTup_tup, toBl_true, toBl_false, w_cons, w_tup, w_lst, w_bin, w_cmp, w_chain, w_not, w_and, w_or, w_ife, toInt_int, w_neg, w_idx, w_slice, w_isi, w_call, w_call0, w_meth, w_blt, toSeq_tup, w_star, w_rev, onNx_nx, onNx_rt, onNx_ct, x_skip, x_seq, toSl_some, x_set, x_setC, x_par, x_ret, x_expr, x_cont, x_sif, onRt_rt, onRt_nx, onTurn_nx, onTurn_ct, onTurn_rt, lay, layN, List.map_cons, List.map_nil, List.getElem?_cons_zero, List.getElem?_cons_succ, Nat.sub_self, List.replicate_zero, List.replicate_succ, List.append_nil, List.cons_append, List.nil_append, List.set_cons_zero, List.set_cons_succ, Nat.reduceSub, to_ok, wipeP, true_and, capk0, capk1, capk2, capk3, capk4, capk5, capk6, capk7, capk8, rg]
    rw [within_ok (w1.mono (by decide)) (w2.mono (by decide)) w3 z1 z2]
    simp only [w_int, w_bl, w_non, w_no, w_str, w_nil, w_one, w_var, toVar_some, w_glob, toGl_some, toTup_tup, toBl_true, toBl_false, w_cons, w_tup, w_lst, w_bin, w_cmp, w_chain, w_not, w_and, w_or, w_ife, toInt_int, w_neg, w_idx, w_slice, w_isi, w_call, w_call0, w_meth, w_blt, toSeq_tup, w_star, w_rev, onNx_nx, onNx_rt, onNx_ct, x_skip, x_seq, toSl_some, x_set, x_setC, x_par, x_ret, x_expr, x_cont, x_sif, onRt_rt, onRt_nx, onTurn_nx, onTurn_ct, onTurn_rt, lay, layN, List.map_cons, List.map_nil, List.getElem?_cons_zero, List.getElem?_cons_succ, Nat.sub_self, List.replicate_zero, List.replicate_succ, List.append_nil, List.cons_append, List.nil_append, List.set_cons_zero, List.set_cons_succ, Nat.reduceSub, to_ok, wipeP, true_and, capk0, capk1, capk2, capk3, capk4, capk5, capk6, capk7, capk8]
    exact .refl
  · rw [fm_some] at hA
    rw [all_lst hA, allt]
    simp only [w_int, w_bl, w_non, w_no, w_str, w_nil, w_one, w_var, toVar_some, w_glob, toGl_some, toTup_tup, toBl_true, toBl_false, w_cons, w_tup, w_lst, w_bin, w_cmp, w_chain, w_not, w_and, w_or, w_ife, toInt_int, w_neg, w_idx, w_slice, w_isi, w_call, w_call0, w_meth, w_blt, toSeq_tup, w_star, w_rev, onNx_nx, onNx_rt, onNx_ct, x_skip, x_seq, toSl_some, x_set, x_setC, x_par, x_ret, x_expr, x_cont, x_sif, onRt_rt, onRt_nx, onTurn_nx, onTurn_ct, onTurn_rt, lay, layN, List.map_cons, List.map_nil, List.getElem?_cons_zero, List.getElem?_cons_succ, Nat.sub_self, List.replicate_zero, List.replicate_succ, List.append_nil, List.cons_append, List.nil_append, List.set_cons_zero, List.set_cons_succ, Nat.reduceSub, to_ok, wipeP, true_and, capk0, capk1, capk2, capk3, capk4, capk5, capk6, capk7, capk8]
theorem isrun_ok {r : List Int} (h5 : L ≤ 5) (hb : ∀ o ∈ r, bit o) (hl : r.length ≤ L) : runF T (n + 2) f_is_run [.int (L : Int), rp r] s = .ok (.bl true) s := by
  refine run_pu d_is_run rfl (by simp only [pureVs, pure_rp, Bool.and_self]; rfl) rfl ?_
  simp only [c_is_run, w_int, w_bl, w_non, w_no, w_str, w_nil, w_one, w_var, toVar_some, w_glob, toGl_some, toTup_tup, toBl_true, toBl_false, w_cons, w_tup, w_lst, w_bin, w_cmp, w_chain, w_not, w_and, w_or, w_ife, toInt_int, w_neg, w_idx, w_slice, w_isi, w_call, w_call0, w_meth, w_blt, toSeq_tup, w_star, w_rev, onNx_nx, onNx_rt, onNx_ct, x_skip, x_seq, toSl_some, x_set, x_setC, x_par, x_ret, x_expr, x_cont, x_sif, onRt_rt, onRt_nx, onTurn_nx, onTurn_ct, onTurn_rt, lay, layN, List.map_cons, List.map_nil, List.getElem?_cons_zero, List.getElem?_cons_succ, Nat.sub_self, List.replicate_zero, List.replicate_succ, List.append_nil, List.cons_append, List.nil_append, List.set_cons_zero, List.set_cons_succ, Nat.reduceSub, to_ok, wipeP, true_and, capk0, capk1, capk2, capk3, capk4, capk5, capk6, capk7, capk8, rp, isTy_tup, len_tup, List.length_map]
  refine ⟨true, rfl, ?_⟩
  simp only [w_int, w_bl, w_non, w_no, w_str, w_nil, w_one, w_var, toVar_some, w_glob, toGl_some, toTup_tup, toBl_true, toBl_false, w_cons, w_tup, w_lst, w_bin, w_cmp, w_chain, w_not, w_and, w_or, w_ife, toInt_int, w_neg, w_idx, w_slice, w_isi, w_call, w_call0, w_meth, w_blt, toSeq_tup, w_star, w_rev, onNx_nx, onNx_rt, onNx_ct, x_skip, x_seq, toSl_some, x_set, x_setC, x_par, x_ret, x_expr, x_cont, x_sif, onRt_rt, onRt_nx, onTurn_nx, onTurn_ct, onTurn_rt, lay, layN, List.map_cons, List.map_nil, List.getElem?_cons_zero, List.getElem?_cons_succ, Nat.sub_self, List.replicate_zero, List.replicate_succ, List.append_nil, List.cons_append, List.nil_append, List.set_cons_zero, List.set_cons_succ, Nat.reduceSub, to_ok, wipeP, true_and, capk0, capk1, capk2, capk3, capk4, capk5, capk6, capk7, capk8, w_gt, decide_eq_false (by omega : ¬ ((L : Int) < (r.length : Int)))]
  refine comp_pure r PV.int (fun _ => some (.bl true)) ?_ (by simp [cap]; omega) (fun x hx s' hs => ?_) fun i s' hf hA hi => ?_
  · simp only [j_seq, w_int, w_bl, w_non, w_no, w_str, w_nil, w_one, w_var, toVar_some, w_glob, toGl_some, toTup_tup, toBl_true, toBl_false, w_cons, w_tup, w_lst, w_bin, w_cmp, w_chain, w_not, w_and, w_or, w_ife, toInt_int, w_neg, w_idx, w_slice, w_isi, w_call, w_call0, w_meth, w_blt, toSeq_tup, w_star, w_rev, onNx_nx, onNx_rt, onNx_ct, x_skip, x_seq, toSl_some, x_set, x_setC, x_par, x_ret, x_expr, x_cont, x_sif, onRt_rt, onRt_nx, onTurn_nx, onTurn_ct, onTurn_rt, lay, layN, List.map_cons, List.map_nil, List.getElem?_cons_zero, List.getElem?_cons_succ, Nat.sub_self, List.replicate_zero, List.replicate_succ, List.append_nil, List.cons_append, List.nil_append, List.set_cons_zero, List.set_cons_succ, Nat.reduceSub, to_ok, wipeP, true_and, capk0, capk1, capk2, capk3, capk4, capk5, capk6, capk7, capk8]
    exact ⟨by simp [It.most], sees_t, .refl⟩
  · simp only [Turn, w_int, w_bl, w_non, w_no, w_str, w_nil, w_one, w_var, toVar_some, w_glob, toGl_some, toTup_tup, toBl_true, toBl_false, w_cons, w_tup, w_lst, w_bin, w_cmp, w_chain, w_not, w_and, w_or, w_ife, toInt_int, w_neg, w_idx, w_slice, w_isi, w_call, w_call0, w_meth, w_blt, toSeq_tup, w_star, w_rev, onNx_nx, onNx_rt, onNx_ct, x_skip, x_seq, toSl_some, x_set, x_setC, x_par, x_ret, x_expr, x_cont, x_sif, onRt_rt, onRt_nx, onTurn_nx, onTurn_ct, onTurn_rt, lay, layN, List.map_cons, List.map_nil, List.getElem?_cons_zero, List.getElem?_cons_succ, Nat.sub_self, List.replicate_zero, List.replicate_succ, List.append_nil, List.cons_append, List.nil_append, List.set_cons_zero, List.set_cons_succ, Nat.reduceSub, to_ok, wipeP, true_and, capk0, capk1, capk2, capk3, capk4, capk5, capk6, capk7, capk8, isint_ok, w_le]
    rcases hb x hx with rfl | rfl <;> exact ⟨rfl, .refl⟩
  · rw [fm_some] at hA
    rw [all_lst hA, allt]
theorem needrun_ok {r : List Int} (h5 : L ≤ 5) (hb : ∀ o ∈ r, bit o) (hl : r.length ≤ L) : runF T (n + 3) f_need_run [.int (L : Int), rp r] s = .ok .non s := by
  refine run_pu d_need_run rfl (by simp only [pureVs, pure_rp, Bool.and_self]; rfl) rfl ?_
  simp only [c_need_run, w_int, w_bl, w_non, w_no, w_str, w_nil, w_one, w_var, toVar_some, w_glob, toGl_some, toTup_tup, toBl_true, toBl_false, w_cons, w_tup, w_lst, w_bin, w_cmp, w_chain, w_not, w_and, w_or, w_ife, toInt_int, w_neg, w_idx, w_slice, w_isi, w_call, w_call0, w_meth, w_blt, toSeq_tup, w_star, w_rev, onNx_nx, onNx_rt, onNx_ct, x_skip, x_seq, toSl_some, x_set, x_setC, x_par, x_ret, x_expr, x_cont, x_sif, onRt_rt, onRt_nx, onTurn_nx, onTurn_ct, onTurn_rt, lay, layN, List.map_cons, List.map_nil, List.getElem?_cons_zero, List.getElem?_cons_succ, Nat.sub_self, List.replicate_zero, List.replicate_succ, List.append_nil, List.cons_append, List.nil_append, List.set_cons_zero, List.set_cons_succ, Nat.reduceSub, to_ok, wipeP, true_and, capk0, capk1, capk2, capk3, capk4, capk5, capk6, capk7, capk8, isrun_ok h5 hb hl]
theorem chance_ok {r : List Int} (h : Fc L rs) (h1 : 1 ≤ L) (h5 : L ≤ 5) (hc : Cs rs fs) (hw : Ch L fs) (hb : ∀ o ∈ r, bit o) (hl : r.length ≤ L) : runF T (n + 7) f_chance [.int (L : Int), .tup (rs.map rg), .tup (fs.map q), rp r] s = .ok (q (prob fs r)) s := by
  refine run_pu d_chance rfl (by simp only [pureVs, pure_rs, pure_qs, pure_rp, Bool.and_self]; rfl) rfl ?_
  simp only [c_chance, w_int, w_bl, w_non, w_no, w_str, w_nil, w_one, w_var, toVar_some, w_glob, toGl_some, toTup_tup, toBl_true, toBl_false, w_cons, w_tup, w_lst, w_bin, w_cmp, w_chain, w_not, w_and, w_or, w_ife, toInt_int, w_neg, w_idx, w_slice, w_isi, w_call, w_call0, w_meth, w_blt, toSeq_tup, w_star, w_rev, onNx_nx, onNx_rt, onNx_ct, x_skip, x_seq, toSl_some, x_set, x_setC, x_par, x_ret, x_expr, x_cont, x_sif, onRt_rt, onRt_nx, onTurn_nx, onTurn_ct, onTurn_rt, lay, layN, List.map_cons, List.map_nil, List.getElem?_cons_zero, List.getElem?_cons_succ, Nat.sub_self, List.replicate_zero, List.replicate_succ, List.append_nil, List.cons_append, List.nil_append, List.set_cons_zero, List.set_cons_succ, Nat.reduceSub, to_ok, wipeP, true_and, capk0, capk1, capk2, capk3, capk4, capk5, capk6, capk7, capk8, needforecaster_ok h h1 h5]
  rw [needchances_ok h h5 hc hw]
  simp only [w_int, w_bl, w_non, w_no, w_str, w_nil, w_one, w_var, toVar_some, w_glob, toGl_some, toTup_tup, toBl_true, toBl_false, w_cons, w_tup, w_lst, w_bin, w_cmp, w_chain, w_not, w_and, w_or, w_ife, toInt_int, w_neg, w_idx, w_slice, w_isi, w_call, w_call0, w_meth, w_blt, toSeq_tup, w_star, w_rev, onNx_nx, onNx_rt, onNx_ct, x_skip, x_seq, toSl_some, x_set, x_setC, x_par, x_ret, x_expr, x_cont, x_sif, onRt_rt, onRt_nx, onTurn_nx, onTurn_ct, onTurn_rt, lay, layN, List.map_cons, List.map_nil, List.getElem?_cons_zero, List.getElem?_cons_succ, Nat.sub_self, List.replicate_zero, List.replicate_succ, List.append_nil, List.cons_append, List.nil_append, List.set_cons_zero, List.set_cons_succ, Nat.reduceSub, to_ok, wipeP, true_and, capk0, capk1, capk2, capk3, capk4, capk5, capk6, capk7, capk8]
  rw [needrun_ok h5 hb hl]
  simp only [w_int, w_bl, w_non, w_no, w_str, w_nil, w_one, w_var, toVar_some, w_glob, toGl_some, toTup_tup, toBl_true, toBl_false, w_cons, w_tup, w_lst, w_bin, w_cmp, w_chain, w_not, w_and, w_or, w_ife, toInt_int, w_neg, w_idx, w_slice, w_isi, w_call, w_call0, w_meth, w_blt, toSeq_tup, w_star, w_rev, onNx_nx, onNx_rt, onNx_ct, x_skip, x_seq, toSl_some, x_set, x_setC, x_par, x_ret, x_expr, x_cont, x_sif, onRt_rt, onRt_nx, onTurn_nx, onTurn_ct, onTurn_rt, lay, layN, List.map_cons, List.map_nil, List.getElem?_cons_zero, List.getElem?_cons_succ, Nat.sub_self, List.replicate_zero, List.replicate_succ, List.append_nil, List.cons_append, List.nil_append, List.set_cons_zero, List.set_cons_succ, Nat.reduceSub, to_ok, wipeP, true_and, capk0, capk1, capk2, capk3, capk4, capk5, capk6, capk7, capk8]
  rw [chancein_ok hw h5 hb hl]
  simp only [w_int, w_bl, w_non, w_no, w_str, w_nil, w_one, w_var, toVar_some, w_glob, toGl_some, toTup_tup, toBl_true, toBl_false, w_cons, w_tup, w_lst, w_bin, w_cmp, w_chain, w_not, w_and, w_or, w_ife, toInt_int, w_neg, w_idx, w_slice, w_isi, w_call, w_call0, w_meth, w_blt, toSeq_tup, w_star, w_rev, onNx_nx, onNx_rt, onNx_ct, x_skip, x_seq, toSl_some, x_set, x_setC, x_par, x_ret, x_expr, x_cont, x_sif, onRt_rt, onRt_nx, onTurn_nx, onTurn_ct, onTurn_rt, lay, layN, List.map_cons, List.map_nil, List.getElem?_cons_zero, List.getElem?_cons_succ, Nat.sub_self, List.replicate_zero, List.replicate_succ, List.append_nil, List.cons_append, List.nil_append, List.set_cons_zero, List.set_cons_succ, Nat.reduceSub, to_ok, wipeP, true_and, capk0, capk1, capk2, capk3, capk4, capk5, capk6, capk7, capk8]
end
end K39

namespace K39
open PySem FI GI
section
variable {n : Nat} {a b : Rat} {s : Sto} {Q : PV → Sto → Prop} {L : Nat} {rs : List (Rat × Rat)} {fs : List Rat}
theorem longer_ok {i k : Nat} (hi : At s i ((lev k).map rp)) (hk : k ≤ 5) : (runF T (n + 1) f_longer_runs [.lst i] s).to fun v s' => Fr [] s s' ∧ ∃ j, v = .lst j ∧ At s' j ((lev (k + 1)).map rp) ∧ s.n ≤ j := by
  refine run_to d_longer_runs rfl ?_
  simp only [c_longer_runs, w_int, w_bl, w_non, w_no, w_str, w_nil, w_one, w_var, toVar_some, w_glob, toGl_some, toTup_tup, toBl_true, toBl_false, w_cons, w_tup, w_lst, w_bin, w_cmp, w_chain, w_not, w_and, w_or, w_ife, toInt_int, w_neg, w_idx, w_slice, w_isi, w_call, w_call0, w_meth, w_blt, toSeq_tup, w_star, w_rev, onNx_nx, onNx_rt, onNx_ct, x_skip, x_seq, toSl_some, x_set, x_setC, x_par, x_ret, x_expr, x_cont, x_sif, onRt_rt, onRt_nx, onTurn_nx, onTurn_ct, onTurn_rt, lay, layN, List.map_cons, List.map_nil, List.getElem?_cons_zero, List.getElem?_cons_succ, Nat.sub_self, List.replicate_zero, List.replicate_succ, List.append_nil, List.cons_append, List.nil_append, List.set_cons_zero, List.set_cons_succ, Nat.reduceSub, to_ok, wipeP, true_and, capk0, capk1, capk2, capk3, capk4, capk5, capk6, capk7, capk8]
  refine comp2_pure (lev k) rp (fun _ => [(0 : Int), 1]) PV.int (fun r o => rp (r ++ [o])) ?_ ?_ fun j s' hf hA hj => ?_
  · simp only [j_seq, w_int, w_bl, w_non, w_no, w_str, w_nil, w_one, w_var, toVar_some, w_glob, toGl_some, toTup_tup, toBl_true, toBl_false, w_cons, w_tup, w_lst, w_bin, w_cmp, w_chain, w_not, w_and, w_or, w_ife, toInt_int, w_neg, w_idx, w_slice, w_isi, w_call, w_call0, w_meth, w_blt, toSeq_tup, w_star, w_rev, onNx_nx, onNx_rt, onNx_ct, x_skip, x_seq, toSl_some, x_set, x_setC, x_par, x_ret, x_expr, x_cont, x_sif, onRt_rt, onRt_nx, onTurn_nx, onTurn_ct, onTurn_rt, lay, layN, List.map_cons, List.map_nil, List.getElem?_cons_zero, List.getElem?_cons_succ, Nat.sub_self, List.replicate_zero, List.replicate_succ, List.append_nil, List.cons_append, List.nil_append, List.set_cons_zero, List.set_cons_succ, Nat.reduceSub, to_ok, wipeP, true_and, capk0, capk1, capk2, capk3, capk4, capk5, capk6, capk7, capk8]
    have z : ∀ {s'}, Fr [s.n] (s.new (.lst [])) s' → At s' i ((lev k).map rp) := fun {s'} h => (hi.fr0 .new).fr h (by have := hi.2; simp; omega)
    refine ⟨_, hi.getL, .refl, by simp [It.most, hi.getL], sees_l fun s' h => z h, fun r hr s' hs' => ?_⟩
    try simp only [w_int, w_bl, w_non, w_no, w_str, w_nil, w_one, w_var, toVar_some, w_glob, toGl_some, toTup_tup, toBl_true, toBl_false, w_cons, w_tup, w_lst, w_bin, w_cmp, w_chain, w_not, w_and, w_or, w_ife, toInt_int, w_neg, w_idx, w_slice, w_isi, w_call, w_call0, w_meth, w_blt, toSeq_tup, w_star, w_rev, onNx_nx, onNx_rt, onNx_ct, x_skip, x_seq, toSl_some, x_set, x_setC, x_par, x_ret, x_expr, x_cont, x_sif, onRt_rt, onRt_nx, onTurn_nx, onTurn_ct, onTurn_rt, lay, layN, List.map_cons, List.map_nil, List.getElem?_cons_zero, List.getElem?_cons_succ, Nat.sub_self, List.replicate_zero, List.replicate_succ, List.append_nil, List.cons_append, List.nil_append, List.set_cons_zero, List.set_cons_succ, Nat.reduceSub, to_ok, wipeP, true_and, capk0, capk1, capk2, capk3, capk4, capk5, capk6, capk7, capk8, j_seq]
    refine ⟨.refl, rfl, sees_t (L := [(0 : Int), 1]), fun o ho s5 hs5 => ?_⟩
    have hrl : r.length ≤ 10 := by rw [lev_mem_len hr]; omega
    simp only [slotsT, w_int, w_bl, w_non, w_no, w_str, w_nil, w_one, w_var, toVar_some, w_glob, toGl_some, toTup_tup, toBl_true, toBl_false, w_cons, w_tup, w_lst, w_bin, w_cmp, w_chain, w_not, w_and, w_or, w_ife, toInt_int, w_neg, w_idx, w_slice, w_isi, w_call, w_call0, w_meth, w_blt, toSeq_tup, w_star, w_rev, onNx_nx, onNx_rt, onNx_ct, x_skip, x_seq, toSl_some, x_set, x_setC, x_par, x_ret, x_expr, x_cont, x_sif, onRt_rt, onRt_nx, onTurn_nx, onTurn_ct, onTurn_rt, lay, layN, List.map_cons, List.map_nil, List.getElem?_cons_zero, List.getElem?_cons_succ, Nat.sub_self, List.replicate_zero, List.replicate_succ, List.append_nil, List.cons_append, List.nil_append, List.set_cons_zero, List.set_cons_succ, Nat.reduceSub, to_ok, wipeP, true_and, capk0, capk1, capk2, capk3, capk4, capk5, capk6, capk7, capk8, rp]
    refine ⟨by simp [cap]; omega, ?_, .refl⟩
    simp
  · have : ((lev k).flatMap fun _ => [(0 : Int), 1]).length = 2 * (lev k).length := by
      generalize lev k = l
      induction l with
      | nil => rfl
      | cons x l ih => simp only [List.flatMap_cons, List.length_append, ih, List.length_cons, List.length_nil]; omega
    rw [this, lev_len]
    have := pow16 hk
    simp [cap]; omega
  · refine ⟨hf, j, rfl, ?_, hj⟩
    have e : (lev (k + 1)).map rp = (lev k).flatMap fun a => [(0 : Int), 1].map fun o => rp (a ++ [o]) := by
      rw [lev, List.map_flatMap]; rfl
    rw [e]
    exact hA
theorem idx_last {i : Nat} {xs : List PV} {v : PV} (h : At s i xs) (hv : xs.getLast? = some v) : (evIdx (.lst i) (.int (-1)) s).to Q = Q v s := by
  have hne : xs ≠ [] := by rintro rfl; simp at hv
  have hl : 0 < xs.length := List.length_pos_iff.mpr hne
  have e : L2.atI xs (-1) = some v := by
    simp only [L2.atI, L2.ixN]
    rw [if_neg (by decide), if_pos (by omega)]
    try dsimp only
    rw [← hv, List.getLast?_eq_getElem?]
    show xs[(-1 + (xs.length : Int)).toNat]? = _
    congr 1
    omega
  simp only [evIdx, h.seq, e, to_ok]
theorem layers_ok (hL : L ≤ 5) : (runF T (n + 2) f_layers_in [.int (L : Int)] s).to fun v s' => Fr [] s s' ∧ ∃ (i : Nat) (js : List Nat), v = .lst i ∧ At s' i (js.map PV.lst) ∧ s.n ≤ i ∧ js.length = L + 1 ∧ ∀ k j, js[k]? = some j → At s' j ((lev k).map rp) := by
  refine run_to d_layers_in rfl ?_
  simp only [c_layers_in, w_int, w_bl, w_non, w_no, w_str, w_nil, w_one, w_var, toVar_some, w_glob, toGl_some, toTup_tup, toBl_true, toBl_false, w_cons, w_tup, w_lst, w_bin, w_cmp, w_chain, w_not, w_and, w_or, w_ife, toInt_int, w_neg, w_idx, w_slice, w_isi, w_call, w_call0, w_meth, w_blt, toSeq_tup, w_star, w_rev, onNx_nx, onNx_rt, onNx_ct, x_skip, x_seq, toSl_some, x_set, x_setC, x_par, x_ret, x_expr, x_cont, x_sif, onRt_rt, onRt_nx, onTurn_nx, onTurn_ct, onTurn_rt, lay, layN, List.map_cons, List.map_nil, List.getElem?_cons_zero, List.getElem?_cons_succ, Nat.sub_self, List.replicate_zero, List.replicate_succ, List.append_nil, List.cons_append, List.nil_append, List.set_cons_zero, List.set_cons_succ, Nat.reduceSub, to_ok, wipeP, true_and, capk0, capk1, capk2, capk3, capk4, capk5, capk6, capk7, capk8]
  refine x_for (List.range L) (fun k => .int (k : Int)) (fun _ => True) (fun k σ s' => Fr [] s s' ∧ ∃ (js : List Nat) (o : Option PV), σ = [some (.int (L : Int)), some (.lst (s.n + 1)), o] ∧ At s' (s.n + 1) (js.map PV.lst) ∧ js.length = k + 1 ∧ (∀ m j, js[m]? = some j → At s' j ((lev m).map rp) ∧ j ≠ s.n + 1)) ?_ (fun _ _ _ _ => trivial) (fun k x σ s' hx ⟨f1, js, o, e, h1, h2, h3⟩ => ?_) (fun σ s' ⟨f1, js, o, e, h1, h2, h3⟩ => ?_)
  · simp only [j_rng, w_int, w_bl, w_non, w_no, w_str, w_nil, w_one, w_var, toVar_some, w_glob, toGl_some, toTup_tup, toBl_true, toBl_false, w_cons, w_tup, w_lst, w_bin, w_cmp, w_chain, w_not, w_and, w_or, w_ife, toInt_int, w_neg, w_idx, w_slice, w_isi, w_call, w_call0, w_meth, w_blt, toSeq_tup, w_star, w_rev, onNx_nx, onNx_rt, onNx_ct, x_skip, x_seq, toSl_some, x_set, x_setC, x_par, x_ret, x_expr, x_cont, x_sif, onRt_rt, onRt_nx, onTurn_nx, onTurn_ct, onTurn_rt, lay, layN, List.map_cons, List.map_nil, List.getElem?_cons_zero, List.getElem?_cons_succ, Nat.sub_self, List.replicate_zero, List.replicate_succ, List.append_nil, List.cons_append, List.nil_append, List.set_cons_zero, List.set_cons_succ, Nat.reduceSub, to_ok, wipeP, true_and, capk0, capk1, capk2, capk3, capk4, capk5, capk6, capk7, capk8]
    refine ⟨⟨by omega, by omega⟩, by simp [It.most], by simpa using sees_r (n := L), Fr.new.trans .new, [s.n], none, rfl, .new, rfl, fun m j hj => ?_⟩
    cases m with
    | zero =>
      simp at hj
      subst hj
      exact ⟨At.new.fr0 .new, by omega⟩
    | succ m => simp at hj
  · subst e
    have hk : k < L := by have := (List.getElem?_eq_some_iff.mp hx).1; simpa using this
    obtain ⟨j, hj⟩ : ∃ j, js[k]? = some j := ⟨js[k]'(by omega), List.getElem?_eq_getElem (by omega)⟩
    have hlast : (js.map PV.lst).getLast? = some (.lst j) := by
      rw [List.getLast?_map, List.getLast?_eq_getElem?, show js.length - 1 = k by omega, hj]; rfl
    simp only [lay, toSl_some, List.set_cons_succ, List.set_cons_zero, x_seq, x_expr]
    refine w_app (by simp only [ev]; rfl) h1 ?_
    simp only [w_int, w_bl, w_non, w_no, w_str, w_nil, w_one, w_var, toVar_some, w_glob, toGl_some, toTup_tup, toBl_true, toBl_false, w_cons, w_tup, w_lst, w_bin, w_cmp, w_chain, w_not, w_and, w_or, w_ife, toInt_int, w_neg, w_idx, w_slice, w_isi, w_call, w_call0, w_meth, w_blt, toSeq_tup, w_star, w_rev, onNx_nx, onNx_rt, onNx_ct, x_skip, x_seq, toSl_some, x_set, x_setC, x_par, x_ret, x_expr, x_cont, x_sif, onRt_rt, onRt_nx, onTurn_nx, onTurn_ct, onTurn_rt, lay, layN, List.map_cons, List.map_nil, List.getElem?_cons_zero, List.getElem?_cons_succ, Nat.sub_self, List.replicate_zero, List.replicate_succ, List.append_nil, List.cons_append, List.nil_append, List.set_cons_zero, List.set_cons_succ, Nat.reduceSub, to_ok, wipeP, true_and, capk0, capk1, capk2, capk3, capk4, capk5, capk6, capk7, capk8, idx_last h1 hlast]
    refine to_mono (longer_ok (h3 k j hj).1 (by omega)) fun v s2 ⟨f2, j2, ev, g1, g2⟩ => ?_
    subst ev
    have h1' := h1.fr0 f2
    refine ⟨_, h1', by simp [cap, h2]; omega, ?_⟩
    try simp only [w_int, w_bl, w_non, w_no, w_str, w_nil, w_one, w_var, toVar_some, w_glob, toGl_some, toTup_tup, toBl_true, toBl_false, w_cons, w_tup, w_lst, w_bin, w_cmp, w_chain, w_not, w_and, w_or, w_ife, toInt_int, w_neg, w_idx, w_slice, w_isi, w_call, w_call0, w_meth, w_blt, toSeq_tup, w_star, w_rev, onNx_nx, onNx_rt, onNx_ct, x_skip, x_seq, toSl_some, x_set, x_setC, x_par, x_ret, x_expr, x_cont, x_sif, onRt_rt, onRt_nx, onTurn_nx, onTurn_ct, onTurn_rt, lay, layN, List.map_cons, List.map_nil, List.getElem?_cons_zero, List.getElem?_cons_succ, Nat.sub_self, List.replicate_zero, List.replicate_succ, List.append_nil, List.cons_append, List.nil_append, List.set_cons_zero, List.set_cons_succ, Nat.reduceSub, to_ok, wipeP, true_and, capk0, capk1, capk2, capk3, capk4, capk5, capk6, capk7, capk8]
    have f3 : Fr [] s ⟨s2.n, put (s.n + 1) (.lst (js.map PV.lst ++ [.lst j2])) s2.os⟩ := (f1.trans f2).put (.inr (by omega))
    refine ⟨f3, js ++ [j2], _, rfl, ?_, by simp [h2], fun m jm hm => ?_⟩
    · rw [List.map_append]; exact h1'.put
    · by_cases hmk : m < js.length
      · rw [List.getElem?_append_left hmk] at hm
        obtain ⟨z1, z2⟩ := h3 m jm hm
        exact ⟨(z1.fr0 f2).put_ne z2, z2⟩
      · rw [List.getElem?_append_right (by omega)] at hm
        have hm0 : m - js.length = 0 := by
          cases hz : m - js.length with
          | zero => rfl
          | succ z => rw [hz] at hm; simp at hm
        rw [hm0] at hm
        simp at hm
        subst hm
        have e : m = k + 1 := by omega
        subst e
        have hne : j2 ≠ s.n + 1 := by have := h1.2; omega
        exact ⟨g1.put_ne hne, hne⟩
  · subst e
    simp only [w_int, w_bl, w_non, w_no, w_str, w_nil, w_one, w_var, toVar_some, w_glob, toGl_some, toTup_tup, toBl_true, toBl_false, w_cons, w_tup, w_lst, w_bin, w_cmp, w_chain, w_not, w_and, w_or, w_ife, toInt_int, w_neg, w_idx, w_slice, w_isi, w_call, w_call0, w_meth, w_blt, toSeq_tup, w_star, w_rev, onNx_nx, onNx_rt, onNx_ct, x_skip, x_seq, toSl_some, x_set, x_setC, x_par, x_ret, x_expr, x_cont, x_sif, onRt_rt, onRt_nx, onTurn_nx, onTurn_ct, onTurn_rt, lay, layN, List.map_cons, List.map_nil, List.getElem?_cons_zero, List.getElem?_cons_succ, Nat.sub_self, List.replicate_zero, List.replicate_succ, List.append_nil, List.cons_append, List.nil_append, List.set_cons_zero, List.set_cons_succ, Nat.reduceSub, to_ok, wipeP, true_and, capk0, capk1, capk2, capk3, capk4, capk5, capk6, capk7, capk8]
    exact ⟨f1, _, js, rfl, h1, by omega, by simpa using h2, fun k j hj => (h3 k j hj).1⟩
/-! ### the law's own chances -/
theorem lev_take : ∀ {m k : Nat} {r : List Int}, r ∈ lev m → k ≤ m → r.take k ∈ lev k
  | 0, k, r, h, hk => by
    have : k = 0 := by omega
    subst this
    simp [lev]
  | m + 1, k, r, h, hk => by
    have hl := lev_mem_len h
    by_cases e : k = m + 1
    · subst e
      rw [List.take_of_length_le (by omega)]
      exact h
    · simp only [lev, List.mem_flatMap, two, List.mem_cons, List.not_mem_nil, or_false] at h
      obtain ⟨r', h1, h2⟩ := h
      have hl' := lev_mem_len h1
      have : r.take k = r'.take k := by rcases h2 with rfl | rfl <;> rw [List.take_append_of_le_length (by omega)]
      rw [this]
      exact lev_take h1 (by omega)
theorem lev_inn {k : Nat} {r : List Int} : ∀ {L : Nat}, r ∈ lev k → k < L → r ∈ inn L
  | 0, _, h => by omega
  | L + 1, hr, h => by
    rw [inn, List.mem_append]
    by_cases e : k = L
    · subst e; exact .inr hr
    · exact .inl (lev_inn hr (by omega))
def dr (r : List Int) : PyData := .tuple (r.map .int)
theorem index_all : ([1, 2, 3, 4, 5].all fun L => (inn L).all fun p => decide (indexD (dr p) ((inn L).map dr) 0 = some (spot p))) = true := by decide +kernel
theorem index_ok {p : List Int} (h1 : 1 ≤ L) (h5 : L ≤ 5) (hp : p ∈ inn L) : indexD (dr p) ((inn L).map dr) 0 = some (spot p) := by
  have h := index_all
  simp only [List.all_eq_true, decide_eq_true_eq] at h
  exact h L (by rcases len15 h1 h5 with rfl | rfl | rfl | rfl | rfl <;> simp) p hp
theorem toD_rp {r : List Int} {m : Nat} : toD s (m + 2) (rp r) = some (dr r) := by
  have e : mapO (toD s (m + 1)) (r.map PV.int) = some (r.map .int) := mapO_map fun a _ => rfl
  show (match mapO (toD s (m + 1)) (r.map PV.int) with | some ds => some (PyData.tuple ds) | none => none) = _
  rw [e]; rfl
theorem can_dr {r : List Int} : (dr r).canLay0 = true := canAll fun a _ => rfl
theorem dep_dr {r : List Int} : (dr r).depth ≤ 10 := by
  simp only [dr, PyData.depth]
  have := depthAll (h := PyData.int) (m := 0) (l := r) fun a _ => by simp [PyData.depth]
  omega
theorem shaped_of {d : PyData} (h1 : d.canLay0 = true) (h2 : d.depth ≤ 64) : SeqAt.shaped d = true := by simp [SeqAt.shaped, h1, h2]
theorem likely_ok {r : List Int} {m : Nat} (h : Ch L fs) (h1 : 1 ≤ L) (hL : L ≤ 5) (hr : r ∈ lev m) (hm : m ≤ L) : runF T (n + 3) f__law_likely [.int (L : Int), .tup (fs.map q), rp r] s = .ok (q (prob fs r)) s := by
  have hl := lev_mem_len hr
  have hb := lev_bits hr
  refine run_pu d__law_likely rfl (by simp only [pureVs, pure_rp, pure_qs, Bool.and_self]; rfl) rfl ?_
  simp only [c__law_likely, w_int, w_bl, w_non, w_no, w_str, w_nil, w_one, w_var, toVar_some, w_glob, toGl_some, toTup_tup, toBl_true, toBl_false, w_cons, w_tup, w_lst, w_bin, w_cmp, w_chain, w_not, w_and, w_or, w_ife, toInt_int, w_neg, w_idx, w_slice, w_isi, w_call, w_call0, w_meth, w_blt, toSeq_tup, w_star, w_rev, onNx_nx, onNx_rt, onNx_ct, x_skip, x_seq, toSl_some, x_set, x_setC, x_par, x_ret, x_expr, x_cont, x_sif, onRt_rt, onRt_nx, onTurn_nx, onTurn_ct, onTurn_rt, lay, layN, List.map_cons, List.map_nil, List.getElem?_cons_zero, List.getElem?_cons_succ, Nat.sub_self, List.replicate_zero, List.replicate_succ, List.append_nil, List.cons_append, List.nil_append, List.set_cons_zero, List.set_cons_succ, Nat.reduceSub, to_ok, wipeP, true_and, capk0, capk1, capk2, capk3, capk4, capk5, capk6, capk7, capk8]
  refine to_mono (allruns_ok hL) fun v s1 ⟨f1, i, j, ev, hi, hj, _, _⟩ => ?_
  subst ev
  have e0 : ∀ {Q : PV → Sto → Prop}, (evIdx (.tup [.lst i, .lst j]) (.int 0) s1).to Q = Q (.lst i) s1 := fun {Q} => rfl
  simp only [e0, w_int, w_bl, w_non, w_no, w_str, w_nil, w_one, w_var, toVar_some, w_glob, toGl_some, toTup_tup, toBl_true, toBl_false, w_cons, w_tup, w_lst, w_bin, w_cmp, w_chain, w_not, w_and, w_or, w_ife, toInt_int, w_neg, w_idx, w_slice, w_isi, w_call, w_call0, w_meth, w_blt, toSeq_tup, w_star, w_rev, onNx_nx, onNx_rt, onNx_ct, x_skip, x_seq, toSl_some, x_set, x_setC, x_par, x_ret, x_expr, x_cont, x_sif, onRt_rt, onRt_nx, onTurn_nx, onTurn_ct, onTurn_rt, lay, layN, List.map_cons, List.map_nil, List.getElem?_cons_zero, List.getElem?_cons_succ, Nat.sub_self, List.replicate_zero, List.replicate_succ, List.append_nil, List.cons_append, List.nil_append, List.set_cons_zero, List.set_cons_succ, Nat.reduceSub, to_ok, wipeP, true_and, capk0, capk1, capk2, capk3, capk4, capk5, capk6, capk7, capk8]
  refine x_for r.zipIdx (fun p => .tup [.int (p.2 : Int), .int p.1]) (fun _ => True) (fun k σ s' => s' = s1 ∧ ∃ o1 o2 o3, σ = [some (.int (L : Int)), some (.tup (fs.map q)), some (rp r), some (.lst i), some (q (prb fs r k)), o1, o2, o3]) ?_ (fun _ _ _ _ => trivial) (fun k x σ s' hx ⟨es, o1, o2, o3, e⟩ => ?_) (fun σ s' ⟨es, o1, o2, o3, e⟩ => ?_)
  · simp only [j_enum, w_int, w_bl, w_non, w_no, w_str, w_nil, w_one, w_var, toVar_some, w_glob, toGl_some, toTup_tup, toBl_true, toBl_false, w_cons, w_tup, w_lst, w_bin, w_cmp, w_chain, w_not, w_and, w_or, w_ife, toInt_int, w_neg, w_idx, w_slice, w_isi, w_call, w_call0, w_meth, w_blt, toSeq_tup, w_star, w_rev, onNx_nx, onNx_rt, onNx_ct, x_skip, x_seq, toSl_some, x_set, x_setC, x_par, x_ret, x_expr, x_cont, x_sif, onRt_rt, onRt_nx, onTurn_nx, onTurn_ct, onTurn_rt, lay, layN, List.map_cons, List.map_nil, List.getElem?_cons_zero, List.getElem?_cons_succ, Nat.sub_self, List.replicate_zero, List.replicate_succ, List.append_nil, List.cons_append, List.nil_append, List.set_cons_zero, List.set_cons_succ, Nat.reduceSub, to_ok, wipeP, true_and, capk0, capk1, capk2, capk3, capk4, capk5, capk6, capk7, capk8, rp]
    exact ⟨_, rfl, by simp [It.most], sees_en_t, none, none, none, rfl⟩
  · subst e; subst es
    have hk : k < r.length := by have := (List.getElem?_eq_some_iff.mp hx).1; simpa using this
    have ex : x = (r[k], k) := by
      rw [List.getElem?_eq_getElem (by simpa using hk)] at hx
      have := Option.some.inj hx
      rw [← this]; simp
    subst ex
    have hsp := spot_in hb (by omega : r.length ≤ L) hk
    have hin : r.take k ∈ inn L := lev_inn (lev_take hr (by omega)) (by omega)
    simp only [w_int, w_bl, w_non, w_no, w_str, w_nil, w_one, w_var, toVar_some, w_glob, toGl_some, toTup_tup, toBl_true, toBl_false, w_cons, w_tup, w_lst, w_bin, w_cmp, w_chain, w_not, w_and, w_or, w_ife, toInt_int, w_neg, w_idx, w_slice, w_isi, w_call, w_call0, w_meth, w_blt, toSeq_tup, w_star, w_rev, onNx_nx, onNx_rt, onNx_ct, x_skip, x_seq, toSl_some, x_set, x_setC, x_par, x_ret, x_expr, x_cont, x_sif, onRt_rt, onRt_nx, onTurn_nx, onTurn_ct, onTurn_rt, lay, layN, List.map_cons, List.map_nil, List.getElem?_cons_zero, List.getElem?_cons_succ, Nat.sub_self, List.replicate_zero, List.replicate_succ, List.append_nil, List.cons_append, List.nil_append, List.set_cons_zero, List.set_cons_succ, Nat.reduceSub, to_ok, wipeP, true_and, capk0, capk1, capk2, capk3, capk4, capk5, capk6, capk7, capk8]
    refine ⟨by simp [recv, hi.getL], none, some (k : Int), rfl, rfl, ?_⟩
    rw [take_ok (by omega)]
    try simp only [w_int, w_bl, w_non, w_no, w_str, w_nil, w_one, w_var, toVar_some, w_glob, toGl_some, toTup_tup, toBl_true, toBl_false, w_cons, w_tup, w_lst, w_bin, w_cmp, w_chain, w_not, w_and, w_or, w_ife, toInt_int, w_neg, w_idx, w_slice, w_isi, w_call, w_call0, w_meth, w_blt, toSeq_tup, w_star, w_rev, onNx_nx, onNx_rt, onNx_ct, x_skip, x_seq, toSl_some, x_set, x_setC, x_par, x_ret, x_expr, x_cont, x_sif, onRt_rt, onRt_nx, onTurn_nx, onTurn_ct, onTurn_rt, lay, layN, List.map_cons, List.map_nil, List.getElem?_cons_zero, List.getElem?_cons_succ, Nat.sub_self, List.replicate_zero, List.replicate_succ, List.append_nil, List.cons_append, List.nil_append, List.set_cons_zero, List.set_cons_succ, Nat.reduceSub, to_ok, wipeP, true_and, capk0, capk1, capk2, capk3, capk4, capk5, capk6, capk7, capk8]
    have hidx : ∀ {Q : PV → Sto → Prop}, (evMeth .index (.lst i) [rp (r.take k)] s').to Q = Q (.int (spot (r.take k) : Int)) s' := fun {Q} => by
      have t1 : toD s' 60 (.lst i) = some (.list ((inn L).map dr)) := toD_lst hi fun a _ => toD_rp
      have t2 : toD s' 60 (rp (r.take k)) = some (dr (r.take k)) := toD_rp
      have c1 : SeqAt.shaped (dr (r.take k)) = true := shaped_of can_dr (Nat.le_trans dep_dr (by decide))
      have c2 : SeqAt.shaped (.list ((inn L).map dr)) = true := shaped_of (canAll fun a _ => can_dr) (dep_lst (m := 10) (fun a _ => dep_dr) (by decide))
      simp only [evMeth, t1, t2, c1, c2, Bool.and_self, if_true, index_ok h1 hL hin, to_ok]
    rw [hidx, idx_tup (getD_at (by rw [h.len]; exact hsp))]
    have hg : W 24 (fs.getD (spot (r.take k)) 0) := by
      rw [List.getD_eq_getElem?_getD, List.getElem?_eq_getElem (by rw [h.len]; exact hsp)]
      exact h.w _ (List.getElem_mem _)
    have hp : W 4000 (prb fs r k) := (W_prb h k).mono (by omega)
    have hf : W 4000 (fac fs r k) := (W_fac h).mono (by decide)
    simp only [w_int, w_bl, w_non, w_no, w_str, w_nil, w_one, w_var, toVar_some, w_glob, toGl_some, toTup_tup, toBl_true, toBl_false, w_cons, w_tup, w_lst, w_bin, w_cmp, w_chain, w_not, w_and, w_or, w_ife, toInt_int, w_neg, w_idx, w_slice, w_isi, w_call, w_call0, w_meth, w_blt, toSeq_tup, w_star, w_rev, onNx_nx, onNx_rt, onNx_ct, x_skip, x_seq, toSl_some, x_set, x_setC, x_par, x_ret, x_expr, x_cont, x_sif, onRt_rt, onRt_nx, onTurn_nx, onTurn_ct, onTurn_rt, lay, layN, List.map_cons, List.map_nil, List.getElem?_cons_zero, List.getElem?_cons_succ, Nat.sub_self, List.replicate_zero, List.replicate_succ, List.append_nil, List.cons_append, List.nil_append, List.set_cons_zero, List.set_cons_succ, Nat.reduceSub, to_ok, wipeP, true_and, capk0, capk1, capk2, capk3, capk4, capk5, capk6, capk7, capk8, w_eqI]
    have ef : fac fs r k = if r[k] = 1 then fs.getD (spot (r.take k)) 0 else 1 - fs.getD (spot (r.take k)) 0 := by
      unfold fac
      rw [List.getElem?_eq_getElem hk]
      simp
    by_cases h1 : r[k] = 1
    · rw [if_pos h1] at ef
      simp only [h1, decide_true, w_int, w_bl, w_non, w_no, w_str, w_nil, w_one, w_var, toVar_some, w_glob, toGl_some, toTup_tup, toBl_true, toBl_false, w_cons, w_tup, w_lst, w_bin, w_cmp, w_chain, w_not, w_and, w_or, w_ife, toInt_int, w_neg, w_idx, w_slice, w_isi, w_call, w_call0, w_meth, w_blt, toSeq_tup, w_star, w_rev, onNx_nx, onNx_rt, onNx_ct, x_skip, x_seq, toSl_some, x_set, x_setC, x_par, x_ret, x_expr, x_cont, x_sif, onRt_rt, onRt_nx, onTurn_nx, onTurn_ct, onTurn_rt, lay, layN, List.map_cons, List.map_nil, List.getElem?_cons_zero, List.getElem?_cons_succ, Nat.sub_self, List.replicate_zero, List.replicate_succ, List.append_nil, List.cons_append, List.nil_append, List.set_cons_zero, List.set_cons_succ, Nat.reduceSub, to_ok, wipeP, true_and, capk0, capk1, capk2, capk3, capk4, capk5, capk6, capk7, capk8]
      rw [← ef, times_ok hp hf]
      simp only [w_int, w_bl, w_non, w_no, w_str, w_nil, w_one, w_var, toVar_some, w_glob, toGl_some, toTup_tup, toBl_true, toBl_false, w_cons, w_tup, w_lst, w_bin, w_cmp, w_chain, w_not, w_and, w_or, w_ife, toInt_int, w_neg, w_idx, w_slice, w_isi, w_call, w_call0, w_meth, w_blt, toSeq_tup, w_star, w_rev, onNx_nx, onNx_rt, onNx_ct, x_skip, x_seq, toSl_some, x_set, x_setC, x_par, x_ret, x_expr, x_cont, x_sif, onRt_rt, onRt_nx, onTurn_nx, onTurn_ct, onTurn_rt, lay, layN, List.map_cons, List.map_nil, List.getElem?_cons_zero, List.getElem?_cons_succ, Nat.sub_self, List.replicate_zero, List.replicate_succ, List.append_nil, List.cons_append, List.nil_append, List.set_cons_zero, List.set_cons_succ, Nat.reduceSub, to_ok, wipeP, true_and, capk0, capk1, capk2, capk3, capk4, capk5, capk6, capk7, capk8]
      exact ⟨_, _, _, rfl⟩
    · rw [if_neg h1] at ef
      simp only [h1, decide_false, w_int, w_bl, w_non, w_no, w_str, w_nil, w_one, w_var, toVar_some, w_glob, toGl_some, toTup_tup, toBl_true, toBl_false, w_cons, w_tup, w_lst, w_bin, w_cmp, w_chain, w_not, w_and, w_or, w_ife, toInt_int, w_neg, w_idx, w_slice, w_isi, w_call, w_call0, w_meth, w_blt, toSeq_tup, w_star, w_rev, onNx_nx, onNx_rt, onNx_ct, x_skip, x_seq, toSl_some, x_set, x_setC, x_par, x_ret, x_expr, x_cont, x_sif, onRt_rt, onRt_nx, onTurn_nx, onTurn_ct, onTurn_rt, lay, layN, List.map_cons, List.map_nil, List.getElem?_cons_zero, List.getElem?_cons_succ, Nat.sub_self, List.replicate_zero, List.replicate_succ, List.append_nil, List.cons_append, List.nil_append, List.set_cons_zero, List.set_cons_succ, Nat.reduceSub, to_ok, wipeP, true_and, capk0, capk1, capk2, capk3, capk4, capk5, capk6, capk7, capk8, ← q_one]
      rw [less_ok (W_one.mono (by decide)) (hg.mono (by decide))]
      simp only [w_int, w_bl, w_non, w_no, w_str, w_nil, w_one, w_var, toVar_some, w_glob, toGl_some, toTup_tup, toBl_true, toBl_false, w_cons, w_tup, w_lst, w_bin, w_cmp, w_chain, w_not, w_and, w_or, w_ife, toInt_int, w_neg, w_idx, w_slice, w_isi, w_call, w_call0, w_meth, w_blt, toSeq_tup, w_star, w_rev, onNx_nx, onNx_rt, onNx_ct, x_skip, x_seq, toSl_some, x_set, x_setC, x_par, x_ret, x_expr, x_cont, x_sif, onRt_rt, onRt_nx, onTurn_nx, onTurn_ct, onTurn_rt, lay, layN, List.map_cons, List.map_nil, List.getElem?_cons_zero, List.getElem?_cons_succ, Nat.sub_self, List.replicate_zero, List.replicate_succ, List.append_nil, List.cons_append, List.nil_append, List.set_cons_zero, List.set_cons_succ, Nat.reduceSub, to_ok, wipeP, true_and, capk0, capk1, capk2, capk3, capk4, capk5, capk6, capk7, capk8]
      rw [← ef, times_ok hp hf]
      simp only [w_int, w_bl, w_non, w_no, w_str, w_nil, w_one, w_var, toVar_some, w_glob, toGl_some, toTup_tup, toBl_true, toBl_false, w_cons, w_tup, w_lst, w_bin, w_cmp, w_chain, w_not, w_and, w_or, w_ife, toInt_int, w_neg, w_idx, w_slice, w_isi, w_call, w_call0, w_meth, w_blt, toSeq_tup, w_star, w_rev, onNx_nx, onNx_rt, onNx_ct, x_skip, x_seq, toSl_some, x_set, x_setC, x_par, x_ret, x_expr, x_cont, x_sif, onRt_rt, onRt_nx, onTurn_nx, onTurn_ct, onTurn_rt, lay, layN, List.map_cons, List.map_nil, List.getElem?_cons_zero, List.getElem?_cons_succ, Nat.sub_self, List.replicate_zero, List.replicate_succ, List.append_nil, List.cons_append, List.nil_append, List.set_cons_zero, List.set_cons_succ, Nat.reduceSub, to_ok, wipeP, true_and, capk0, capk1, capk2, capk3, capk4, capk5, capk6, capk7, capk8]
      exact ⟨_, _, _, rfl⟩
  · subst e; subst es
    simp only [w_int, w_bl, w_non, w_no, w_str, w_nil, w_one, w_var, toVar_some, w_glob, toGl_some, toTup_tup, toBl_true, toBl_false, w_cons, w_tup, w_lst, w_bin, w_cmp, w_chain, w_not, w_and, w_or, w_ife, toInt_int, w_neg, w_idx, w_slice, w_isi, w_call, w_call0, w_meth, w_blt, toSeq_tup, w_star, w_rev, onNx_nx, onNx_rt, onNx_ct, x_skip, x_seq, toSl_some, x_set, x_setC, x_par, x_ret, x_expr, x_cont, x_sif, onRt_rt, onRt_nx, onTurn_nx, onTurn_ct, onTurn_rt, lay, layN, List.map_cons, List.map_nil, List.getElem?_cons_zero, List.getElem?_cons_succ, Nat.sub_self, List.replicate_zero, List.replicate_succ, List.append_nil, List.cons_append, List.nil_append, List.set_cons_zero, List.set_cons_succ, Nat.reduceSub, to_ok, wipeP, true_and, capk0, capk1, capk2, capk3, capk4, capk5, capk6, capk7, capk8, List.length_zipIdx]
    rfl
end
end K39

namespace K39
open PySem FI GI
section
variable {n : Nat} {a b : Rat} {s : Sto} {Q : PV → Sto → Prop} {L d l A : Nat} {rs : List (Rat × Rat)} {fs ps : List Rat}
/-! ### what is drawn -/
theorem mk_le_one {t k : Nat} (h : t ≤ k) (hk : k ≠ 0) : mkRat (t : Int) k ≤ 1 := by
  rw [Rat.le_iff]
  have e := Rat.mkRat_num_den hk (rfl : mkRat (t : Int) k = mkRat (t : Int) k)
  have e1 : mkRat (t : Int) k = Rat.normalize (t : Int) k hk := (Rat.normalize_eq_mkRat hk).symm
  rw [e1, Rat.normalize_eq hk]
  simp only [Rat.num_ofNat, Rat.den_ofNat]
  have : (t : Int) / (Nat.gcd t k : Nat) ≤ (k : Int) / (Nat.gcd t k : Nat) := Int.ediv_le_ediv (by have := Nat.gcd_pos_of_pos_right t (Nat.pos_of_ne_zero hk); omega) (by omega)
  simpa using this
theorem mk_nonneg {t k : Nat} : 0 ≤ mkRat (t : Int) k := by
  rw [Rat.le_iff]
  by_cases hk : k = 0
  · subst hk; simp
  · have e1 : mkRat (t : Int) k = Rat.normalize (t : Int) k hk := (Rat.normalize_eq_mkRat hk).symm
    rw [e1, Rat.normalize_eq hk]
    simp only [Rat.num_ofNat, Rat.den_ofNat]
    simp
    exact Int.ediv_nonneg (by omega) (by omega)
theorem between_ok (h : St s d l A) (hA : A ≤ 900) : (runF T (n + 3) f__law_between [.dct d] s).to fun v s' => (∃ x, v = q x ∧ W 10 x ∧ 0 ≤ x ∧ x ≤ 1) ∧ St s' d l (A + 2) ∧ Fr [d, l] s s' := by
  refine run_to d__law_between rfl ?_
  simp only [c__law_between, w_int, w_bl, w_non, w_no, w_str, w_nil, w_one, w_var, toVar_some, w_glob, toGl_some, toTup_tup, toBl_true, toBl_false, w_cons, w_tup, w_lst, w_bin, w_cmp, w_chain, w_not, w_and, w_or, w_ife, toInt_int, w_neg, w_idx, w_slice, w_isi, w_call, w_call0, w_meth, w_blt, toSeq_tup, w_star, w_rev, onNx_nx, onNx_rt, onNx_ct, x_skip, x_seq, toSl_some, x_set, x_setC, x_par, x_ret, x_expr, x_cont, x_sif, onRt_rt, onRt_nx, onTurn_nx, onTurn_ct, onTurn_rt, lay, layN, List.map_cons, List.map_nil, List.getElem?_cons_zero, List.getElem?_cons_succ, Nat.sub_self, List.replicate_zero, List.replicate_succ, List.append_nil, List.cons_append, List.nil_append, List.set_cons_zero, List.set_cons_succ, Nat.reduceSub, to_ok, wipeP, true_and, capk0, capk1, capk2, capk3, capk4, capk5, capk6, capk7, capk8]
  refine to_mono (draw_ok h (by omega) (by decide) (by decide)) fun v s1 ⟨⟨k, ev, hk⟩, S1, f1⟩ => ?_
  subst ev
  simp only [w_int, w_bl, w_non, w_no, w_str, w_nil, w_one, w_var, toVar_some, w_glob, toGl_some, toTup_tup, toBl_true, toBl_false, w_cons, w_tup, w_lst, w_bin, w_cmp, w_chain, w_not, w_and, w_or, w_ife, toInt_int, w_neg, w_idx, w_slice, w_isi, w_call, w_call0, w_meth, w_blt, toSeq_tup, w_star, w_rev, onNx_nx, onNx_rt, onNx_ct, x_skip, x_seq, toSl_some, x_set, x_setC, x_par, x_ret, x_expr, x_cont, x_sif, onRt_rt, onRt_nx, onTurn_nx, onTurn_ct, onTurn_rt, lay, layN, List.map_cons, List.map_nil, List.getElem?_cons_zero, List.getElem?_cons_succ, Nat.sub_self, List.replicate_zero, List.replicate_succ, List.append_nil, List.cons_append, List.nil_append, List.set_cons_zero, List.set_cons_succ, Nat.reduceSub, to_ok, wipeP, true_and, capk0, capk1, capk2, capk3, capk4, capk5, capk6, capk7, capk8, w_add, cast1]
  refine to_mono (draw_ok S1 (by omega) (by omega) (by omega)) fun v s2 ⟨⟨m, ev, hm⟩, S2, f2⟩ => ?_
  subst ev
  try simp only [w_int, w_bl, w_non, w_no, w_str, w_nil, w_one, w_var, toVar_some, w_glob, toGl_some, toTup_tup, toBl_true, toBl_false, w_cons, w_tup, w_lst, w_bin, w_cmp, w_chain, w_not, w_and, w_or, w_ife, toInt_int, w_neg, w_idx, w_slice, w_isi, w_call, w_call0, w_meth, w_blt, toSeq_tup, w_star, w_rev, onNx_nx, onNx_rt, onNx_ct, x_skip, x_seq, toSl_some, x_set, x_setC, x_par, x_ret, x_expr, x_cont, x_sif, onRt_rt, onRt_nx, onTurn_nx, onTurn_ct, onTurn_rt, lay, layN, List.map_cons, List.map_nil, List.getElem?_cons_zero, List.getElem?_cons_succ, Nat.sub_self, List.replicate_zero, List.replicate_succ, List.append_nil, List.cons_append, List.nil_append, List.set_cons_zero, List.set_cons_succ, Nat.reduceSub, to_ok, wipeP, true_and, capk0, capk1, capk2, capk3, capk4, capk5, capk6, capk7, capk8]
  rw [ratio_ok (by omega) (b_lt (by omega))]
  simp only [w_int, w_bl, w_non, w_no, w_str, w_nil, w_one, w_var, toVar_some, w_glob, toGl_some, toTup_tup, toBl_true, toBl_false, w_cons, w_tup, w_lst, w_bin, w_cmp, w_chain, w_not, w_and, w_or, w_ife, toInt_int, w_neg, w_idx, w_slice, w_isi, w_call, w_call0, w_meth, w_blt, toSeq_tup, w_star, w_rev, onNx_nx, onNx_rt, onNx_ct, x_skip, x_seq, toSl_some, x_set, x_setC, x_par, x_ret, x_expr, x_cont, x_sif, onRt_rt, onRt_nx, onTurn_nx, onTurn_ct, onTurn_rt, lay, layN, List.map_cons, List.map_nil, List.getElem?_cons_zero, List.getElem?_cons_succ, Nat.sub_self, List.replicate_zero, List.replicate_succ, List.append_nil, List.cons_append, List.nil_append, List.set_cons_zero, List.set_cons_succ, Nat.reduceSub, to_ok, wipeP, true_and, capk0, capk1, capk2, capk3, capk4, capk5, capk6, capk7, capk8]
  exact ⟨⟨_, rfl, W_small (by omega) (by omega) (by omega), mk_nonneg, mk_le_one (by omega) (by omega)⟩, S2.mono (by omega), f1.trans f2⟩
theorem sorted2_ok (ha : W 10 a) (hb : W 10 b) : runF T (n + 2) f__law_sorted_two [q a, q b] s = .ok (.tup [q (if b < a then b else a), q (if b < a then a else b)]) s := by
  refine run_pu d__law_sorted_two rfl rfl rfl ?_
  simp only [c__law_sorted_two, w_int, w_bl, w_non, w_no, w_str, w_nil, w_one, w_var, toVar_some, w_glob, toGl_some, toTup_tup, toBl_true, toBl_false, w_cons, w_tup, w_lst, w_bin, w_cmp, w_chain, w_not, w_and, w_or, w_ife, toInt_int, w_neg, w_idx, w_slice, w_isi, w_call, w_call0, w_meth, w_blt, toSeq_tup, w_star, w_rev, onNx_nx, onNx_rt, onNx_ct, x_skip, x_seq, toSl_some, x_set, x_setC, x_par, x_ret, x_expr, x_cont, x_sif, onRt_rt, onRt_nx, onTurn_nx, onTurn_ct, onTurn_rt, lay, layN, List.map_cons, List.map_nil, List.getElem?_cons_zero, List.getElem?_cons_succ, Nat.sub_self, List.replicate_zero, List.replicate_succ, List.append_nil, List.cons_append, List.nil_append, List.set_cons_zero, List.set_cons_succ, Nat.reduceSub, to_ok, wipeP, true_and, capk0, capk1, capk2, capk3, capk4, capk5, capk6, capk7, capk8, lunder_ok (hb.mono (by decide : 10 ≤ 4000)) (ha.mono (by decide : 10 ≤ 4000))]
  by_cases h : b < a
  · simp only [h, decide_true, w_int, w_bl, w_non, w_no, w_str, w_nil, w_one, w_var, toVar_some, w_glob, toGl_some, toTup_tup, toBl_true, toBl_false, w_cons, w_tup, w_lst, w_bin, w_cmp, w_chain, w_not, w_and, w_or, w_ife, toInt_int, w_neg, w_idx, w_slice, w_isi, w_call, w_call0, w_meth, w_blt, toSeq_tup, w_star, w_rev, onNx_nx, onNx_rt, onNx_ct, x_skip, x_seq, toSl_some, x_set, x_setC, x_par, x_ret, x_expr, x_cont, x_sif, onRt_rt, onRt_nx, onTurn_nx, onTurn_ct, onTurn_rt, lay, layN, List.map_cons, List.map_nil, List.getElem?_cons_zero, List.getElem?_cons_succ, Nat.sub_self, List.replicate_zero, List.replicate_succ, List.append_nil, List.cons_append, List.nil_append, List.set_cons_zero, List.set_cons_succ, Nat.reduceSub, to_ok, wipeP, true_and, capk0, capk1, capk2, capk3, capk4, capk5, capk6, capk7, capk8, if_true]
  · simp only [h, decide_false, w_int, w_bl, w_non, w_no, w_str, w_nil, w_one, w_var, toVar_some, w_glob, toGl_some, toTup_tup, toBl_true, toBl_false, w_cons, w_tup, w_lst, w_bin, w_cmp, w_chain, w_not, w_and, w_or, w_ife, toInt_int, w_neg, w_idx, w_slice, w_isi, w_call, w_call0, w_meth, w_blt, toSeq_tup, w_star, w_rev, onNx_nx, onNx_rt, onNx_ct, x_skip, x_seq, toSl_some, x_set, x_setC, x_par, x_ret, x_expr, x_cont, x_sif, onRt_rt, onRt_nx, onTurn_nx, onTurn_ct, onTurn_rt, lay, layN, List.map_cons, List.map_nil, List.getElem?_cons_zero, List.getElem?_cons_succ, Nat.sub_self, List.replicate_zero, List.replicate_succ, List.append_nil, List.cons_append, List.nil_append, List.set_cons_zero, List.set_cons_succ, Nat.reduceSub, to_ok, wipeP, true_and, capk0, capk1, capk2, capk3, capk4, capk5, capk6, capk7, capk8, if_false]
theorem St.fr2 {s' : Sto} {X : List Nat} (h : St s d l A) (f : Fr X s s') (h1 : ∀ i ∈ X, s.n ≤ i) : St s' d l A := by
  have f0 : Fr [] s s' := ⟨f.le, fun i hi _ => f.keep i hi fun z => absurd hi (Nat.not_lt.mpr (h1 i z))⟩
  exact h.fr f0
/-- one range -/
theorem rg_ok (hw1 : W 10 a ∧ 0 ≤ a ∧ a ≤ 1) (hw2 : W 10 b ∧ 0 ≤ b ∧ b ≤ 1) : 0 ≤ (if b < a then b else a) ∧ (if b < a then b else a) ≤ (if b < a then a else b) ∧ (if b < a then a else b) ≤ 1 ∧ W 10 (if b < a then b else a) ∧ W 10 (if b < a then a else b) := by
  by_cases h : b < a
  · simp only [h, if_true]; exact ⟨hw2.2.1, Rat.le_of_lt h, hw1.2.2, hw2.1, hw1.1⟩
  · simp only [h, if_false]; exact ⟨hw1.2.1, Rat.not_lt.mp h, hw2.2.2, hw1.1, hw2.1⟩
def Rg (p : Rat × Rat) : Prop := 0 ≤ p.1 ∧ p.1 ≤ p.2 ∧ p.2 ≤ 1 ∧ W 10 p.1 ∧ W 10 p.2
theorem str_eq {x y : Str} (hx : PyData.strOk x = true) (hy : PyData.strOk y = true) : (evCmp .eq (.str x) (.str y) s).to Q = Q (.bl (decide (x = y))) s := by
  have e : eqP s (.str x) (.str y) = some (decide (x = y)) := by
    simp only [eqP, isRep, toD]
    rw [if_pos (by simp [SeqAt.shaped, PyData.canLay0, PyData.depth, hx, hy])]
    simp only [PyData.eqv]
    congr 1
  simp only [evCmp, e, to_ok]
def kinds : List Str := ["any", "exact", "mild"]
theorem kinds_ok : kinds.all PyData.strOk = true := by decide +kernel
theorem ranges_ok {kd : Str} (hkd : kd ∈ kinds) (h : St s d l A) (h1 : 1 ≤ L) (h4 : L ≤ 4) (hA : A ≤ 800) : (runF T (n + 4) f__law_ranges [.dct d, .int (L : Int), .str kd] s).to fun v s' => (∃ rs, v = .tup (rs.map rg) ∧ Fc L rs) ∧ St s' d l (A + 90) ∧ Fr [d, l] s s' := by
  have hks : PyData.strOk kd = true := by have := kinds_ok; rw [List.all_eq_true] at this; exact this kd hkd
  refine run_to d__law_ranges rfl ?_
  simp only [c__law_ranges, w_int, w_bl, w_non, w_no, w_str, w_nil, w_one, w_var, toVar_some, w_glob, toGl_some, toTup_tup, toBl_true, toBl_false, w_cons, w_tup, w_lst, w_bin, w_cmp, w_chain, w_not, w_and, w_or, w_ife, toInt_int, w_neg, w_idx, w_slice, w_isi, w_call, w_call0, w_meth, w_blt, toSeq_tup, w_star, w_rev, onNx_nx, onNx_rt, onNx_ct, x_skip, x_seq, toSl_some, x_set, x_setC, x_par, x_ret, x_expr, x_cont, x_sif, onRt_rt, onRt_nx, onTurn_nx, onTurn_ct, onTurn_rt, lay, layN, List.map_cons, List.map_nil, List.getElem?_cons_zero, List.getElem?_cons_succ, Nat.sub_self, List.replicate_zero, List.replicate_succ, List.append_nil, List.cons_append, List.nil_append, List.set_cons_zero, List.set_cons_succ, Nat.reduceSub, to_ok, wipeP, true_and, capk0, capk1, capk2, capk3, capk4, capk5, capk6, capk7, capk8]
  have hil : (inn L).length ≤ 15 := by
    have := inn_len L
    have : 2 ^ L ≤ 2 ^ 4 := Nat.pow_le_pow_right (by decide) h4
    omega
  obtain ⟨hd0, hl0⟩ := h.dl
  refine x_for2 ?_
  simp only [j_seq, w_int, w_bl, w_non, w_no, w_str, w_nil, w_one, w_var, toVar_some, w_glob, toGl_some, toTup_tup, toBl_true, toBl_false, w_cons, w_tup, w_lst, w_bin, w_cmp, w_chain, w_not, w_and, w_or, w_ife, toInt_int, w_neg, w_idx, w_slice, w_isi, w_call, w_call0, w_meth, w_blt, toSeq_tup, w_star, w_rev, onNx_nx, onNx_rt, onNx_ct, x_skip, x_seq, toSl_some, x_set, x_setC, x_par, x_ret, x_expr, x_cont, x_sif, onRt_rt, onRt_nx, onTurn_nx, onTurn_ct, onTurn_rt, lay, layN, List.map_cons, List.map_nil, List.getElem?_cons_zero, List.getElem?_cons_succ, Nat.sub_self, List.replicate_zero, List.replicate_succ, List.append_nil, List.cons_append, List.nil_append, List.set_cons_zero, List.set_cons_succ, Nat.reduceSub, to_ok, wipeP, true_and, capk0, capk1, capk2, capk3, capk4, capk5, capk6, capk7, capk8]
  refine to_mono (allruns_ok (by omega)) fun v s1 ⟨f1, i, j, ev, hi, hj, hi', hj'⟩ => ?_
  subst ev
  have e0 : ∀ {Q : PV → Sto → Prop}, (evIdx (.tup [.lst i, .lst j]) (.int 0) s1).to Q = Q (.lst i) s1 := fun {Q} => rfl
  have hin : s.n + 1 ≤ i := hi'
  simp only [e0, w_int, w_bl, w_non, w_no, w_str, w_nil, w_one, w_var, toVar_some, w_glob, toGl_some, toTup_tup, toBl_true, toBl_false, w_cons, w_tup, w_lst, w_bin, w_cmp, w_chain, w_not, w_and, w_or, w_ife, toInt_int, w_neg, w_idx, w_slice, w_isi, w_call, w_call0, w_meth, w_blt, toSeq_tup, w_star, w_rev, onNx_nx, onNx_rt, onNx_ct, x_skip, x_seq, toSl_some, x_set, x_setC, x_par, x_ret, x_expr, x_cont, x_sif, onRt_rt, onRt_nx, onTurn_nx, onTurn_ct, onTurn_rt, lay, layN, List.map_cons, List.map_nil, List.getElem?_cons_zero, List.getElem?_cons_succ, Nat.sub_self, List.replicate_zero, List.replicate_succ, List.append_nil, List.cons_append, List.nil_append, List.set_cons_zero, List.set_cons_succ, Nat.reduceSub, to_ok, wipeP, true_and, capk0, capk1, capk2, capk3, capk4, capk5, capk6, capk7, capk8]
  refine ⟨_, hi.getL, List Int, inn L, rp, fun s' => At s' i ((inn L).map rp), fun k σ s' => Fr [d, l] s s' ∧ St s' d l (A + 6 * k) ∧ At s' i ((inn L).map rp) ∧ ∃ (rs : List (Rat × Rat)) (o1 o2 o3 o4 : Option PV), σ = [some (.dct d), some (.int (L : Int)), some (.str kd), some (.lst s.n), o1, o2, o3, o4] ∧ At s' s.n (rs.map rg) ∧ rs.length = k ∧ ∀ p ∈ rs, Rg p,
    by simp [It.most, hi.getL], sees_l fun s' h => h, ⟨(Fr.new.trans f1).wide, (h.fr .new).fr f1, hi, [], none, none, none, none, rfl, At.new.fr0 f1, rfl, fun p hp => nomatch hp⟩, fun k σ s' z => z.2.2.1, fun k r σ s' hx ⟨g1, S1, gi, rs, o1, o2, o3, o4, e, hA1, hlen, hrs⟩ => ?_, fun σ s' ⟨g1, S1, gi, rs, o1, o2, o3, o4, e, hA1, hlen, hrs⟩ => ?_⟩
  · subst e
    have hk : k < (inn L).length := (List.getElem?_eq_some_iff.mp hx).1
    have nd : s.n ∉ [d, l] := by simp; omega
    have ni : i ∉ [d, l] := by simp; omega
    simp only [w_int, w_bl, w_non, w_no, w_str, w_nil, w_one, w_var, toVar_some, w_glob, toGl_some, toTup_tup, toBl_true, toBl_false, w_cons, w_tup, w_lst, w_bin, w_cmp, w_chain, w_not, w_and, w_or, w_ife, toInt_int, w_neg, w_idx, w_slice, w_isi, w_call, w_call0, w_meth, w_blt, toSeq_tup, w_star, w_rev, onNx_nx, onNx_rt, onNx_ct, x_skip, x_seq, toSl_some, x_set, x_setC, x_par, x_ret, x_expr, x_cont, x_sif, onRt_rt, onRt_nx, onTurn_nx, onTurn_ct, onTurn_rt, lay, layN, List.map_cons, List.map_nil, List.getElem?_cons_zero, List.getElem?_cons_succ, Nat.sub_self, List.replicate_zero, List.replicate_succ, List.append_nil, List.cons_append, List.nil_append, List.set_cons_zero, List.set_cons_succ, Nat.reduceSub, to_ok, wipeP, true_and, capk0, capk1, capk2, capk3, capk4, capk5, capk6, capk7, capk8]
    refine to_mono (between_ok S1 (by omega)) fun v s2 ⟨⟨x, ev, wx, x0, x1⟩, S2, f2⟩ => ?_
    subst ev
    refine to_mono (between_ok S2 (by omega)) fun v s3 ⟨⟨y, ev, wy, y0, y1⟩, S3, f3⟩ => ?_
    subst ev
    try simp only [w_int, w_bl, w_non, w_no, w_str, w_nil, w_one, w_var, toVar_some, w_glob, toGl_some, toTup_tup, toBl_true, toBl_false, w_cons, w_tup, w_lst, w_bin, w_cmp, w_chain, w_not, w_and, w_or, w_ife, toInt_int, w_neg, w_idx, w_slice, w_isi, w_call, w_call0, w_meth, w_blt, toSeq_tup, w_star, w_rev, onNx_nx, onNx_rt, onNx_ct, x_skip, x_seq, toSl_some, x_set, x_setC, x_par, x_ret, x_expr, x_cont, x_sif, onRt_rt, onRt_nx, onTurn_nx, onTurn_ct, onTurn_rt, lay, layN, List.map_cons, List.map_nil, List.getElem?_cons_zero, List.getElem?_cons_succ, Nat.sub_self, List.replicate_zero, List.replicate_succ, List.append_nil, List.cons_append, List.nil_append, List.set_cons_zero, List.set_cons_succ, Nat.reduceSub, to_ok, wipeP, true_and, capk0, capk1, capk2, capk3, capk4, capk5, capk6, capk7, capk8]
    rw [sorted2_ok wx wy]
    obtain ⟨r1, r2, r3, r4, r5⟩ := rg_ok (a := x) (b := y) ⟨wx, x0, x1⟩ ⟨wy, y0, y1⟩
    generalize (if y < x then y else x) = lo at r1 r2 r3 r4 r5 ⊢
    generalize (if y < x then x else y) = hi2 at r1 r2 r3 r4 r5 ⊢
    simp only [w_int, w_bl, w_non, w_no, w_str, w_nil, w_one, w_var, toVar_some, w_glob, toGl_some, toTup_tup, toBl_true, toBl_false, w_cons, w_tup, w_lst, w_bin, w_cmp, w_chain, w_not, w_and, w_or, w_ife, toInt_int, w_neg, w_idx, w_slice, w_isi, w_call, w_call0, w_meth, w_blt, toSeq_tup, w_star, w_rev, onNx_nx, onNx_rt, onNx_ct, x_skip, x_seq, toSl_some, x_set, x_setC, x_par, x_ret, x_expr, x_cont, x_sif, onRt_rt, onRt_nx, onTurn_nx, onTurn_ct, onTurn_rt, lay, layN, List.map_cons, List.map_nil, List.getElem?_cons_zero, List.getElem?_cons_succ, Nat.sub_self, List.replicate_zero, List.replicate_succ, List.append_nil, List.cons_append, List.nil_append, List.set_cons_zero, List.set_cons_succ, Nat.reduceSub, to_ok, wipeP, true_and, capk0, capk1, capk2, capk3, capk4, capk5, capk6, capk7, capk8, str_eq hks (by decide +kernel : PyData.strOk "exact" = true)]
    -- the rest, for any low and high
    have rest : ∀ (lo hi2 : Rat) (s4 : Sto) (o1 o4 : Option PV), Rg (lo, hi2) → Fr [d, l] s3 s4 → St s4 d l (A + 6 * (k + 1)) →
        (ev T (runF T (n + 3)) (.app (.var 3) (.tup (.cons (.var 5) (.cons (.var 6) .nil)))) [some (.dct d), some (.int (L : Int)), some (.str kd), some (.lst s.n), o1, some (q lo), some (q hi2), o4] s4).to fun _ s5 =>
          Fr [d, l] s s5 ∧ St s5 d l (A + 6 * (k + 1)) ∧ At s5 i ((inn L).map rp) ∧ ∃ (rs : List (Rat × Rat)) (p1 p2 p3 p4 : Option PV), [some (.dct d), some (.int (L : Int)), some (.str kd), some (.lst s.n), o1, some (q lo), some (q hi2), o4] = [some (.dct d), some (.int (L : Int)), some (.str kd), some (.lst s.n), p1, p2, p3, p4] ∧ At s5 s.n (rs.map rg) ∧ rs.length = k + 1 ∧ ∀ p ∈ rs, Rg p := fun lo hi2 s4 o1 o4 hr f4 S4 => by
      have hA4 : At s4 s.n (rs.map rg) := ((hA1.fr f2 nd).fr f3 nd).fr f4 nd
      have hi4 : At s4 i ((inn L).map rp) := ((gi.fr f2 ni).fr f3 ni).fr f4 ni
      refine w_app (by simp only [ev]; rfl) hA4 ?_
      simp only [w_int, w_bl, w_non, w_no, w_str, w_nil, w_one, w_var, toVar_some, w_glob, toGl_some, toTup_tup, toBl_true, toBl_false, w_cons, w_tup, w_lst, w_bin, w_cmp, w_chain, w_not, w_and, w_or, w_ife, toInt_int, w_neg, w_idx, w_slice, w_isi, w_call, w_call0, w_meth, w_blt, toSeq_tup, w_star, w_rev, onNx_nx, onNx_rt, onNx_ct, x_skip, x_seq, toSl_some, x_set, x_setC, x_par, x_ret, x_expr, x_cont, x_sif, onRt_rt, onRt_nx, onTurn_nx, onTurn_ct, onTurn_rt, lay, layN, List.map_cons, List.map_nil, List.getElem?_cons_zero, List.getElem?_cons_succ, Nat.sub_self, List.replicate_zero, List.replicate_succ, List.append_nil, List.cons_append, List.nil_append, List.set_cons_zero, List.set_cons_succ, Nat.reduceSub, to_ok, wipeP, true_and, capk0, capk1, capk2, capk3, capk4, capk5, capk6, capk7, capk8]
      refine ⟨_, hA4, by simp [cap]; omega, ?_⟩
      have F : Fr [s.n] s4 ⟨s4.n, put s.n (.lst (rs.map rg ++ [.tup [q lo, q hi2]])) s4.os⟩ := Fr.put .refl (.inl (by simp))
      have F2 : Fr [d, l] s ⟨s4.n, put s.n (.lst (rs.map rg ++ [.tup [q lo, q hi2]])) s4.os⟩ := (((g1.trans f2).trans f3).trans f4).put (.inr (Nat.le_refl _))
      have S5 : St ⟨s4.n, put s.n (.lst (rs.map rg ++ [.tup [q lo, q hi2]])) s4.os⟩ d l (A + 6 * (k + 1)) := S4.putL (by omega) (by omega)
      exact ⟨F2, S5, hi4.put_ne (by omega), rs ++ [(lo, hi2)], _, _, _, _, rfl, by rw [List.map_append]; exact hA4.put, by simp [hlen], fun p hp => by
        rw [List.mem_append, List.mem_singleton] at hp
        rcases hp with hp | rfl
        · exact hrs p hp
        · exact hr⟩
    have S3' : St s3 d l (A + 6 * (k + 1)) := S3.mono (by omega)
    have n1 : decide (("any" : Str) = "exact") = false := by decide +kernel
    have n2 : decide (("any" : Str) = "mild") = false := by decide +kernel
    have n3 : decide (("exact" : Str) = "mild") = false := by decide +kernel
    have n4 : decide (("mild" : Str) = "exact") = false := by decide +kernel
    simp only [kinds, List.mem_cons, List.not_mem_nil, or_false] at hkd
    rcases hkd with rfl | rfl | rfl
    · simp only [n1, w_int, w_bl, w_non, w_no, w_str, w_nil, w_one, w_var, toVar_some, w_glob, toGl_some, toTup_tup, toBl_true, toBl_false, w_cons, w_tup, w_lst, w_bin, w_cmp, w_chain, w_not, w_and, w_or, w_ife, toInt_int, w_neg, w_idx, w_slice, w_isi, w_call, w_call0, w_meth, w_blt, toSeq_tup, w_star, w_rev, onNx_nx, onNx_rt, onNx_ct, x_skip, x_seq, toSl_some, x_set, x_setC, x_par, x_ret, x_expr, x_cont, x_sif, onRt_rt, onRt_nx, onTurn_nx, onTurn_ct, onTurn_rt, lay, layN, List.map_cons, List.map_nil, List.getElem?_cons_zero, List.getElem?_cons_succ, Nat.sub_self, List.replicate_zero, List.replicate_succ, List.append_nil, List.cons_append, List.nil_append, List.set_cons_zero, List.set_cons_succ, Nat.reduceSub, to_ok, wipeP, true_and, capk0, capk1, capk2, capk3, capk4, capk5, capk6, capk7, capk8, str_eq hks (by decide +kernel : PyData.strOk "mild" = true), n2]
      exact rest lo hi2 s3 _ _ ⟨r1, r2, r3, r4, r5⟩ .refl S3'
    · simp only [decide_true, w_int, w_bl, w_non, w_no, w_str, w_nil, w_one, w_var, toVar_some, w_glob, toGl_some, toTup_tup, toBl_true, toBl_false, w_cons, w_tup, w_lst, w_bin, w_cmp, w_chain, w_not, w_and, w_or, w_ife, toInt_int, w_neg, w_idx, w_slice, w_isi, w_call, w_call0, w_meth, w_blt, toSeq_tup, w_star, w_rev, onNx_nx, onNx_rt, onNx_ct, x_skip, x_seq, toSl_some, x_set, x_setC, x_par, x_ret, x_expr, x_cont, x_sif, onRt_rt, onRt_nx, onTurn_nx, onTurn_ct, onTurn_rt, lay, layN, List.map_cons, List.map_nil, List.getElem?_cons_zero, List.getElem?_cons_succ, Nat.sub_self, List.replicate_zero, List.replicate_succ, List.append_nil, List.cons_append, List.nil_append, List.set_cons_zero, List.set_cons_succ, Nat.reduceSub, to_ok, wipeP, true_and, capk0, capk1, capk2, capk3, capk4, capk5, capk6, capk7, capk8, str_eq hks (by decide +kernel : PyData.strOk "mild" = true), n3]
      exact rest lo lo s3 _ _ ⟨r1, Rat.le_refl, Rat.le_trans r2 r3, r4, r4⟩ .refl S3'
    · simp only [n4, w_int, w_bl, w_non, w_no, w_str, w_nil, w_one, w_var, toVar_some, w_glob, toGl_some, toTup_tup, toBl_true, toBl_false, w_cons, w_tup, w_lst, w_bin, w_cmp, w_chain, w_not, w_and, w_or, w_ife, toInt_int, w_neg, w_idx, w_slice, w_isi, w_call, w_call0, w_meth, w_blt, toSeq_tup, w_star, w_rev, onNx_nx, onNx_rt, onNx_ct, x_skip, x_seq, toSl_some, x_set, x_setC, x_par, x_ret, x_expr, x_cont, x_sif, onRt_rt, onRt_nx, onTurn_nx, onTurn_ct, onTurn_rt, lay, layN, List.map_cons, List.map_nil, List.getElem?_cons_zero, List.getElem?_cons_succ, Nat.sub_self, List.replicate_zero, List.replicate_succ, List.append_nil, List.cons_append, List.nil_append, List.set_cons_zero, List.set_cons_succ, Nat.reduceSub, to_ok, wipeP, true_and, capk0, capk1, capk2, capk3, capk4, capk5, capk6, capk7, capk8, str_eq hks (by decide +kernel : PyData.strOk "mild" = true), decide_true]
      refine to_mono (draw_ok S3 (by omega) (by decide) (by decide)) fun v s4 ⟨⟨x4, ev, hx4⟩, S4, f4⟩ => ?_
      subst ev
      simp only [w_int, w_bl, w_non, w_no, w_str, w_nil, w_one, w_var, toVar_some, w_glob, toGl_some, toTup_tup, toBl_true, toBl_false, w_cons, w_tup, w_lst, w_bin, w_cmp, w_chain, w_not, w_and, w_or, w_ife, toInt_int, w_neg, w_idx, w_slice, w_isi, w_call, w_call0, w_meth, w_blt, toSeq_tup, w_star, w_rev, onNx_nx, onNx_rt, onNx_ct, x_skip, x_seq, toSl_some, x_set, x_setC, x_par, x_ret, x_expr, x_cont, x_sif, onRt_rt, onRt_nx, onTurn_nx, onTurn_ct, onTurn_rt, lay, layN, List.map_cons, List.map_nil, List.getElem?_cons_zero, List.getElem?_cons_succ, Nat.sub_self, List.replicate_zero, List.replicate_succ, List.append_nil, List.cons_append, List.nil_append, List.set_cons_zero, List.set_cons_succ, Nat.reduceSub, to_ok, wipeP, true_and, capk0, capk1, capk2, capk3, capk4, capk5, capk6, capk7, capk8, w_add, w_sub]
      refine to_mono (draw_ok S4 (by omega) (by omega) (by omega)) fun v s5 ⟨⟨x5, ev, hx5⟩, S5, f5⟩ => ?_
      subst ev
      simp only [w_int, w_bl, w_non, w_no, w_str, w_nil, w_one, w_var, toVar_some, w_glob, toGl_some, toTup_tup, toBl_true, toBl_false, w_cons, w_tup, w_lst, w_bin, w_cmp, w_chain, w_not, w_and, w_or, w_ife, toInt_int, w_neg, w_idx, w_slice, w_isi, w_call, w_call0, w_meth, w_blt, toSeq_tup, w_star, w_rev, onNx_nx, onNx_rt, onNx_ct, x_skip, x_seq, toSl_some, x_set, x_setC, x_par, x_ret, x_expr, x_cont, x_sif, onRt_rt, onRt_nx, onTurn_nx, onTurn_ct, onTurn_rt, lay, layN, List.map_cons, List.map_nil, List.getElem?_cons_zero, List.getElem?_cons_succ, Nat.sub_self, List.replicate_zero, List.replicate_succ, List.append_nil, List.cons_append, List.nil_append, List.set_cons_zero, List.set_cons_succ, Nat.reduceSub, to_ok, wipeP, true_and, capk0, capk1, capk2, capk3, capk4, capk5, capk6, capk7, capk8, w_add]
      have c1 : (1 + (x5 : Int)) = ((1 + x5 : Nat) : Int) := by omega
      have c2 : (2 + (x4 : Int)) = ((2 + x4 : Nat) : Int) := by omega
      rw [c1, c2, ratio_ok (by omega) (b_lt (by omega))]
      simp only [w_int, w_bl, w_non, w_no, w_str, w_nil, w_one, w_var, toVar_some, w_glob, toGl_some, toTup_tup, toBl_true, toBl_false, w_cons, w_tup, w_lst, w_bin, w_cmp, w_chain, w_not, w_and, w_or, w_ife, toInt_int, w_neg, w_idx, w_slice, w_isi, w_call, w_call0, w_meth, w_blt, toSeq_tup, w_star, w_rev, onNx_nx, onNx_rt, onNx_ct, x_skip, x_seq, toSl_some, x_set, x_setC, x_par, x_ret, x_expr, x_cont, x_sif, onRt_rt, onRt_nx, onTurn_nx, onTurn_ct, onTurn_rt, lay, layN, List.map_cons, List.map_nil, List.getElem?_cons_zero, List.getElem?_cons_succ, Nat.sub_self, List.replicate_zero, List.replicate_succ, List.append_nil, List.cons_append, List.nil_append, List.set_cons_zero, List.set_cons_succ, Nat.reduceSub, to_ok, wipeP, true_and, capk0, capk1, capk2, capk3, capk4, capk5, capk6, capk7, capk8]
      have wm : W 10 (mkRat ((1 + x5 : Nat) : Int) (2 + x4)) := W_small (by omega) (by omega) (by omega)
      exact rest _ _ s5 _ _ ⟨mk_nonneg, Rat.le_refl, mk_le_one (by omega) (by omega), wm, wm⟩ (f4.trans f5) (S5.mono (by omega))
  · subst e
    simp only [w_int, w_bl, w_non, w_no, w_str, w_nil, w_one, w_var, toVar_some, w_glob, toGl_some, toTup_tup, toBl_true, toBl_false, w_cons, w_tup, w_lst, w_bin, w_cmp, w_chain, w_not, w_and, w_or, w_ife, toInt_int, w_neg, w_idx, w_slice, w_isi, w_call, w_call0, w_meth, w_blt, toSeq_tup, w_star, w_rev, onNx_nx, onNx_rt, onNx_ct, x_skip, x_seq, toSl_some, x_set, x_setC, x_par, x_ret, x_expr, x_cont, x_sif, onRt_rt, onRt_nx, onTurn_nx, onTurn_ct, onTurn_rt, lay, layN, List.map_cons, List.map_nil, List.getElem?_cons_zero, List.getElem?_cons_succ, Nat.sub_self, List.replicate_zero, List.replicate_succ, List.append_nil, List.cons_append, List.nil_append, List.set_cons_zero, List.set_cons_succ, Nat.reduceSub, to_ok, wipeP, true_and, capk0, capk1, capk2, capk3, capk4, capk5, capk6, capk7, capk8, evBlt, hA1.getL]
    exact ⟨⟨rs, rfl, hlen, hrs⟩, S1.mono (by omega), g1⟩
/-! ### within ranges -/
theorem half_ok {x y : Rat} (h1 : x ≤ y) : x ≤ (x + y) / 2 ∧ (x + y) / 2 ≤ y := by
  constructor <;> grind
theorem lwithin_ok (hF : Fc L rs) (h : St s d l A) (h4 : L ≤ 4) (hA : A ≤ 800) : (runF T (n + 4) f__law_within [.dct d, .tup (rs.map rg)] s).to fun v s' => (∃ fs, v = .tup (fs.map q) ∧ Cs rs fs ∧ Ch L fs) ∧ St s' d l (A + 15) ∧ Fr [d, l] s s' := by
  have hil : (inn L).length ≤ 15 := by
    have := inn_len L
    have : 2 ^ L ≤ 2 ^ 4 := Nat.pow_le_pow_right (by decide) h4
    omega
  have hrl := hF.len
  obtain ⟨hd0, hl0⟩ := h.dl
  refine run_to d__law_within rfl ?_
  simp only [c__law_within, w_int, w_bl, w_non, w_no, w_str, w_nil, w_one, w_var, toVar_some, w_glob, toGl_some, toTup_tup, toBl_true, toBl_false, w_cons, w_tup, w_lst, w_bin, w_cmp, w_chain, w_not, w_and, w_or, w_ife, toInt_int, w_neg, w_idx, w_slice, w_isi, w_call, w_call0, w_meth, w_blt, toSeq_tup, w_star, w_rev, onNx_nx, onNx_rt, onNx_ct, x_skip, x_seq, toSl_some, x_set, x_setC, x_par, x_ret, x_expr, x_cont, x_sif, onRt_rt, onRt_nx, onTurn_nx, onTurn_ct, onTurn_rt, lay, layN, List.map_cons, List.map_nil, List.getElem?_cons_zero, List.getElem?_cons_succ, Nat.sub_self, List.replicate_zero, List.replicate_succ, List.append_nil, List.cons_append, List.nil_append, List.set_cons_zero, List.set_cons_succ, Nat.reduceSub, to_ok, wipeP, true_and, capk0, capk1, capk2, capk3, capk4, capk5, capk6, capk7, capk8]
  refine x_for rs rg (fun _ => True) (fun k σ s' => Fr [d, l] s s' ∧ St s' d l (A + k) ∧ ∃ (fs : List Rat) (o1 o2 o3 : Option PV), σ = [some (.dct d), some (.tup (rs.map rg)), some (.lst s.n), o1, o2, o3] ∧ At s' s.n (fs.map q) ∧ fs.length = k ∧ (∀ (m : Nat) (x : Rat) (p : Rat × Rat), fs[m]? = some x → rs[m]? = some p → p.1 ≤ x ∧ x ≤ p.2) ∧ ∀ x ∈ fs, W 24 x) ?_ (fun _ _ _ _ => trivial) (fun k p σ s' hx ⟨g1, S1, fs, o1, o2, o3, e, hA1, hlen, hz, hw⟩ => ?_) (fun σ s' ⟨g1, S1, fs, o1, o2, o3, e, hA1, hlen, hz, hw⟩ => ?_)
  · simp only [j_seq, w_int, w_bl, w_non, w_no, w_str, w_nil, w_one, w_var, toVar_some, w_glob, toGl_some, toTup_tup, toBl_true, toBl_false, w_cons, w_tup, w_lst, w_bin, w_cmp, w_chain, w_not, w_and, w_or, w_ife, toInt_int, w_neg, w_idx, w_slice, w_isi, w_call, w_call0, w_meth, w_blt, toSeq_tup, w_star, w_rev, onNx_nx, onNx_rt, onNx_ct, x_skip, x_seq, toSl_some, x_set, x_setC, x_par, x_ret, x_expr, x_cont, x_sif, onRt_rt, onRt_nx, onTurn_nx, onTurn_ct, onTurn_rt, lay, layN, List.map_cons, List.map_nil, List.getElem?_cons_zero, List.getElem?_cons_succ, Nat.sub_self, List.replicate_zero, List.replicate_succ, List.append_nil, List.cons_append, List.nil_append, List.set_cons_zero, List.set_cons_succ, Nat.reduceSub, to_ok, wipeP, true_and, capk0, capk1, capk2, capk3, capk4, capk5, capk6, capk7, capk8]
    exact ⟨by simp [It.most], sees_t, Fr.new, h.fr .new, [], none, none, none, rfl, .new, rfl, fun m x p hm => by simp at hm, fun x hx => nomatch hx⟩
  · subst e
    have hk : k < rs.length := (List.getElem?_eq_some_iff.mp hx).1
    have nd : s.n ∉ [d, l] := by simp; omega
    obtain ⟨r1, r2, r3, w1, w2⟩ := hF.ok p (List.mem_of_getElem? hx)
    have wp : W 21 (p.1 + p.2) := (w1.add w2).mono (by decide)
    have w2' : W 2 (2 : Rat) := ⟨by decide, by decide⟩
    have e2 : PV.tup [.int 2, .int 1] = q 2 := rfl
    simp only [w_int, w_bl, w_non, w_no, w_str, w_nil, w_one, w_var, toVar_some, w_glob, toGl_some, toTup_tup, toBl_true, toBl_false, w_cons, w_tup, w_lst, w_bin, w_cmp, w_chain, w_not, w_and, w_or, w_ife, toInt_int, w_neg, w_idx, w_slice, w_isi, w_call, w_call0, w_meth, w_blt, toSeq_tup, w_star, w_rev, onNx_nx, onNx_rt, onNx_ct, x_skip, x_seq, toSl_some, x_set, x_setC, x_par, x_ret, x_expr, x_cont, x_sif, onRt_rt, onRt_nx, onTurn_nx, onTurn_ct, onTurn_rt, lay, layN, List.map_cons, List.map_nil, List.getElem?_cons_zero, List.getElem?_cons_succ, Nat.sub_self, List.replicate_zero, List.replicate_succ, List.append_nil, List.cons_append, List.nil_append, List.set_cons_zero, List.set_cons_succ, Nat.reduceSub, to_ok, wipeP, true_and, capk0, capk1, capk2, capk3, capk4, capk5, capk6, capk7, capk8, rg]
    rw [plus_ok (w1.mono (by decide)) (w2.mono (by decide))]
    simp only [w_int, w_bl, w_non, w_no, w_str, w_nil, w_one, w_var, toVar_some, w_glob, toGl_some, toTup_tup, toBl_true, toBl_false, w_cons, w_tup, w_lst, w_bin, w_cmp, w_chain, w_not, w_and, w_or, w_ife, toInt_int, w_neg, w_idx, w_slice, w_isi, w_call, w_call0, w_meth, w_blt, toSeq_tup, w_star, w_rev, onNx_nx, onNx_rt, onNx_ct, x_skip, x_seq, toSl_some, x_set, x_setC, x_par, x_ret, x_expr, x_cont, x_sif, onRt_rt, onRt_nx, onTurn_nx, onTurn_ct, onTurn_rt, lay, layN, List.map_cons, List.map_nil, List.getElem?_cons_zero, List.getElem?_cons_succ, Nat.sub_self, List.replicate_zero, List.replicate_succ, List.append_nil, List.cons_append, List.nil_append, List.set_cons_zero, List.set_cons_succ, Nat.reduceSub, to_ok, wipeP, true_and, capk0, capk1, capk2, capk3, capk4, capk5, capk6, capk7, capk8]
    rw [e2, over_ok (wp.mono (by decide)) (w2'.mono (by decide)) (by decide)]
    simp only [w_int, w_bl, w_non, w_no, w_str, w_nil, w_one, w_var, toVar_some, w_glob, toGl_some, toTup_tup, toBl_true, toBl_false, w_cons, w_tup, w_lst, w_bin, w_cmp, w_chain, w_not, w_and, w_or, w_ife, toInt_int, w_neg, w_idx, w_slice, w_isi, w_call, w_call0, w_meth, w_blt, toSeq_tup, w_star, w_rev, onNx_nx, onNx_rt, onNx_ct, x_skip, x_seq, toSl_some, x_set, x_setC, x_par, x_ret, x_expr, x_cont, x_sif, onRt_rt, onRt_nx, onTurn_nx, onTurn_ct, onTurn_rt, lay, layN, List.map_cons, List.map_nil, List.getElem?_cons_zero, List.getElem?_cons_succ, Nat.sub_self, List.replicate_zero, List.replicate_succ, List.append_nil, List.cons_append, List.nil_append, List.set_cons_zero, List.set_cons_succ, Nat.reduceSub, to_ok, wipeP, true_and, capk0, capk1, capk2, capk3, capk4, capk5, capk6, capk7, capk8]
    obtain ⟨m1, m2⟩ := half_ok r2
    have wm : W 24 ((p.1 + p.2) / 2) := (wp.div w2' (by decide)).mono (by decide)
    refine w_app (by simp only [ev]; rfl) hA1 ?_
    simp only [w_int, w_bl, w_non, w_no, w_str, w_nil, w_one, w_var, toVar_some, w_glob, toGl_some, toTup_tup, toBl_true, toBl_false, w_cons, w_tup, w_lst, w_bin, w_cmp, w_chain, w_not, w_and, w_or, w_ife, toInt_int, w_neg, w_idx, w_slice, w_isi, w_call, w_call0, w_meth, w_blt, toSeq_tup, w_star, w_rev, onNx_nx, onNx_rt, onNx_ct, x_skip, x_seq, toSl_some, x_set, x_setC, x_par, x_ret, x_expr, x_cont, x_sif, onRt_rt, onRt_nx, onTurn_nx, onTurn_ct, onTurn_rt, lay, layN, List.map_cons, List.map_nil, List.getElem?_cons_zero, List.getElem?_cons_succ, Nat.sub_self, List.replicate_zero, List.replicate_succ, List.append_nil, List.cons_append, List.nil_append, List.set_cons_zero, List.set_cons_succ, Nat.reduceSub, to_ok, wipeP, true_and, capk0, capk1, capk2, capk3, capk4, capk5, capk6, capk7, capk8]
    refine to_mono (draw_ok (S1.fr .new) (by omega) (by decide) (by decide)) fun v s3 ⟨⟨x3, ev, hx3⟩, S3, f3⟩ => ?_
    subst ev
    have hA3 : At s3 s.n (fs.map q) := (hA1.fr0 .new).fr f3 nd
    have hB3 : At s3 s'.n [q p.1, q p.2, q ((p.1 + p.2) / 2)] := At.new.fr f3 (by have := S1.dl; simp; omega)
    obtain ⟨x, ex, hx0, hx1, hxw⟩ : ∃ x, ([q p.1, q p.2, q ((p.1 + p.2) / 2)] : List PV)[x3]? = some (q x) ∧ p.1 ≤ x ∧ x ≤ p.2 ∧ W 24 x := by
      have : x3 = 0 ∨ x3 = 1 ∨ x3 = 2 := by omega
      rcases this with rfl | rfl | rfl
      · exact ⟨_, rfl, Rat.le_refl, r2, w1.mono (by decide)⟩
      · exact ⟨_, rfl, r2, Rat.le_refl, w2.mono (by decide)⟩
      · exact ⟨_, rfl, m1, m2, wm⟩
    rw [idx_lst hB3 ex]
    refine ⟨_, hA3, by simp [cap]; omega, ?_⟩
    try simp only [w_int, w_bl, w_non, w_no, w_str, w_nil, w_one, w_var, toVar_some, w_glob, toGl_some, toTup_tup, toBl_true, toBl_false, w_cons, w_tup, w_lst, w_bin, w_cmp, w_chain, w_not, w_and, w_or, w_ife, toInt_int, w_neg, w_idx, w_slice, w_isi, w_call, w_call0, w_meth, w_blt, toSeq_tup, w_star, w_rev, onNx_nx, onNx_rt, onNx_ct, x_skip, x_seq, toSl_some, x_set, x_setC, x_par, x_ret, x_expr, x_cont, x_sif, onRt_rt, onRt_nx, onTurn_nx, onTurn_ct, onTurn_rt, lay, layN, List.map_cons, List.map_nil, List.getElem?_cons_zero, List.getElem?_cons_succ, Nat.sub_self, List.replicate_zero, List.replicate_succ, List.append_nil, List.cons_append, List.nil_append, List.set_cons_zero, List.set_cons_succ, Nat.reduceSub, to_ok, wipeP, true_and, capk0, capk1, capk2, capk3, capk4, capk5, capk6, capk7, capk8]
    refine ⟨((g1.trans Fr.new).trans f3).put (.inr (Nat.le_refl _)), (S3.mono (by omega)).putL (by omega) (by omega), fs ++ [x], _, _, _, rfl, by rw [List.map_append]; exact hA3.put, by simp [hlen], fun m y p' hm hp => ?_, fun y hy => ?_⟩
    · by_cases hmk : m < fs.length
      · rw [List.getElem?_append_left hmk] at hm
        exact hz m y p' hm hp
      · have hml : m < (fs ++ [x]).length := (List.getElem?_eq_some_iff.mp hm).1
        have e : m = k := by rw [List.length_append, List.length_singleton] at hml; omega
        subst e
        rw [hx] at hp
        cases hp
        rw [List.getElem?_append_right (by omega), hlen, Nat.sub_self] at hm
        cases hm
        exact ⟨hx0, hx1⟩
    · rw [List.mem_append, List.mem_singleton] at hy
      rcases hy with hy | rfl
      · exact hw y hy
      · exact hxw
  · subst e
    simp only [w_int, w_bl, w_non, w_no, w_str, w_nil, w_one, w_var, toVar_some, w_glob, toGl_some, toTup_tup, toBl_true, toBl_false, w_cons, w_tup, w_lst, w_bin, w_cmp, w_chain, w_not, w_and, w_or, w_ife, toInt_int, w_neg, w_idx, w_slice, w_isi, w_call, w_call0, w_meth, w_blt, toSeq_tup, w_star, w_rev, onNx_nx, onNx_rt, onNx_ct, x_skip, x_seq, toSl_some, x_set, x_setC, x_par, x_ret, x_expr, x_cont, x_sif, onRt_rt, onRt_nx, onTurn_nx, onTurn_ct, onTurn_rt, lay, layN, List.map_cons, List.map_nil, List.getElem?_cons_zero, List.getElem?_cons_succ, Nat.sub_self, List.replicate_zero, List.replicate_succ, List.append_nil, List.cons_append, List.nil_append, List.set_cons_zero, List.set_cons_succ, Nat.reduceSub, to_ok, wipeP, true_and, capk0, capk1, capk2, capk3, capk4, capk5, capk6, capk7, capk8, evBlt, hA1.getL]
    exact ⟨⟨fs, rfl, ⟨by simpa using hlen, fun p hp => by
      obtain ⟨m, hm⟩ := List.mem_iff_getElem?.mp hp
      obtain ⟨h1, h2⟩ := List.getElem?_zip_eq_some.mp hm
      exact hz m _ _ h2 h1⟩, ⟨by rw [hlen, hrl], hw⟩⟩, S1.mono (by omega), g1⟩
end
end K39

namespace K39
open PySem FI GI
section
variable {n : Nat} {a b : Rat} {s : Sto} {Q : PV → Sto → Prop} {L : Nat} {rs : List (Rat × Rat)} {fs ps : List Rat}
theorem inn_lev : ∀ {L : Nat} {r : List Int}, r ∈ inn L → ∃ m, m < L ∧ r ∈ lev m
  | 0, r, h => by simp [inn] at h
  | L + 1, r, h => by
    rw [inn, List.mem_append] at h
    rcases h with h | h
    · obtain ⟨m, h1, h2⟩ := inn_lev h
      exact ⟨m, by omega, h2⟩
    · exact ⟨L, by omega, h⟩
theorem idx0 {x y : PV} {s : Sto} {Q : PV → Sto → Prop} {i : Nat} (h : At s i [x, y]) : (evIdx (.lst i) (.int 0) s).to Q = Q x s := idx_lst (k := 0) h rfl
theorem idx1 {x y : PV} {s : Sto} {Q : PV → Sto → Prop} {i : Nat} (h : At s i [x, y]) : (evIdx (.lst i) (.int 1) s).to Q = Q y s := idx_lst (k := 1) h rfl
theorem chances_right_ok (h : Fc L rs) (h1 : 1 ≤ L) (h5 : L ≤ 4) (hc : Cs rs fs) (hw : Ch L fs) : runF T (n + 8) f__law_are_chances_right [.int (L : Int), .tup (rs.map rg), .tup (fs.map q)] s = .ok (.bl true) s := by
  have h5' : L ≤ 5 := by omega
  have hch : ∀ {n : Nat} {s : Sto} {r : List Int} {m : Nat}, r ∈ lev m → m ≤ L → runF T (n + 7) f_chance [.int (L : Int), .tup (rs.map rg), .tup (fs.map q), rp r] s = .ok (q (prob fs r)) s := fun {n s r m} hr hm => chance_ok h h1 h5' hc hw (lev_bits hr) (by rw [lev_mem_len hr]; exact hm)
  have hW : ∀ {r : List Int} {m : Nat}, r ∈ lev m → m ≤ L → W 131 (prob fs r) := fun {r m} hr hm => W_prob hw (by rw [lev_mem_len hr]; omega)
  refine run_pu d__law_are_chances_right rfl (by simp only [pureVs, pure_rs, pure_qs, Bool.and_self]; rfl) rfl ?_
  simp only [c__law_are_chances_right, w_int, w_bl, w_non, w_no, w_str, w_nil, w_one, w_var, toVar_some, w_glob, toGl_some, toTup_tup, toBl_true, toBl_false, w_cons, w_tup, w_lst, w_bin, w_cmp, w_chain, w_not, w_and, w_or, w_ife, toInt_int, w_neg, w_idx, w_slice, w_isi, w_call, w_call0, w_meth, w_blt, toSeq_tup, w_star, w_rev, onNx_nx, onNx_rt, onNx_ct, x_skip, x_seq, toSl_some, x_set, x_setC, x_par, x_ret, x_expr, x_cont, x_sif, onRt_rt, onRt_nx, onTurn_nx, onTurn_ct, onTurn_rt, lay, layN, List.map_cons, List.map_nil, List.getElem?_cons_zero, List.getElem?_cons_succ, Nat.sub_self, List.replicate_zero, List.replicate_succ, List.append_nil, List.cons_append, List.nil_append, List.set_cons_zero, List.set_cons_succ, Nat.reduceSub, to_ok, wipeP, true_and, capk0, capk1, capk2, capk3, capk4, capk5, capk6, capk7, capk8]
  refine to_mono (allruns_ok h5') fun v s1 ⟨f1, i, j, ev, hi, hj, _, _⟩ => ?_
  subst ev
  have hil : (inn L).length ≤ 31 := inn_le h5'
  have hjl : (lev L).length ≤ 32 := by rw [lev_len]; exact pow16 h5'
  simp only [w_int, w_bl, w_non, w_no, w_str, w_nil, w_one, w_var, toVar_some, w_glob, toGl_some, toTup_tup, toBl_true, toBl_false, w_cons, w_tup, w_lst, w_bin, w_cmp, w_chain, w_not, w_and, w_or, w_ife, toInt_int, w_neg, w_idx, w_slice, w_isi, w_call, w_call0, w_meth, w_blt, toSeq_tup, w_star, w_rev, onNx_nx, onNx_rt, onNx_ct, x_skip, x_seq, toSl_some, x_set, x_setC, x_par, x_ret, x_expr, x_cont, x_sif, onRt_rt, onRt_nx, onTurn_nx, onTurn_ct, onTurn_rt, lay, layN, List.map_cons, List.map_nil, List.getElem?_cons_zero, List.getElem?_cons_succ, Nat.sub_self, List.replicate_zero, List.replicate_succ, List.append_nil, List.cons_append, List.nil_append, List.set_cons_zero, List.set_cons_succ, Nat.reduceSub, to_ok, wipeP, true_and, capk0, capk1, capk2, capk3, capk4, capk5, capk6, capk7, capk8]
  refine x_for (inn L ++ lev L) rp (fun s' => At s' s1.n ((inn L ++ lev L).map rp)) (fun k σ s' => Fr [] s1 s' ∧ At s' s1.n ((inn L ++ lev L).map rp) ∧ ∃ o1 o2, σ = [some (.int (L : Int)), some (.tup (rs.map rg)), some (.tup (fs.map q)), some (.lst i), some (.lst j), o1, o2]) ?_ (fun _ _ _ h => h.2.1) (fun k r σ s' hx ⟨g1, g2, o1, o2, e⟩ => ?_) (fun σ s' ⟨g1, g2, o1, o2, e⟩ => ?_)
  · simp only [j_seq, w_int, w_bl, w_non, w_no, w_str, w_nil, w_one, w_var, toVar_some, w_glob, toGl_some, toTup_tup, toBl_true, toBl_false, w_cons, w_tup, w_lst, w_bin, w_cmp, w_chain, w_not, w_and, w_or, w_ife, toInt_int, w_neg, w_idx, w_slice, w_isi, w_call, w_call0, w_meth, w_blt, toSeq_tup, w_star, w_rev, onNx_nx, onNx_rt, onNx_ct, x_skip, x_seq, toSl_some, x_set, x_setC, x_par, x_ret, x_expr, x_cont, x_sif, onRt_rt, onRt_nx, onTurn_nx, onTurn_ct, onTurn_rt, lay, layN, List.map_cons, List.map_nil, List.getElem?_cons_zero, List.getElem?_cons_succ, Nat.sub_self, List.replicate_zero, List.replicate_succ, List.append_nil, List.cons_append, List.nil_append, List.set_cons_zero, List.set_cons_succ, Nat.reduceSub, to_ok, wipeP, true_and, capk0, capk1, capk2, capk3, capk4, capk5, capk6, capk7, capk8]
    rw [addL hi hj (by simp [cap]; omega)]
    have z : At (s1.new (.lst ((inn L).map rp ++ (lev L).map rp))) s1.n ((inn L ++ lev L).map rp) := by rw [List.map_append]; exact .new
    exact ⟨_, z.getL, by simp [It.most, z.getL], sees_l fun s' h => h, .new, z, none, none, rfl⟩
  · subst e
    have hm : ∃ m, m ≤ L ∧ r ∈ lev m := by
      have := List.mem_of_getElem? hx
      rw [List.mem_append] at this
      rcases this with z | z
      · obtain ⟨m, z1, z2⟩ := inn_lev z; exact ⟨m, by omega, z2⟩
      · exact ⟨L, Nat.le_refl _, z⟩
    obtain ⟨m, hm1, hm2⟩ := hm
    have w := hW hm2 hm1
    simp only [w_int, w_bl, w_non, w_no, w_str, w_nil, w_one, w_var, toVar_some, w_glob, toGl_some, toTup_tup, toBl_true, toBl_false, w_cons, w_tup, w_lst, w_bin, w_cmp, w_chain, w_not, w_and, w_or, w_ife, toInt_int, w_neg, w_idx, w_slice, w_isi, w_call, w_call0, w_meth, w_blt, toSeq_tup, w_star, w_rev, onNx_nx, onNx_rt, onNx_ct, x_skip, x_seq, toSl_some, x_set, x_setC, x_par, x_ret, x_expr, x_cont, x_sif, onRt_rt, onRt_nx, onTurn_nx, onTurn_ct, onTurn_rt, lay, layN, List.map_cons, List.map_nil, List.getElem?_cons_zero, List.getElem?_cons_succ, Nat.sub_self, List.replicate_zero, List.replicate_succ, List.append_nil, List.cons_append, List.nil_append, List.set_cons_zero, List.set_cons_succ, Nat.reduceSub, to_ok, wipeP, true_and, capk0, capk1, capk2, capk3, capk4, capk5, capk6, capk7, capk8, hch hm2 hm1, repr_q (w.mono (by decide))]
    rw [likely_ok hw h1 h5' hm2 hm1]
    simp only [w_int, w_bl, w_non, w_no, w_str, w_nil, w_one, w_var, toVar_some, w_glob, toGl_some, toTup_tup, toBl_true, toBl_false, w_cons, w_tup, w_lst, w_bin, w_cmp, w_chain, w_not, w_and, w_or, w_ife, toInt_int, w_neg, w_idx, w_slice, w_isi, w_call, w_call0, w_meth, w_blt, toSeq_tup, w_star, w_rev, onNx_nx, onNx_rt, onNx_ct, x_skip, x_seq, toSl_some, x_set, x_setC, x_par, x_ret, x_expr, x_cont, x_sif, onRt_rt, onRt_nx, onTurn_nx, onTurn_ct, onTurn_rt, lay, layN, List.map_cons, List.map_nil, List.getElem?_cons_zero, List.getElem?_cons_succ, Nat.sub_self, List.replicate_zero, List.replicate_succ, List.append_nil, List.cons_append, List.nil_append, List.set_cons_zero, List.set_cons_succ, Nat.reduceSub, to_ok, wipeP, true_and, capk0, capk1, capk2, capk3, capk4, capk5, capk6, capk7, capk8, repr_q (w.mono (by decide : 131 ≤ 1900)), rep_ne (okR_q (w.mono (by decide : 131 ≤ 1900)))]
    exact ⟨g1, g2, _, _, rfl⟩
  · subst e
    simp only [w_int, w_bl, w_non, w_no, w_str, w_nil, w_one, w_var, toVar_some, w_glob, toGl_some, toTup_tup, toBl_true, toBl_false, w_cons, w_tup, w_lst, w_bin, w_cmp, w_chain, w_not, w_and, w_or, w_ife, toInt_int, w_neg, w_idx, w_slice, w_isi, w_call, w_call0, w_meth, w_blt, toSeq_tup, w_star, w_rev, onNx_nx, onNx_rt, onNx_ct, x_skip, x_seq, toSl_some, x_set, x_setC, x_par, x_ret, x_expr, x_cont, x_sif, onRt_rt, onRt_nx, onTurn_nx, onTurn_ct, onTurn_rt, lay, layN, List.map_cons, List.map_nil, List.getElem?_cons_zero, List.getElem?_cons_succ, Nat.sub_self, List.replicate_zero, List.replicate_succ, List.append_nil, List.cons_append, List.nil_append, List.set_cons_zero, List.set_cons_succ, Nat.reduceSub, to_ok, wipeP, true_and, capk0, capk1, capk2, capk3, capk4, capk5, capk6, capk7, capk8]
    have hi2 := hi.fr0 g1
    have hj2 := hj.fr0 g1
    refine x_for (inn L) rp (fun s'' => At s'' i ((inn L).map rp)) (fun k σ s'' => Fr [] s' s'' ∧ At s'' i ((inn L).map rp) ∧ ∃ o1 o2, σ = [some (.int (L : Int)), some (.tup (rs.map rg)), some (.tup (fs.map q)), some (.lst i), some (.lst j), o1, o2]) ?_ (fun _ _ _ h => h.2.1) (fun k r σ s'' hx ⟨k1, k2, o1, o2, e⟩ => ?_) (fun σ s'' ⟨k1, k2, o1, o2, e⟩ => ?_)
    · simp only [j_seq, w_int, w_bl, w_non, w_no, w_str, w_nil, w_one, w_var, toVar_some, w_glob, toGl_some, toTup_tup, toBl_true, toBl_false, w_cons, w_tup, w_lst, w_bin, w_cmp, w_chain, w_not, w_and, w_or, w_ife, toInt_int, w_neg, w_idx, w_slice, w_isi, w_call, w_call0, w_meth, w_blt, toSeq_tup, w_star, w_rev, onNx_nx, onNx_rt, onNx_ct, x_skip, x_seq, toSl_some, x_set, x_setC, x_par, x_ret, x_expr, x_cont, x_sif, onRt_rt, onRt_nx, onTurn_nx, onTurn_ct, onTurn_rt, lay, layN, List.map_cons, List.map_nil, List.getElem?_cons_zero, List.getElem?_cons_succ, Nat.sub_self, List.replicate_zero, List.replicate_succ, List.append_nil, List.cons_append, List.nil_append, List.set_cons_zero, List.set_cons_succ, Nat.reduceSub, to_ok, wipeP, true_and, capk0, capk1, capk2, capk3, capk4, capk5, capk6, capk7, capk8]
      exact ⟨_, hi2.getL, by simp [It.most, hi2.getL], sees_l fun s' h => h, .refl, hi2, _, _, rfl⟩
    · subst e
      obtain ⟨m, hm1, hm2⟩ := inn_lev (List.mem_of_getElem? hx)
      have e0 : r ++ [0] ∈ lev (m + 1) := by rw [lev, List.mem_flatMap]; exact ⟨r, hm2, by simp [two]⟩
      have e1 : r ++ [1] ∈ lev (m + 1) := by rw [lev, List.mem_flatMap]; exact ⟨r, hm2, by simp [two]⟩
      have hrl : r.length ≤ 100 := by rw [lev_mem_len hm2]; omega
      simp only [w_int, w_bl, w_non, w_no, w_str, w_nil, w_one, w_var, toVar_some, w_glob, toGl_some, toTup_tup, toBl_true, toBl_false, w_cons, w_tup, w_lst, w_bin, w_cmp, w_chain, w_not, w_and, w_or, w_ife, toInt_int, w_neg, w_idx, w_slice, w_isi, w_call, w_call0, w_meth, w_blt, toSeq_tup, w_star, w_rev, onNx_nx, onNx_rt, onNx_ct, x_skip, x_seq, toSl_some, x_set, x_setC, x_par, x_ret, x_expr, x_cont, x_sif, onRt_rt, onRt_nx, onTurn_nx, onTurn_ct, onTurn_rt, lay, layN, List.map_cons, List.map_nil, List.getElem?_cons_zero, List.getElem?_cons_succ, Nat.sub_self, List.replicate_zero, List.replicate_succ, List.append_nil, List.cons_append, List.nil_append, List.set_cons_zero, List.set_cons_succ, Nat.reduceSub, to_ok, wipeP, true_and, capk0, capk1, capk2, capk3, capk4, capk5, capk6, capk7, capk8, add_rp hrl, hch e0 (by omega), hch e1 (by omega)]
      simp only [w_int, w_bl, w_non, w_no, w_str, w_nil, w_one, w_var, toVar_some, w_glob, toGl_some, toTup_tup, toBl_true, toBl_false, w_cons, w_tup, w_lst, w_bin, w_cmp, w_chain, w_not, w_and, w_or, w_ife, toInt_int, w_neg, w_idx, w_slice, w_isi, w_call, w_call0, w_meth, w_blt, toSeq_tup, w_star, w_rev, onNx_nx, onNx_rt, onNx_ct, x_skip, x_seq, toSl_some, x_set, x_setC, x_par, x_ret, x_expr, x_cont, x_sif, onRt_rt, onRt_nx, onTurn_nx, onTurn_ct, onTurn_rt, lay, layN, List.map_cons, List.map_nil, List.getElem?_cons_zero, List.getElem?_cons_succ, Nat.sub_self, List.replicate_zero, List.replicate_succ, List.append_nil, List.cons_append, List.nil_append, List.set_cons_zero, List.set_cons_succ, Nat.reduceSub, to_ok, wipeP, true_and, capk0, capk1, capk2, capk3, capk4, capk5, capk6, capk7, capk8, idx0 At.new, idx1 At.new]
      rw [plus_ok ((hW e0 (by omega)).mono (by decide)) ((hW e1 (by omega)).mono (by decide))]
      simp only [w_int, w_bl, w_non, w_no, w_str, w_nil, w_one, w_var, toVar_some, w_glob, toGl_some, toTup_tup, toBl_true, toBl_false, w_cons, w_tup, w_lst, w_bin, w_cmp, w_chain, w_not, w_and, w_or, w_ife, toInt_int, w_neg, w_idx, w_slice, w_isi, w_call, w_call0, w_meth, w_blt, toSeq_tup, w_star, w_rev, onNx_nx, onNx_rt, onNx_ct, x_skip, x_seq, toSl_some, x_set, x_setC, x_par, x_ret, x_expr, x_cont, x_sif, onRt_rt, onRt_nx, onTurn_nx, onTurn_ct, onTurn_rt, lay, layN, List.map_cons, List.map_nil, List.getElem?_cons_zero, List.getElem?_cons_succ, Nat.sub_self, List.replicate_zero, List.replicate_succ, List.append_nil, List.cons_append, List.nil_append, List.set_cons_zero, List.set_cons_succ, Nat.reduceSub, to_ok, wipeP, true_and, capk0, capk1, capk2, capk3, capk4, capk5, capk6, capk7, capk8]
      rw [hch hm2 (by omega)]
      simp only [w_int, w_bl, w_non, w_no, w_str, w_nil, w_one, w_var, toVar_some, w_glob, toGl_some, toTup_tup, toBl_true, toBl_false, w_cons, w_tup, w_lst, w_bin, w_cmp, w_chain, w_not, w_and, w_or, w_ife, toInt_int, w_neg, w_idx, w_slice, w_isi, w_call, w_call0, w_meth, w_blt, toSeq_tup, w_star, w_rev, onNx_nx, onNx_rt, onNx_ct, x_skip, x_seq, toSl_some, x_set, x_setC, x_par, x_ret, x_expr, x_cont, x_sif, onRt_rt, onRt_nx, onTurn_nx, onTurn_ct, onTurn_rt, lay, layN, List.map_cons, List.map_nil, List.getElem?_cons_zero, List.getElem?_cons_succ, Nat.sub_self, List.replicate_zero, List.replicate_succ, List.append_nil, List.cons_append, List.nil_append, List.set_cons_zero, List.set_cons_succ, Nat.reduceSub, to_ok, wipeP, true_and, capk0, capk1, capk2, capk3, capk4, capk5, capk6, capk7, capk8, w_neq' prob_two]
      exact ⟨k1.trans .new, k2.fr0 .new, _, _, rfl⟩
    · subst e
      have hj3 := hj2.fr0 k1
      simp only [w_int, w_bl, w_non, w_no, w_str, w_nil, w_one, w_var, toVar_some, w_glob, toGl_some, toTup_tup, toBl_true, toBl_false, w_cons, w_tup, w_lst, w_bin, w_cmp, w_chain, w_not, w_and, w_or, w_ife, toInt_int, w_neg, w_idx, w_slice, w_isi, w_call, w_call0, w_meth, w_blt, toSeq_tup, w_star, w_rev, onNx_nx, onNx_rt, onNx_ct, x_skip, x_seq, toSl_some, x_set, x_setC, x_par, x_ret, x_expr, x_cont, x_sif, onRt_rt, onRt_nx, onTurn_nx, onTurn_ct, onTurn_rt, lay, layN, List.map_cons, List.map_nil, List.getElem?_cons_zero, List.getElem?_cons_succ, Nat.sub_self, List.replicate_zero, List.replicate_succ, List.append_nil, List.cons_append, List.nil_append, List.set_cons_zero, List.set_cons_succ, Nat.reduceSub, to_ok, wipeP, true_and, capk0, capk1, capk2, capk3, capk4, capk5, capk6, capk7, capk8]
      refine comp_pure (lev L) rp (fun r => some (q (prob fs r))) ?_ (by simp [cap]; omega) (fun r hr s3 hs3 => ?_) fun i3 s3 f3 hA hi3 => ?_
      · simp only [j_seq, w_int, w_bl, w_non, w_no, w_str, w_nil, w_one, w_var, toVar_some, w_glob, toGl_some, toTup_tup, toBl_true, toBl_false, w_cons, w_tup, w_lst, w_bin, w_cmp, w_chain, w_not, w_and, w_or, w_ife, toInt_int, w_neg, w_idx, w_slice, w_isi, w_call, w_call0, w_meth, w_blt, toSeq_tup, w_star, w_rev, onNx_nx, onNx_rt, onNx_ct, x_skip, x_seq, toSl_some, x_set, x_setC, x_par, x_ret, x_expr, x_cont, x_sif, onRt_rt, onRt_nx, onTurn_nx, onTurn_ct, onTurn_rt, lay, layN, List.map_cons, List.map_nil, List.getElem?_cons_zero, List.getElem?_cons_succ, Nat.sub_self, List.replicate_zero, List.replicate_succ, List.append_nil, List.cons_append, List.nil_append, List.set_cons_zero, List.set_cons_succ, Nat.reduceSub, to_ok, wipeP, true_and, capk0, capk1, capk2, capk3, capk4, capk5, capk6, capk7, capk8]
        exact ⟨_, hj3.getL, by simp [It.most, hj3.getL], sees_l fun s' h => hj3.fr0 h, .refl⟩
      · simp only [Turn, w_int, w_bl, w_non, w_no, w_str, w_nil, w_one, w_var, toVar_some, w_glob, toGl_some, toTup_tup, toBl_true, toBl_false, w_cons, w_tup, w_lst, w_bin, w_cmp, w_chain, w_not, w_and, w_or, w_ife, toInt_int, w_neg, w_idx, w_slice, w_isi, w_call, w_call0, w_meth, w_blt, toSeq_tup, w_star, w_rev, onNx_nx, onNx_rt, onNx_ct, x_skip, x_seq, toSl_some, x_set, x_setC, x_par, x_ret, x_expr, x_cont, x_sif, onRt_rt, onRt_nx, onTurn_nx, onTurn_ct, onTurn_rt, lay, layN, List.map_cons, List.map_nil, List.getElem?_cons_zero, List.getElem?_cons_succ, Nat.sub_self, List.replicate_zero, List.replicate_succ, List.append_nil, List.cons_append, List.nil_append, List.set_cons_zero, List.set_cons_succ, Nat.reduceSub, to_ok, wipeP, true_and, capk0, capk1, capk2, capk3, capk4, capk5, capk6, capk7, capk8, hch hr (Nat.le_refl _)]
        exact .refl
      · rw [fm_some, show (lev L).map (fun r => q (prob fs r)) = ((lev L).map (prob fs)).map q by simp] at hA
        have hj4 : (lev L).length ≤ 16 := by
          rw [lev_len]; exact Nat.le_trans (Nat.pow_le_pow_right (by decide) h5) (by decide)
        have ws : ∀ x ∈ (lev L).map (prob fs), W 131 x := fun x hx => by
          obtain ⟨r, hr, rfl⟩ := List.mem_map.mp hx
          exact hW hr (Nat.le_refl _)
        try simp only [w_int, w_bl, w_non, w_no, w_str, w_nil, w_one, w_var, toVar_some, w_glob, toGl_some, toTup_tup, toBl_true, toBl_false, w_cons, w_tup, w_lst, w_bin, w_cmp, w_chain, w_not, w_and, w_or, w_ife, toInt_int, w_neg, w_idx, w_slice, w_isi, w_call, w_call0, w_meth, w_blt, toSeq_tup, w_star, w_rev, onNx_nx, onNx_rt, onNx_ct, x_skip, x_seq, toSl_some, x_set, x_setC, x_par, x_ret, x_expr, x_cont, x_sif, onRt_rt, onRt_nx, onTurn_nx, onTurn_ct, onTurn_rt, lay, layN, List.map_cons, List.map_nil, List.getElem?_cons_zero, List.getElem?_cons_succ, Nat.sub_self, List.replicate_zero, List.replicate_succ, List.append_nil, List.cons_append, List.nil_append, List.set_cons_zero, List.set_cons_succ, Nat.reduceSub, to_ok, wipeP, true_and, capk0, capk1, capk2, capk3, capk4, capk5, capk6, capk7, capk8]
        rw [lsum_ok hA ws (by decide) (by rw [List.length_map]; omega)]
        simp only [w_int, w_bl, w_non, w_no, w_str, w_nil, w_one, w_var, toVar_some, w_glob, toGl_some, toTup_tup, toBl_true, toBl_false, w_cons, w_tup, w_lst, w_bin, w_cmp, w_chain, w_not, w_and, w_or, w_ife, toInt_int, w_neg, w_idx, w_slice, w_isi, w_call, w_call0, w_meth, w_blt, toSeq_tup, w_star, w_rev, onNx_nx, onNx_rt, onNx_ct, x_skip, x_seq, toSl_some, x_set, x_setC, x_par, x_ret, x_expr, x_cont, x_sif, onRt_rt, onRt_nx, onTurn_nx, onTurn_ct, onTurn_rt, lay, layN, List.map_cons, List.map_nil, List.getElem?_cons_zero, List.getElem?_cons_succ, Nat.sub_self, List.replicate_zero, List.replicate_succ, List.append_nil, List.cons_append, List.nil_append, List.set_cons_zero, List.set_cons_succ, Nat.reduceSub, to_ok, wipeP, true_and, capk0, capk1, capk2, capk3, capk4, capk5, capk6, capk7, capk8, ← q_one, w_eqq' (prob_lev (fs := fs) L)]
/-! ### kinds -/
def sure (rs : List (Rat × Rat)) : Bool := rs.all fun p => decide (p.1 = p.2)
def soft (rs : List (Rat × Rat)) : Bool := rs.all fun p => decide (p.1 = p.2) && (!decide (p.1 = 0) && !decide (p.2 = 1))
theorem exact_ok (h : Fc L rs) (h1 : 1 ≤ L) (h5 : L ≤ 5) : runF T (n + 7) f_is_exact [.int (L : Int), .tup (rs.map rg)] s = .ok (.bl (sure rs)) s := by
  refine run_pu d_is_exact rfl (by simp only [pureVs, pure_rs, Bool.and_self]; rfl) rfl ?_
  simp only [c_is_exact, w_int, w_bl, w_non, w_no, w_str, w_nil, w_one, w_var, toVar_some, w_glob, toGl_some, toTup_tup, toBl_true, toBl_false, w_cons, w_tup, w_lst, w_bin, w_cmp, w_chain, w_not, w_and, w_or, w_ife, toInt_int, w_neg, w_idx, w_slice, w_isi, w_call, w_call0, w_meth, w_blt, toSeq_tup, w_star, w_rev, onNx_nx, onNx_rt, onNx_ct, x_skip, x_seq, toSl_some, x_set, x_setC, x_par, x_ret, x_expr, x_cont, x_sif, onRt_rt, onRt_nx, onTurn_nx, onTurn_ct, onTurn_rt, lay, layN, List.map_cons, List.map_nil, List.getElem?_cons_zero, List.getElem?_cons_succ, Nat.sub_self, List.replicate_zero, List.replicate_succ, List.append_nil, List.cons_append, List.nil_append, List.set_cons_zero, List.set_cons_succ, Nat.reduceSub, to_ok, wipeP, true_and, capk0, capk1, capk2, capk3, capk4, capk5, capk6, capk7, capk8]
  refine comp_pure rs rg (fun p => some (.bl (decide (p.1 = p.2)))) ?_ (by rw [h.len]; have := inn_le h5; simp [cap]; omega) (fun x hx s' hs => ?_) fun i s' hf hA hi => ?_
  · simp only [j_seq, w_int, w_bl, w_non, w_no, w_str, w_nil, w_one, w_var, toVar_some, w_glob, toGl_some, toTup_tup, toBl_true, toBl_false, w_cons, w_tup, w_lst, w_bin, w_cmp, w_chain, w_not, w_and, w_or, w_ife, toInt_int, w_neg, w_idx, w_slice, w_isi, w_call, w_call0, w_meth, w_blt, toSeq_tup, w_star, w_rev, onNx_nx, onNx_rt, onNx_ct, x_skip, x_seq, toSl_some, x_set, x_setC, x_par, x_ret, x_expr, x_cont, x_sif, onRt_rt, onRt_nx, onTurn_nx, onTurn_ct, onTurn_rt, lay, layN, List.map_cons, List.map_nil, List.getElem?_cons_zero, List.getElem?_cons_succ, Nat.sub_self, List.replicate_zero, List.replicate_succ, List.append_nil, List.cons_append, List.nil_append, List.set_cons_zero, List.set_cons_succ, Nat.reduceSub, to_ok, wipeP, true_and, capk0, capk1, capk2, capk3, capk4, capk5, capk6, capk7, capk8, needforecaster_ok h h1 h5]
    exact ⟨by simp [It.most], sees_t, .refl⟩
  · simp only [Turn, w_int, w_bl, w_non, w_no, w_str, w_nil, w_one, w_var, toVar_some, w_glob, toGl_some, toTup_tup, toBl_true, toBl_false, w_cons, w_tup, w_lst, w_bin, w_cmp, w_chain, w_not, w_and, w_or, w_ife, toInt_int, w_neg, w_idx, w_slice, w_isi, w_call, w_call0, w_meth, w_blt, toSeq_tup, w_star, w_rev, onNx_nx, onNx_rt, onNx_ct, x_skip, x_seq, toSl_some, x_set, x_setC, x_par, x_ret, x_expr, x_cont, x_sif, onRt_rt, onRt_nx, onTurn_nx, onTurn_ct, onTurn_rt, lay, layN, List.map_cons, List.map_nil, List.getElem?_cons_zero, List.getElem?_cons_succ, Nat.sub_self, List.replicate_zero, List.replicate_succ, List.append_nil, List.cons_append, List.nil_append, List.set_cons_zero, List.set_cons_succ, Nat.reduceSub, to_ok, wipeP, true_and, capk0, capk1, capk2, capk3, capk4, capk5, capk6, capk7, capk8, rg, w_eqq]
    exact .refl
  · rw [fm_some] at hA
    rw [all_lst hA]
    rfl
theorem mildin_ok (h : Fc L rs) (h5 : L ≤ 5) : runF T (n + 1) f_is_mild_in [.tup (rs.map rg)] s = .ok (.bl (soft rs)) s := by
  refine run_pu d_is_mild_in rfl (by simp only [pureVs, pure_rs, Bool.and_self]) rfl ?_
  simp only [c_is_mild_in, w_int, w_bl, w_non, w_no, w_str, w_nil, w_one, w_var, toVar_some, w_glob, toGl_some, toTup_tup, toBl_true, toBl_false, w_cons, w_tup, w_lst, w_bin, w_cmp, w_chain, w_not, w_and, w_or, w_ife, toInt_int, w_neg, w_idx, w_slice, w_isi, w_call, w_call0, w_meth, w_blt, toSeq_tup, w_star, w_rev, onNx_nx, onNx_rt, onNx_ct, x_skip, x_seq, toSl_some, x_set, x_setC, x_par, x_ret, x_expr, x_cont, x_sif, onRt_rt, onRt_nx, onTurn_nx, onTurn_ct, onTurn_rt, lay, layN, List.map_cons, List.map_nil, List.getElem?_cons_zero, List.getElem?_cons_succ, Nat.sub_self, List.replicate_zero, List.replicate_succ, List.append_nil, List.cons_append, List.nil_append, List.set_cons_zero, List.set_cons_succ, Nat.reduceSub, to_ok, wipeP, true_and, capk0, capk1, capk2, capk3, capk4, capk5, capk6, capk7, capk8]
  refine comp_pure rs rg (fun p => some (.bl (decide (p.1 = p.2) && (!decide (p.1 = 0) && !decide (p.2 = 1))))) ?_ (by rw [h.len]; have := inn_le h5; simp [cap]; omega) (fun x hx s' hs => ?_) fun i s' hf hA hi => ?_
  · simp only [j_seq, w_int, w_bl, w_non, w_no, w_str, w_nil, w_one, w_var, toVar_some, w_glob, toGl_some, toTup_tup, toBl_true, toBl_false, w_cons, w_tup, w_lst, w_bin, w_cmp, w_chain, w_not, w_and, w_or, w_ife, toInt_int, w_neg, w_idx, w_slice, w_isi, w_call, w_call0, w_meth, w_blt, toSeq_tup, w_star, w_rev, onNx_nx, onNx_rt, onNx_ct, x_skip, x_seq, toSl_some, x_set, x_setC, x_par, x_ret, x_expr, x_cont, x_sif, onRt_rt, onRt_nx, onTurn_nx, onTurn_ct, onTurn_rt, lay, layN, List.map_cons, List.map_nil, List.getElem?_cons_zero, List.getElem?_cons_succ, Nat.sub_self, List.replicate_zero, List.replicate_succ, List.append_nil, List.cons_append, List.nil_append, List.set_cons_zero, List.set_cons_succ, Nat.reduceSub, to_ok, wipeP, true_and, capk0, capk1, capk2, capk3, capk4, capk5, capk6, capk7, capk8]
    exact ⟨by simp [It.most], sees_t, .refl⟩
  · simp only [Turn, w_int, w_bl, w_non, w_no, w_str, w_nil, w_one, w_var, toVar_some, w_glob, toGl_some, toTup_tup, toBl_true, toBl_false, w_cons, w_tup, w_lst, w_bin, w_cmp, w_chain, w_not, w_and, w_or, w_ife, toInt_int, w_neg, w_idx, w_slice, w_isi, w_call, w_call0, w_meth, w_blt, toSeq_tup, w_star, w_rev, onNx_nx, onNx_rt, onNx_ct, x_skip, x_seq, toSl_some, x_set, x_setC, x_par, x_ret, x_expr, x_cont, x_sif, onRt_rt, onRt_nx, onTurn_nx, onTurn_ct, onTurn_rt, lay, layN, List.map_cons, List.map_nil, List.getElem?_cons_zero, List.getElem?_cons_succ, Nat.sub_self, List.replicate_zero, List.replicate_succ, List.append_nil, List.cons_append, List.nil_append, List.set_cons_zero, List.set_cons_succ, Nat.reduceSub, to_ok, wipeP, true_and, capk0, capk1, capk2, capk3, capk4, capk5, capk6, capk7, capk8, rg, w_eqq, w_neq, glob_nought, glob_sure]
    by_cases e1 : x.1 = x.2
    · simp only [e1, decide_true, w_int, w_bl, w_non, w_no, w_str, w_nil, w_one, w_var, toVar_some, w_glob, toGl_some, toTup_tup, toBl_true, toBl_false, w_cons, w_tup, w_lst, w_bin, w_cmp, w_chain, w_not, w_and, w_or, w_ife, toInt_int, w_neg, w_idx, w_slice, w_isi, w_call, w_call0, w_meth, w_blt, toSeq_tup, w_star, w_rev, onNx_nx, onNx_rt, onNx_ct, x_skip, x_seq, toSl_some, x_set, x_setC, x_par, x_ret, x_expr, x_cont, x_sif, onRt_rt, onRt_nx, onTurn_nx, onTurn_ct, onTurn_rt, lay, layN, List.map_cons, List.map_nil, List.getElem?_cons_zero, List.getElem?_cons_succ, Nat.sub_self, List.replicate_zero, List.replicate_succ, List.append_nil, List.cons_append, List.nil_append, List.set_cons_zero, List.set_cons_succ, Nat.reduceSub, to_ok, wipeP, true_and, capk0, capk1, capk2, capk3, capk4, capk5, capk6, capk7, capk8, w_neq, glob_nought, glob_sure]
      by_cases e2 : x.2 = 0
      · simp only [e2, decide_true, Bool.not_true, w_int, w_bl, w_non, w_no, w_str, w_nil, w_one, w_var, toVar_some, w_glob, toGl_some, toTup_tup, toBl_true, toBl_false, w_cons, w_tup, w_lst, w_bin, w_cmp, w_chain, w_not, w_and, w_or, w_ife, toInt_int, w_neg, w_idx, w_slice, w_isi, w_call, w_call0, w_meth, w_blt, toSeq_tup, w_star, w_rev, onNx_nx, onNx_rt, onNx_ct, x_skip, x_seq, toSl_some, x_set, x_setC, x_par, x_ret, x_expr, x_cont, x_sif, onRt_rt, onRt_nx, onTurn_nx, onTurn_ct, onTurn_rt, lay, layN, List.map_cons, List.map_nil, List.getElem?_cons_zero, List.getElem?_cons_succ, Nat.sub_self, List.replicate_zero, List.replicate_succ, List.append_nil, List.cons_append, List.nil_append, List.set_cons_zero, List.set_cons_succ, Nat.reduceSub, to_ok, wipeP, true_and, capk0, capk1, capk2, capk3, capk4, capk5, capk6, capk7, capk8, Bool.true_and, Bool.false_and]
        exact .refl
      · simp only [e2, decide_false, Bool.not_false, w_int, w_bl, w_non, w_no, w_str, w_nil, w_one, w_var, toVar_some, w_glob, toGl_some, toTup_tup, toBl_true, toBl_false, w_cons, w_tup, w_lst, w_bin, w_cmp, w_chain, w_not, w_and, w_or, w_ife, toInt_int, w_neg, w_idx, w_slice, w_isi, w_call, w_call0, w_meth, w_blt, toSeq_tup, w_star, w_rev, onNx_nx, onNx_rt, onNx_ct, x_skip, x_seq, toSl_some, x_set, x_setC, x_par, x_ret, x_expr, x_cont, x_sif, onRt_rt, onRt_nx, onTurn_nx, onTurn_ct, onTurn_rt, lay, layN, List.map_cons, List.map_nil, List.getElem?_cons_zero, List.getElem?_cons_succ, Nat.sub_self, List.replicate_zero, List.replicate_succ, List.append_nil, List.cons_append, List.nil_append, List.set_cons_zero, List.set_cons_succ, Nat.reduceSub, to_ok, wipeP, true_and, capk0, capk1, capk2, capk3, capk4, capk5, capk6, capk7, capk8, w_neq, glob_sure, Bool.true_and]
        exact .refl
    · simp only [e1, decide_false, w_int, w_bl, w_non, w_no, w_str, w_nil, w_one, w_var, toVar_some, w_glob, toGl_some, toTup_tup, toBl_true, toBl_false, w_cons, w_tup, w_lst, w_bin, w_cmp, w_chain, w_not, w_and, w_or, w_ife, toInt_int, w_neg, w_idx, w_slice, w_isi, w_call, w_call0, w_meth, w_blt, toSeq_tup, w_star, w_rev, onNx_nx, onNx_rt, onNx_ct, x_skip, x_seq, toSl_some, x_set, x_setC, x_par, x_ret, x_expr, x_cont, x_sif, onRt_rt, onRt_nx, onTurn_nx, onTurn_ct, onTurn_rt, lay, layN, List.map_cons, List.map_nil, List.getElem?_cons_zero, List.getElem?_cons_succ, Nat.sub_self, List.replicate_zero, List.replicate_succ, List.append_nil, List.cons_append, List.nil_append, List.set_cons_zero, List.set_cons_succ, Nat.reduceSub, to_ok, wipeP, true_and, capk0, capk1, capk2, capk3, capk4, capk5, capk6, capk7, capk8, Bool.false_and]
      exact .refl
  · rw [fm_some] at hA
    rw [all_lst hA]
    rfl
theorem mild_ok (h : Fc L rs) (h1 : 1 ≤ L) (h5 : L ≤ 5) : runF T (n + 7) f_is_mild [.int (L : Int), .tup (rs.map rg)] s = .ok (.bl (soft rs)) s := by
  refine run_pu d_is_mild rfl (by simp only [pureVs, pure_rs, Bool.and_self]; rfl) rfl ?_
  simp only [c_is_mild, w_int, w_bl, w_non, w_no, w_str, w_nil, w_one, w_var, toVar_some, w_glob, toGl_some, toTup_tup, toBl_true, toBl_false, w_cons, w_tup, w_lst, w_bin, w_cmp, w_chain, w_not, w_and, w_or, w_ife, toInt_int, w_neg, w_idx, w_slice, w_isi, w_call, w_call0, w_meth, w_blt, toSeq_tup, w_star, w_rev, onNx_nx, onNx_rt, onNx_ct, x_skip, x_seq, toSl_some, x_set, x_setC, x_par, x_ret, x_expr, x_cont, x_sif, onRt_rt, onRt_nx, onTurn_nx, onTurn_ct, onTurn_rt, lay, layN, List.map_cons, List.map_nil, List.getElem?_cons_zero, List.getElem?_cons_succ, Nat.sub_self, List.replicate_zero, List.replicate_succ, List.append_nil, List.cons_append, List.nil_append, List.set_cons_zero, List.set_cons_succ, Nat.reduceSub, to_ok, wipeP, true_and, capk0, capk1, capk2, capk3, capk4, capk5, capk6, capk7, capk8, needforecaster_ok h h1 h5]
  rw [mildin_ok h h5]
  simp only [w_int, w_bl, w_non, w_no, w_str, w_nil, w_one, w_var, toVar_some, w_glob, toGl_some, toTup_tup, toBl_true, toBl_false, w_cons, w_tup, w_lst, w_bin, w_cmp, w_chain, w_not, w_and, w_or, w_ife, toInt_int, w_neg, w_idx, w_slice, w_isi, w_call, w_call0, w_meth, w_blt, toSeq_tup, w_star, w_rev, onNx_nx, onNx_rt, onNx_ct, x_skip, x_seq, toSl_some, x_set, x_setC, x_par, x_ret, x_expr, x_cont, x_sif, onRt_rt, onRt_nx, onTurn_nx, onTurn_ct, onTurn_rt, lay, layN, List.map_cons, List.map_nil, List.getElem?_cons_zero, List.getElem?_cons_succ, Nat.sub_self, List.replicate_zero, List.replicate_succ, List.append_nil, List.cons_append, List.nil_append, List.set_cons_zero, List.set_cons_succ, Nat.reduceSub, to_ok, wipeP, true_and, capk0, capk1, capk2, capk3, capk4, capk5, capk6, capk7, capk8]
/-- [1 for ..] == [] -/
theorem ones_eq {i j : Nat} {α : Type} {l : List α} {f : α → Bool} (hi : At s i (l.filterMap fun p => if f p then some (.int 1) else none)) (hj : At s j []) : (evCmp .eq (.lst i) (.lst j) s).to Q = Q (.bl (l.all fun p => !f p)) s := by
  have e1 : ∀ l : List α, (l.filterMap fun p => if f p then some (PV.int 1) else none) = (List.replicate (l.filter f).length ()).map fun _ => PV.int 1 := by
    intro l
    induction l with
    | nil => rfl
    | cons a l ih =>
      by_cases h : f a = true
      · simp only [List.filterMap_cons, h, if_true, List.filter_cons, List.length_cons, List.replicate_succ, List.map_cons, ih]
      · simp only [Bool.not_eq_true] at h
        simp only [List.filterMap_cons, h, Bool.false_eq_true, if_false, List.filter_cons, ih]
  rw [e1] at hi
  have t1 : toD s 60 (.lst i) = some (.list ((List.replicate (l.filter f).length ()).map fun _ => PyData.int 1)) := toD_lst hi fun a _ => rfl
  have t2 : toD s 60 (.lst j) = some (.list (([] : List Unit).map fun _ => PyData.int 1)) := toD_lst (g := fun _ => PV.int 1) hj fun a _ => rfl
  have c1 : SeqAt.shaped (.list ((List.replicate (l.filter f).length ()).map fun _ => PyData.int 1)) = true := shaped_of (canAll fun a _ => rfl) (dep_lst (m := 10) (fun a _ => by simp [PyData.depth]) (by decide))
  have c2 : SeqAt.shaped (.list (([] : List Unit).map fun _ => PyData.int 1)) = true := rfl
  have e2 : (l.all fun p => !f p) = decide ((l.filter f).length = 0) := by
    rw [Bool.eq_iff_iff]
    simp [List.length_eq_zero_iff, List.filter_eq_nil_iff]
  have e3 : PyData.eqv (.list ((List.replicate (l.filter f).length ()).map fun _ => PyData.int 1)) (.list (([] : List Unit).map fun _ => PyData.int 1)) = (l.all fun p => !f p) := by
    rw [e2]
    cases (l.filter f).length with
    | zero => rfl
    | succ m => rfl
  simp only [evCmp, eqP, isRep, t1, t2, c1, c2, Bool.and_self, if_true, to_ok, e3]
theorem in01 {x : Rat} : (evCmp .inn (q x) (.tup [q 0, q 1]) s).to Q = Q (.bl (decide (x = 0) || decide (x = 1))) s := by
  have t1 : toD s 60 (q x) = some (dq x) := rfl
  have t2 : toD s 60 (.tup [q 0, q 1]) = some (.tuple [dq 0, dq 1]) := rfl
  have c1 : SeqAt.shaped (dq x) = true := rfl
  have c2 : SeqAt.shaped (.tuple [dq 0, dq 1]) = true := rfl
  have f1 : flatP (q x) = none := rfl
  simp only [evCmp, inP, f1, t1, t2, c1, c2, Bool.and_self, if_true, List.any_cons, List.any_nil, Bool.or_false, eqv_q, to_ok, eq_comm]
def drg (p : Rat × Rat) : PyData := .tuple [dq p.1, dq p.2]
theorem okRs_map {α : Type} {f : α → PyData} : ∀ {l : List α}, (∀ a ∈ l, okR (f a) = true) → okRs (l.map f) = true
  | [], _ => rfl
  | a :: l, h => by simp only [List.map_cons, okRs, h a List.mem_cons_self, okRs_map fun b hb => h b (List.mem_cons_of_mem _ hb), Bool.and_self]
theorem wids_map {α : Type} {f : α → PyData} {k : Nat} : ∀ {l : List α}, (∀ a ∈ l, wid (f a) ≤ k) → wids (l.map f) ≤ l.length * (k + 2)
  | [], _ => by simp [wids]
  | a :: l, h => by
    have h1 := h a List.mem_cons_self
    have h2 := wids_map fun b hb => h b (List.mem_cons_of_mem _ hb)
    simp only [List.map_cons, wids, List.length_cons]
    rw [Nat.add_mul]
    omega
theorem kind_right_ok (h : Fc L rs) (h1 : 1 ≤ L) (h5 : L ≤ 5) : runF T (n + 8) f__law_is_kind_right [.int (L : Int), .tup (rs.map rg)] s = .ok (.bl true) s := by
  have hlen : rs.length ≤ 31 := by rw [h.len]; exact inn_le h5
  refine run_pu d__law_is_kind_right rfl (by simp only [pureVs, pure_rs, Bool.and_self]; rfl) rfl ?_
  simp only [c__law_is_kind_right, w_int, w_bl, w_non, w_no, w_str, w_nil, w_one, w_var, toVar_some, w_glob, toGl_some, toTup_tup, toBl_true, toBl_false, w_cons, w_tup, w_lst, w_bin, w_cmp, w_chain, w_not, w_and, w_or, w_ife, toInt_int, w_neg, w_idx, w_slice, w_isi, w_call, w_call0, w_meth, w_blt, toSeq_tup, w_star, w_rev, onNx_nx, onNx_rt, onNx_ct, x_skip, x_seq, toSl_some, x_set, x_setC, x_par, x_ret, x_expr, x_cont, x_sif, onRt_rt, onRt_nx, onTurn_nx, onTurn_ct, onTurn_rt, lay, layN, List.map_cons, List.map_nil, List.getElem?_cons_zero, List.getElem?_cons_succ, Nat.sub_self, List.replicate_zero, List.replicate_succ, List.append_nil, List.cons_append, List.nil_append, List.set_cons_zero, List.set_cons_succ, Nat.reduceSub, to_ok, wipeP, true_and, capk0, capk1, capk2, capk3, capk4, capk5, capk6, capk7, capk8]
  refine comp_pure rs rg (fun p => if !decide (p.1 = p.2) then some (.int 1) else none) ?_ (by simp [cap]; omega) (fun x hx s' hs => ?_) fun i1 s1 f1 hA1 hi1 => ?_
  · simp only [j_seq, w_int, w_bl, w_non, w_no, w_str, w_nil, w_one, w_var, toVar_some, w_glob, toGl_some, toTup_tup, toBl_true, toBl_false, w_cons, w_tup, w_lst, w_bin, w_cmp, w_chain, w_not, w_and, w_or, w_ife, toInt_int, w_neg, w_idx, w_slice, w_isi, w_call, w_call0, w_meth, w_blt, toSeq_tup, w_star, w_rev, onNx_nx, onNx_rt, onNx_ct, x_skip, x_seq, toSl_some, x_set, x_setC, x_par, x_ret, x_expr, x_cont, x_sif, onRt_rt, onRt_nx, onTurn_nx, onTurn_ct, onTurn_rt, lay, layN, List.map_cons, List.map_nil, List.getElem?_cons_zero, List.getElem?_cons_succ, Nat.sub_self, List.replicate_zero, List.replicate_succ, List.append_nil, List.cons_append, List.nil_append, List.set_cons_zero, List.set_cons_succ, Nat.reduceSub, to_ok, wipeP, true_and, capk0, capk1, capk2, capk3, capk4, capk5, capk6, capk7, capk8]
    exact ⟨by simp [It.most], sees_t, .refl⟩
  · simp only [Turn, w_int, w_bl, w_non, w_no, w_str, w_nil, w_one, w_var, toVar_some, w_glob, toGl_some, toTup_tup, toBl_true, toBl_false, w_cons, w_tup, w_lst, w_bin, w_cmp, w_chain, w_not, w_and, w_or, w_ife, toInt_int, w_neg, w_idx, w_slice, w_isi, w_call, w_call0, w_meth, w_blt, toSeq_tup, w_star, w_rev, onNx_nx, onNx_rt, onNx_ct, x_skip, x_seq, toSl_some, x_set, x_setC, x_par, x_ret, x_expr, x_cont, x_sif, onRt_rt, onRt_nx, onTurn_nx, onTurn_ct, onTurn_rt, lay, layN, List.map_cons, List.map_nil, List.getElem?_cons_zero, List.getElem?_cons_succ, Nat.sub_self, List.replicate_zero, List.replicate_succ, List.append_nil, List.cons_append, List.nil_append, List.set_cons_zero, List.set_cons_succ, Nat.reduceSub, to_ok, wipeP, true_and, capk0, capk1, capk2, capk3, capk4, capk5, capk6, capk7, capk8, rg, w_neq]
    by_cases e : x.1 = x.2
    · simp only [e, decide_true, Bool.not_true, w_int, w_bl, w_non, w_no, w_str, w_nil, w_one, w_var, toVar_some, w_glob, toGl_some, toTup_tup, toBl_true, toBl_false, w_cons, w_tup, w_lst, w_bin, w_cmp, w_chain, w_not, w_and, w_or, w_ife, toInt_int, w_neg, w_idx, w_slice, w_isi, w_call, w_call0, w_meth, w_blt, toSeq_tup, w_star, w_rev, onNx_nx, onNx_rt, onNx_ct, x_skip, x_seq, toSl_some, x_set, x_setC, x_par, x_ret, x_expr, x_cont, x_sif, onRt_rt, onRt_nx, onTurn_nx, onTurn_ct, onTurn_rt, lay, layN, List.map_cons, List.map_nil, List.getElem?_cons_zero, List.getElem?_cons_succ, Nat.sub_self, List.replicate_zero, List.replicate_succ, List.append_nil, List.cons_append, List.nil_append, List.set_cons_zero, List.set_cons_succ, Nat.reduceSub, to_ok, wipeP, true_and, capk0, capk1, capk2, capk3, capk4, capk5, capk6, capk7, capk8, Bool.false_eq_true, if_false]; exact .refl
    · simp only [e, decide_false, Bool.not_false, w_int, w_bl, w_non, w_no, w_str, w_nil, w_one, w_var, toVar_some, w_glob, toGl_some, toTup_tup, toBl_true, toBl_false, w_cons, w_tup, w_lst, w_bin, w_cmp, w_chain, w_not, w_and, w_or, w_ife, toInt_int, w_neg, w_idx, w_slice, w_isi, w_call, w_call0, w_meth, w_blt, toSeq_tup, w_star, w_rev, onNx_nx, onNx_rt, onNx_ct, x_skip, x_seq, toSl_some, x_set, x_setC, x_par, x_ret, x_expr, x_cont, x_sif, onRt_rt, onRt_nx, onTurn_nx, onTurn_ct, onTurn_rt, lay, layN, List.map_cons, List.map_nil, List.getElem?_cons_zero, List.getElem?_cons_succ, Nat.sub_self, List.replicate_zero, List.replicate_succ, List.append_nil, List.cons_append, List.nil_append, List.set_cons_zero, List.set_cons_succ, Nat.reduceSub, to_ok, wipeP, true_and, capk0, capk1, capk2, capk3, capk4, capk5, capk6, capk7, capk8, if_true]; exact .refl
  try simp only [w_int, w_bl, w_non, w_no, w_str, w_nil, w_one, w_var, toVar_some, w_glob, toGl_some, toTup_tup, toBl_true, toBl_false, w_cons, w_tup, w_lst, w_bin, w_cmp, w_chain, w_not, w_and, w_or, w_ife, toInt_int, w_neg, w_idx, w_slice, w_isi, w_call, w_call0, w_meth, w_blt, toSeq_tup, w_star, w_rev, onNx_nx, onNx_rt, onNx_ct, x_skip, x_seq, toSl_some, x_set, x_setC, x_par, x_ret, x_expr, x_cont, x_sif, onRt_rt, onRt_nx, onTurn_nx, onTurn_ct, onTurn_rt, lay, layN, List.map_cons, List.map_nil, List.getElem?_cons_zero, List.getElem?_cons_succ, Nat.sub_self, List.replicate_zero, List.replicate_succ, List.append_nil, List.cons_append, List.nil_append, List.set_cons_zero, List.set_cons_succ, Nat.reduceSub, to_ok, wipeP, true_and, capk0, capk1, capk2, capk3, capk4, capk5, capk6, capk7, capk8]
  rw [ones_eq (hA1.fr0 .new) .new]
  have es : (rs.all fun p => !!decide (p.1 = p.2)) = sure rs := by simp [sure]
  rw [es]
  try simp only [w_int, w_bl, w_non, w_no, w_str, w_nil, w_one, w_var, toVar_some, w_glob, toGl_some, toTup_tup, toBl_true, toBl_false, w_cons, w_tup, w_lst, w_bin, w_cmp, w_chain, w_not, w_and, w_or, w_ife, toInt_int, w_neg, w_idx, w_slice, w_isi, w_call, w_call0, w_meth, w_blt, toSeq_tup, w_star, w_rev, onNx_nx, onNx_rt, onNx_ct, x_skip, x_seq, toSl_some, x_set, x_setC, x_par, x_ret, x_expr, x_cont, x_sif, onRt_rt, onRt_nx, onTurn_nx, onTurn_ct, onTurn_rt, lay, layN, List.map_cons, List.map_nil, List.getElem?_cons_zero, List.getElem?_cons_succ, Nat.sub_self, List.replicate_zero, List.replicate_succ, List.append_nil, List.cons_append, List.nil_append, List.set_cons_zero, List.set_cons_succ, Nat.reduceSub, to_ok, wipeP, true_and, capk0, capk1, capk2, capk3, capk4, capk5, capk6, capk7, capk8]
  -- the second one
  have second : ∀ (s2 : Sto) (K : PV → Sto → Prop), (∀ s3, K (.bl (soft rs)) s3) → (toBl (.bl (sure rs)) ((ev T (runF T (n + 7)) (.comp [("_law_low", 5), ("_law_high", 6)] (.tt (.cons (.tn 5) (.cons (.tn 6) .nil))) (.iseq (.var 1)) (.cmp .inn (.var 5) (.tup (.cons (.tup (.cons (.int 0) (.cons (.int 1) .nil))) (.cons (.tup (.cons (.int 1) (.cons (.int 1) .nil))) .nil)))) (.int 1)) [some (.int (L : Int)), some (.tup (rs.map rg)), some (.bl (sure rs)), none, none, none, none] s2).to fun x s4 => (evCmp .eq x (.lst s4.n) (s4.new (.lst []))).to K) (K (.bl false) s2)) := fun s2 K hK => by
    by_cases hsu : sure rs = true
    · rw [hsu, toBl_true]
      try simp only [w_int, w_bl, w_non, w_no, w_str, w_nil, w_one, w_var, toVar_some, w_glob, toGl_some, toTup_tup, toBl_true, toBl_false, w_cons, w_tup, w_lst, w_bin, w_cmp, w_chain, w_not, w_and, w_or, w_ife, toInt_int, w_neg, w_idx, w_slice, w_isi, w_call, w_call0, w_meth, w_blt, toSeq_tup, w_star, w_rev, onNx_nx, onNx_rt, onNx_ct, x_skip, x_seq, toSl_some, x_set, x_setC, x_par, x_ret, x_expr, x_cont, x_sif, onRt_rt, onRt_nx, onTurn_nx, onTurn_ct, onTurn_rt, lay, layN, List.map_cons, List.map_nil, List.getElem?_cons_zero, List.getElem?_cons_succ, Nat.sub_self, List.replicate_zero, List.replicate_succ, List.append_nil, List.cons_append, List.nil_append, List.set_cons_zero, List.set_cons_succ, Nat.reduceSub, to_ok, wipeP, true_and, capk0, capk1, capk2, capk3, capk4, capk5, capk6, capk7, capk8]
      refine comp_pure rs rg (fun p => if decide (p.1 = 0) || decide (p.1 = 1) then some (.int 1) else none) ?_ (by simp [cap]; omega) (fun x hx s' hs => ?_) fun i2 s3 f3 hA3 hi3 => ?_
      · simp only [j_seq, w_int, w_bl, w_non, w_no, w_str, w_nil, w_one, w_var, toVar_some, w_glob, toGl_some, toTup_tup, toBl_true, toBl_false, w_cons, w_tup, w_lst, w_bin, w_cmp, w_chain, w_not, w_and, w_or, w_ife, toInt_int, w_neg, w_idx, w_slice, w_isi, w_call, w_call0, w_meth, w_blt, toSeq_tup, w_star, w_rev, onNx_nx, onNx_rt, onNx_ct, x_skip, x_seq, toSl_some, x_set, x_setC, x_par, x_ret, x_expr, x_cont, x_sif, onRt_rt, onRt_nx, onTurn_nx, onTurn_ct, onTurn_rt, lay, layN, List.map_cons, List.map_nil, List.getElem?_cons_zero, List.getElem?_cons_succ, Nat.sub_self, List.replicate_zero, List.replicate_succ, List.append_nil, List.cons_append, List.nil_append, List.set_cons_zero, List.set_cons_succ, Nat.reduceSub, to_ok, wipeP, true_and, capk0, capk1, capk2, capk3, capk4, capk5, capk6, capk7, capk8]
        exact ⟨by simp [It.most], sees_t, .refl⟩
      · simp only [Turn, w_int, w_bl, w_non, w_no, w_str, w_nil, w_one, w_var, toVar_some, w_glob, toGl_some, toTup_tup, toBl_true, toBl_false, w_cons, w_tup, w_lst, w_bin, w_cmp, w_chain, w_not, w_and, w_or, w_ife, toInt_int, w_neg, w_idx, w_slice, w_isi, w_call, w_call0, w_meth, w_blt, toSeq_tup, w_star, w_rev, onNx_nx, onNx_rt, onNx_ct, x_skip, x_seq, toSl_some, x_set, x_setC, x_par, x_ret, x_expr, x_cont, x_sif, onRt_rt, onRt_nx, onTurn_nx, onTurn_ct, onTurn_rt, lay, layN, List.map_cons, List.map_nil, List.getElem?_cons_zero, List.getElem?_cons_succ, Nat.sub_self, List.replicate_zero, List.replicate_succ, List.append_nil, List.cons_append, List.nil_append, List.set_cons_zero, List.set_cons_succ, Nat.reduceSub, to_ok, wipeP, true_and, capk0, capk1, capk2, capk3, capk4, capk5, capk6, capk7, capk8, rg, ← q_zero, ← q_one, in01]
        by_cases e : (decide (x.1 = 0) || decide (x.1 = 1)) = true
        · simp only [e, w_int, w_bl, w_non, w_no, w_str, w_nil, w_one, w_var, toVar_some, w_glob, toGl_some, toTup_tup, toBl_true, toBl_false, w_cons, w_tup, w_lst, w_bin, w_cmp, w_chain, w_not, w_and, w_or, w_ife, toInt_int, w_neg, w_idx, w_slice, w_isi, w_call, w_call0, w_meth, w_blt, toSeq_tup, w_star, w_rev, onNx_nx, onNx_rt, onNx_ct, x_skip, x_seq, toSl_some, x_set, x_setC, x_par, x_ret, x_expr, x_cont, x_sif, onRt_rt, onRt_nx, onTurn_nx, onTurn_ct, onTurn_rt, lay, layN, List.map_cons, List.map_nil, List.getElem?_cons_zero, List.getElem?_cons_succ, Nat.sub_self, List.replicate_zero, List.replicate_succ, List.append_nil, List.cons_append, List.nil_append, List.set_cons_zero, List.set_cons_succ, Nat.reduceSub, to_ok, wipeP, true_and, capk0, capk1, capk2, capk3, capk4, capk5, capk6, capk7, capk8, if_true]; exact .refl
        · have e' : (decide (x.1 = 0) || decide (x.1 = 1)) = false := by simpa using e
          simp only [e', w_int, w_bl, w_non, w_no, w_str, w_nil, w_one, w_var, toVar_some, w_glob, toGl_some, toTup_tup, toBl_true, toBl_false, w_cons, w_tup, w_lst, w_bin, w_cmp, w_chain, w_not, w_and, w_or, w_ife, toInt_int, w_neg, w_idx, w_slice, w_isi, w_call, w_call0, w_meth, w_blt, toSeq_tup, w_star, w_rev, onNx_nx, onNx_rt, onNx_ct, x_skip, x_seq, toSl_some, x_set, x_setC, x_par, x_ret, x_expr, x_cont, x_sif, onRt_rt, onRt_nx, onTurn_nx, onTurn_ct, onTurn_rt, lay, layN, List.map_cons, List.map_nil, List.getElem?_cons_zero, List.getElem?_cons_succ, Nat.sub_self, List.replicate_zero, List.replicate_succ, List.append_nil, List.cons_append, List.nil_append, List.set_cons_zero, List.set_cons_succ, Nat.reduceSub, to_ok, wipeP, true_and, capk0, capk1, capk2, capk3, capk4, capk5, capk6, capk7, capk8, Bool.false_eq_true, if_false]; exact .refl
      · try simp only [w_int, w_bl, w_non, w_no, w_str, w_nil, w_one, w_var, toVar_some, w_glob, toGl_some, toTup_tup, toBl_true, toBl_false, w_cons, w_tup, w_lst, w_bin, w_cmp, w_chain, w_not, w_and, w_or, w_ife, toInt_int, w_neg, w_idx, w_slice, w_isi, w_call, w_call0, w_meth, w_blt, toSeq_tup, w_star, w_rev, onNx_nx, onNx_rt, onNx_ct, x_skip, x_seq, toSl_some, x_set, x_setC, x_par, x_ret, x_expr, x_cont, x_sif, onRt_rt, onRt_nx, onTurn_nx, onTurn_ct, onTurn_rt, lay, layN, List.map_cons, List.map_nil, List.getElem?_cons_zero, List.getElem?_cons_succ, Nat.sub_self, List.replicate_zero, List.replicate_succ, List.append_nil, List.cons_append, List.nil_append, List.set_cons_zero, List.set_cons_succ, Nat.reduceSub, to_ok, wipeP, true_and, capk0, capk1, capk2, capk3, capk4, capk5, capk6, capk7, capk8]
        rw [ones_eq (f := fun (p : Rat × Rat) => decide (p.1 = 0) || decide (p.1 = 1)) (hA3.fr0 .new) .new]
        have e : (rs.all fun p => !(decide (p.1 = 0) || decide (p.1 = 1))) = soft rs := by
          unfold sure at hsu
          unfold soft
          rw [List.all_eq_true] at hsu
          rw [Bool.eq_iff_iff, List.all_eq_true, List.all_eq_true]
          constructor <;> intro z p hp
          · have z1 := z p hp
            have z2 := hsu p hp
            simp only [decide_eq_true_eq] at z2
            rw [← z2]
            simpa using z1
          · have z1 := z p hp
            have z2 := hsu p hp
            simp only [decide_eq_true_eq] at z2
            rw [← z2] at z1
            simpa using z1
        rw [e]
        exact hK _
    · have hsu' : sure rs = false := by simpa using hsu
      rw [hsu', toBl_false]
      have e : soft rs = false := by
        cases e : soft rs with
        | false => rfl
        | true =>
          exfalso
          apply hsu
          unfold soft at e
          unfold sure
          rw [List.all_eq_true] at e ⊢
          intro p hp
          have := e p hp
          rw [Bool.and_eq_true] at this
          exact this.1
      rw [← e]
      exact hK _
  refine second _ _ fun s3 => ?_
  simp only [w_int, w_bl, w_non, w_no, w_str, w_nil, w_one, w_var, toVar_some, w_glob, toGl_some, toTup_tup, toBl_true, toBl_false, w_cons, w_tup, w_lst, w_bin, w_cmp, w_chain, w_not, w_and, w_or, w_ife, toInt_int, w_neg, w_idx, w_slice, w_isi, w_call, w_call0, w_meth, w_blt, toSeq_tup, w_star, w_rev, onNx_nx, onNx_rt, onNx_ct, x_skip, x_seq, toSl_some, x_set, x_setC, x_par, x_ret, x_expr, x_cont, x_sif, onRt_rt, onRt_nx, onTurn_nx, onTurn_ct, onTurn_rt, lay, layN, List.map_cons, List.map_nil, List.getElem?_cons_zero, List.getElem?_cons_succ, Nat.sub_self, List.replicate_zero, List.replicate_succ, List.append_nil, List.cons_append, List.nil_append, List.set_cons_zero, List.set_cons_succ, Nat.reduceSub, to_ok, wipeP, true_and, capk0, capk1, capk2, capk3, capk4, capk5, capk6, capk7, capk8, exact_ok h h1 h5, mild_ok h h1 h5, needforecaster_ok h h1 h5]
  have tt : ∀ {s' : Sto} {m : Nat}, toD s' (m + 4) (.tup (rs.map rg)) = some (.tuple (rs.map drg)) := fun {s' m} => toD_tup fun a _ => rfl
  have tl : ∀ {s' : Sto} {i : Nat}, At s' i [.bl (sure rs), .bl (soft rs), .tup (rs.map rg)] → toD s' 60 (.lst i) = some (.list [.bool (sure rs), .bool (soft rs), .tuple (rs.map drg)]) := fun {s' i} hA => by
    show (match s'.getL i with | some xs => (match mapO (toD s' 59) xs with | some ds => some (PyData.list ds) | none => none) | none => none) = _
    rw [hA.getL]
    simp only [mapO]
    rw [tt (m := 55)]
    rfl
  have ok : okR (.list [.bool (sure rs), .bool (soft rs), .tuple (rs.map drg)]) = true := by
    simp only [okR, okRs, Bool.true_and, Bool.and_true]
    refine okRs_map fun p hp => ?_
    obtain ⟨_, _, _, w1, w2⟩ := h.ok p hp
    simp only [drg, okR, okRs, okR_q (w1.mono (by decide : 10 ≤ 1900)), okR_q (w2.mono (by decide : 10 ≤ 1900)), Bool.and_self]
  have wd : wid (.list [.bool (sure rs), .bool (soft rs), .tuple (rs.map drg)]) ≤ 16000000 := by
    have : wids (rs.map drg) ≤ rs.length * (8000 + 2) := wids_map fun p _ => by simp only [drg, wid, wids, wid_q]; decide
    simp only [wid, wids]
    have : rs.length * (8000 + 2) ≤ 31 * 8002 := Nat.mul_le_mul_right _ hlen
    omega
  have dp : PyData.depth (.list [.bool (sure rs), .bool (soft rs), .tuple (rs.map drg)]) ≤ 60 := by
    have := depthAll (h := drg) (m := 5) (l := rs) fun a _ => by simp [drg, dq, PyData.depth, PyData.depthAll]
    simp only [PyData.depth, PyData.depthAll]
    omega
  rw [w_repr (tl .new) ok wd dp]
  try simp only [w_int, w_bl, w_non, w_no, w_str, w_nil, w_one, w_var, toVar_some, w_glob, toGl_some, toTup_tup, toBl_true, toBl_false, w_cons, w_tup, w_lst, w_bin, w_cmp, w_chain, w_not, w_and, w_or, w_ife, toInt_int, w_neg, w_idx, w_slice, w_isi, w_call, w_call0, w_meth, w_blt, toSeq_tup, w_star, w_rev, onNx_nx, onNx_rt, onNx_ct, x_skip, x_seq, toSl_some, x_set, x_setC, x_par, x_ret, x_expr, x_cont, x_sif, onRt_rt, onRt_nx, onTurn_nx, onTurn_ct, onTurn_rt, lay, layN, List.map_cons, List.map_nil, List.getElem?_cons_zero, List.getElem?_cons_succ, Nat.sub_self, List.replicate_zero, List.replicate_succ, List.append_nil, List.cons_append, List.nil_append, List.set_cons_zero, List.set_cons_succ, Nat.reduceSub, to_ok, wipeP, true_and, capk0, capk1, capk2, capk3, capk4, capk5, capk6, capk7, capk8]
  rw [w_repr (tl .new) ok wd dp, rep_eq ok]
end
end K39

namespace K39
open PySem FI GI
section
variable {n : Nat} {a b : Rat} {s : Sto} {Q : PV → Sto → Prop} {L d l A : Nat} {rs : List (Rat × Rat)} {fs ps : List Rat}
structure Py (L : Nat) (ps : List Rat) : Prop where
  len : ps.length = (lev L).length
  w : ∀ x ∈ ps, W 10 x
theorem lev16 (h4 : L ≤ 4) : (lev L).length ≤ 16 := by
  rw [lev_len]; exact Nat.le_trans (Nat.pow_le_pow_right (by decide) h4) (by decide)
theorem layers_last (hL : L ≤ 5) {Q : PV → Sto → Prop} (h : ∀ i j s', Fr [] s s' → At s' j ((lev L).map rp) → (∀ {R : PV → Sto → Prop}, (evIdx (.lst i) (.int (-1)) s').to R = R (.lst j) s') → Q (.lst i) s') : (runF T (n + 2) f_layers_in [.int (L : Int)] s).to Q := by
  refine to_mono (layers_ok hL) fun v s' ⟨f1, i, js, ev, hi, _, hlen, hjs⟩ => ?_
  subst ev
  obtain ⟨j, hj⟩ : ∃ j, js[L]? = some j := ⟨js[L]'(by omega), List.getElem?_eq_getElem (by omega)⟩
  have hlast : (js.map PV.lst).getLast? = some (.lst j) := by
    rw [List.getLast?_map, List.getLast?_eq_getElem?, show js.length - 1 = L by omega, hj]; rfl
  exact h i j s' f1 (hjs L j hj) fun {R} => idx_last hi hlast
theorem payoff_ok (hp : Py L ps) (h5 : L ≤ 4) : runF T (n + 3) f_is_payoff [.int (L : Int), .tup (ps.map q)] s = .ok (.bl true) s := by
  have hl := lev16 h5
  refine run_pu d_is_payoff rfl (by simp only [pureVs, pure_qs, Bool.and_self]; rfl) rfl ?_
  simp only [c_is_payoff, w_int, w_bl, w_non, w_no, w_str, w_nil, w_one, w_var, toVar_some, w_glob, toGl_some, toTup_tup, toBl_true, toBl_false, w_cons, w_tup, w_lst, w_bin, w_cmp, w_chain, w_not, w_and, w_or, w_ife, toInt_int, w_neg, w_idx, w_slice, w_isi, w_call, w_call0, w_meth, w_blt, toSeq_tup, w_star, w_rev, onNx_nx, onNx_rt, onNx_ct, x_skip, x_seq, toSl_some, x_set, x_setC, x_par, x_ret, x_expr, x_cont, x_sif, onRt_rt, onRt_nx, onTurn_nx, onTurn_ct, onTurn_rt, lay, layN, List.map_cons, List.map_nil, List.getElem?_cons_zero, List.getElem?_cons_succ, Nat.sub_self, List.replicate_zero, List.replicate_succ, List.append_nil, List.cons_append, List.nil_append, List.set_cons_zero, List.set_cons_succ, Nat.reduceSub, to_ok, wipeP, true_and, capk0, capk1, capk2, capk3, capk4, capk5, capk6, capk7, capk8, isTy_tup, len_tup, List.length_map]
  refine ⟨true, rfl, ?_⟩
  simp only [w_int, w_bl, w_non, w_no, w_str, w_nil, w_one, w_var, toVar_some, w_glob, toGl_some, toTup_tup, toBl_true, toBl_false, w_cons, w_tup, w_lst, w_bin, w_cmp, w_chain, w_not, w_and, w_or, w_ife, toInt_int, w_neg, w_idx, w_slice, w_isi, w_call, w_call0, w_meth, w_blt, toSeq_tup, w_star, w_rev, onNx_nx, onNx_rt, onNx_ct, x_skip, x_seq, toSl_some, x_set, x_setC, x_par, x_ret, x_expr, x_cont, x_sif, onRt_rt, onRt_nx, onTurn_nx, onTurn_ct, onTurn_rt, lay, layN, List.map_cons, List.map_nil, List.getElem?_cons_zero, List.getElem?_cons_succ, Nat.sub_self, List.replicate_zero, List.replicate_succ, List.append_nil, List.cons_append, List.nil_append, List.set_cons_zero, List.set_cons_succ, Nat.reduceSub, to_ok, wipeP, true_and, capk0, capk1, capk2, capk3, capk4, capk5, capk6, capk7, capk8]
  refine layers_last (by omega) fun i j s1 f1 hj he => ?_
  simp only [w_int, w_bl, w_non, w_no, w_str, w_nil, w_one, w_var, toVar_some, w_glob, toGl_some, toTup_tup, toBl_true, toBl_false, w_cons, w_tup, w_lst, w_bin, w_cmp, w_chain, w_not, w_and, w_or, w_ife, toInt_int, w_neg, w_idx, w_slice, w_isi, w_call, w_call0, w_meth, w_blt, toSeq_tup, w_star, w_rev, onNx_nx, onNx_rt, onNx_ct, x_skip, x_seq, toSl_some, x_set, x_setC, x_par, x_ret, x_expr, x_cont, x_sif, onRt_rt, onRt_nx, onTurn_nx, onTurn_ct, onTurn_rt, lay, layN, List.map_cons, List.map_nil, List.getElem?_cons_zero, List.getElem?_cons_succ, Nat.sub_self, List.replicate_zero, List.replicate_succ, List.append_nil, List.cons_append, List.nil_append, List.set_cons_zero, List.set_cons_succ, Nat.reduceSub, to_ok, wipeP, true_and, capk0, capk1, capk2, capk3, capk4, capk5, capk6, capk7, capk8, he, len_lst hj, List.length_map, ne_int, hp.len, decide_true, Bool.not_true]
  refine comp_pure ps q (fun _ => some (.bl true)) ?_ (by rw [hp.len]; simp [cap]; omega) (fun x hx s' hs => ?_) fun i s' hf hA hi => ?_
  · simp only [j_seq, w_int, w_bl, w_non, w_no, w_str, w_nil, w_one, w_var, toVar_some, w_glob, toGl_some, toTup_tup, toBl_true, toBl_false, w_cons, w_tup, w_lst, w_bin, w_cmp, w_chain, w_not, w_and, w_or, w_ife, toInt_int, w_neg, w_idx, w_slice, w_isi, w_call, w_call0, w_meth, w_blt, toSeq_tup, w_star, w_rev, onNx_nx, onNx_rt, onNx_ct, x_skip, x_seq, toSl_some, x_set, x_setC, x_par, x_ret, x_expr, x_cont, x_sif, onRt_rt, onRt_nx, onTurn_nx, onTurn_ct, onTurn_rt, lay, layN, List.map_cons, List.map_nil, List.getElem?_cons_zero, List.getElem?_cons_succ, Nat.sub_self, List.replicate_zero, List.replicate_succ, List.append_nil, List.cons_append, List.nil_append, List.set_cons_zero, List.set_cons_succ, Nat.reduceSub, to_ok, wipeP, true_and, capk0, capk1, capk2, capk3, capk4, capk5, capk6, capk7, capk8]
    exact ⟨by simp [It.most], sees_t, .refl⟩
  · simp only [Turn, w_int, w_bl, w_non, w_no, w_str, w_nil, w_one, w_var, toVar_some, w_glob, toGl_some, toTup_tup, toBl_true, toBl_false, w_cons, w_tup, w_lst, w_bin, w_cmp, w_chain, w_not, w_and, w_or, w_ife, toInt_int, w_neg, w_idx, w_slice, w_isi, w_call, w_call0, w_meth, w_blt, toSeq_tup, w_star, w_rev, onNx_nx, onNx_rt, onNx_ct, x_skip, x_seq, toSl_some, x_set, x_setC, x_par, x_ret, x_expr, x_cont, x_sif, onRt_rt, onRt_nx, onTurn_nx, onTurn_ct, onTurn_rt, lay, layN, List.map_cons, List.map_nil, List.getElem?_cons_zero, List.getElem?_cons_succ, Nat.sub_self, List.replicate_zero, List.replicate_succ, List.append_nil, List.cons_append, List.nil_append, List.set_cons_zero, List.set_cons_succ, Nat.reduceSub, to_ok, wipeP, true_and, capk0, capk1, capk2, capk3, capk4, capk5, capk6, capk7, capk8, isfrac_ok ((hp.w x hx).mono (by decide))]
    exact .refl
  · rw [fm_some] at hA
    rw [all_lst hA, allt]
theorem needpayoff_ok (hp : Py L ps) (h5 : L ≤ 4) : runF T (n + 4) f_need_payoff [.int (L : Int), .tup (ps.map q)] s = .ok .non s := by
  refine run_pu d_need_payoff rfl (by simp only [pureVs, pure_qs, Bool.and_self]; rfl) rfl ?_
  simp only [c_need_payoff, w_int, w_bl, w_non, w_no, w_str, w_nil, w_one, w_var, toVar_some, w_glob, toGl_some, toTup_tup, toBl_true, toBl_false, w_cons, w_tup, w_lst, w_bin, w_cmp, w_chain, w_not, w_and, w_or, w_ife, toInt_int, w_neg, w_idx, w_slice, w_isi, w_call, w_call0, w_meth, w_blt, toSeq_tup, w_star, w_rev, onNx_nx, onNx_rt, onNx_ct, x_skip, x_seq, toSl_some, x_set, x_setC, x_par, x_ret, x_expr, x_cont, x_sif, onRt_rt, onRt_nx, onTurn_nx, onTurn_ct, onTurn_rt, lay, layN, List.map_cons, List.map_nil, List.getElem?_cons_zero, List.getElem?_cons_succ, Nat.sub_self, List.replicate_zero, List.replicate_succ, List.append_nil, List.cons_append, List.nil_append, List.set_cons_zero, List.set_cons_succ, Nat.reduceSub, to_ok, wipeP, true_and, capk0, capk1, capk2, capk3, capk4, capk5, capk6, capk7, capk8, payoff_ok hp h5]
def mean (L : Nat) (fs ps : List Rat) : List Rat := ((lev L).zip ps).map fun p => prob fs p.1 * p.2
theorem mean_w (hw : Ch L fs) (hp : Py L ps) (h4 : L ≤ 4) : (∀ x ∈ mean L fs ps, W 115 x) ∧ (mean L fs ps).length ≤ 16 := by
  refine ⟨fun x hx => ?_, ?_⟩
  · obtain ⟨p, hp1, rfl⟩ := List.mem_map.mp hx
    have hm := List.of_mem_zip hp1
    exact ((W_prob4 hw (by rw [lev_mem_len hm.1]; exact h4)).mul (hp.w _ hm.2)).mono (by decide)
  · rw [mean, List.length_map, List.length_zip]
    have := lev16 h4
    omega
theorem zip_lt {i : Nat} {xs ys : List PV} {s1 : Sto} (h : At s1 i xs) : zip2 s1 (.lst i) (.tup ys) = some (.zp (.l i) (.t ys)) := by
  simp only [zip2, seqIt, h.getL]
theorem meanin_ok (hw : Ch L fs) (hp : Py L ps) (h4 : L ≤ 4) : runF T (n + 5) f_mean_in [.int (L : Int), .tup (fs.map q), .tup (ps.map q)] s = .ok (q (S (mean L fs ps))) s := by
  have hl := lev16 h4
  obtain ⟨mw, ml⟩ := mean_w hw hp h4
  refine run_pu d_mean_in rfl (by simp only [pureVs, pure_qs, Bool.and_self]; rfl) rfl ?_
  simp only [c_mean_in, w_int, w_bl, w_non, w_no, w_str, w_nil, w_one, w_var, toVar_some, w_glob, toGl_some, toTup_tup, toBl_true, toBl_false, w_cons, w_tup, w_lst, w_bin, w_cmp, w_chain, w_not, w_and, w_or, w_ife, toInt_int, w_neg, w_idx, w_slice, w_isi, w_call, w_call0, w_meth, w_blt, toSeq_tup, w_star, w_rev, onNx_nx, onNx_rt, onNx_ct, x_skip, x_seq, toSl_some, x_set, x_setC, x_par, x_ret, x_expr, x_cont, x_sif, onRt_rt, onRt_nx, onTurn_nx, onTurn_ct, onTurn_rt, lay, layN, List.map_cons, List.map_nil, List.getElem?_cons_zero, List.getElem?_cons_succ, Nat.sub_self, List.replicate_zero, List.replicate_succ, List.append_nil, List.cons_append, List.nil_append, List.set_cons_zero, List.set_cons_succ, Nat.reduceSub, to_ok, wipeP, true_and, capk0, capk1, capk2, capk3, capk4, capk5, capk6, capk7, capk8]
  refine comp_inv2 ?_
  simp only [j_zip, w_int, w_bl, w_non, w_no, w_str, w_nil, w_one, w_var, toVar_some, w_glob, toGl_some, toTup_tup, toBl_true, toBl_false, w_cons, w_tup, w_lst, w_bin, w_cmp, w_chain, w_not, w_and, w_or, w_ife, toInt_int, w_neg, w_idx, w_slice, w_isi, w_call, w_call0, w_meth, w_blt, toSeq_tup, w_star, w_rev, onNx_nx, onNx_rt, onNx_ct, x_skip, x_seq, toSl_some, x_set, x_setC, x_par, x_ret, x_expr, x_cont, x_sif, onRt_rt, onRt_nx, onTurn_nx, onTurn_ct, onTurn_rt, lay, layN, List.map_cons, List.map_nil, List.getElem?_cons_zero, List.getElem?_cons_succ, Nat.sub_self, List.replicate_zero, List.replicate_succ, List.append_nil, List.cons_append, List.nil_append, List.set_cons_zero, List.set_cons_succ, Nat.reduceSub, to_ok, wipeP, true_and, capk0, capk1, capk2, capk3, capk4, capk5, capk6, capk7, capk8]
  refine layers_last (by omega) fun i j s1 f1 hj he => ?_
  simp only [w_int, w_bl, w_non, w_no, w_str, w_nil, w_one, w_var, toVar_some, w_glob, toGl_some, toTup_tup, toBl_true, toBl_false, w_cons, w_tup, w_lst, w_bin, w_cmp, w_chain, w_not, w_and, w_or, w_ife, toInt_int, w_neg, w_idx, w_slice, w_isi, w_call, w_call0, w_meth, w_blt, toSeq_tup, w_star, w_rev, onNx_nx, onNx_rt, onNx_ct, x_skip, x_seq, toSl_some, x_set, x_setC, x_par, x_ret, x_expr, x_cont, x_sif, onRt_rt, onRt_nx, onTurn_nx, onTurn_ct, onTurn_rt, lay, layN, List.map_cons, List.map_nil, List.getElem?_cons_zero, List.getElem?_cons_succ, Nat.sub_self, List.replicate_zero, List.replicate_succ, List.append_nil, List.cons_append, List.nil_append, List.set_cons_zero, List.set_cons_succ, Nat.reduceSub, to_ok, wipeP, true_and, capk0, capk1, capk2, capk3, capk4, capk5, capk6, capk7, capk8, he]
  refine ⟨_, zip_lt hj, List Int × Rat, (lev L).zip ps, fun p => .tup [rp p.1, q p.2], fun s' => At s' j ((lev L).map rp), fun k acc s' => Fr [] s1 s' ∧ At s' j ((lev L).map rp) ∧ acc = (((lev L).zip ps).take k).map fun p => q (prob fs p.1 * p.2), ?_, sees_zp (fun s' h => h.getL) (fun s' _ => rfl), ⟨.refl, hj, rfl⟩, fun k acc s' z => ⟨z.2.1, ?_⟩, ?_, fun k p acc s' hx ⟨z1, z2, z3⟩ => ?_, fun acc s' ⟨z1, z2, z3⟩ => ?_⟩
  · simp [It.most, hj.getL]
  · rw [z.2.2, List.length_map, List.length_take]; omega
  · rw [List.length_zip]; simp [cap]; omega
  · have hm := List.of_mem_zip (List.mem_of_getElem? hx)
    have w1 := W_prob4 hw (r := p.1) (by rw [lev_mem_len hm.1]; exact h4)
    simp only [Turn, w_int, w_bl, w_non, w_no, w_str, w_nil, w_one, w_var, toVar_some, w_glob, toGl_some, toTup_tup, toBl_true, toBl_false, w_cons, w_tup, w_lst, w_bin, w_cmp, w_chain, w_not, w_and, w_or, w_ife, toInt_int, w_neg, w_idx, w_slice, w_isi, w_call, w_call0, w_meth, w_blt, toSeq_tup, w_star, w_rev, onNx_nx, onNx_rt, onNx_ct, x_skip, x_seq, toSl_some, x_set, x_setC, x_par, x_ret, x_expr, x_cont, x_sif, onRt_rt, onRt_nx, onTurn_nx, onTurn_ct, onTurn_rt, lay, layN, List.map_cons, List.map_nil, List.getElem?_cons_zero, List.getElem?_cons_succ, Nat.sub_self, List.replicate_zero, List.replicate_succ, List.append_nil, List.cons_append, List.nil_append, List.set_cons_zero, List.set_cons_succ, Nat.reduceSub, to_ok, wipeP, true_and, capk0, capk1, capk2, capk3, capk4, capk5, capk6, capk7, capk8]
    rw [chancein_ok hw (by omega) (lev_bits hm.1) (by rw [lev_mem_len hm.1]; exact Nat.le_refl _)]
    simp only [w_int, w_bl, w_non, w_no, w_str, w_nil, w_one, w_var, toVar_some, w_glob, toGl_some, toTup_tup, toBl_true, toBl_false, w_cons, w_tup, w_lst, w_bin, w_cmp, w_chain, w_not, w_and, w_or, w_ife, toInt_int, w_neg, w_idx, w_slice, w_isi, w_call, w_call0, w_meth, w_blt, toSeq_tup, w_star, w_rev, onNx_nx, onNx_rt, onNx_ct, x_skip, x_seq, toSl_some, x_set, x_setC, x_par, x_ret, x_expr, x_cont, x_sif, onRt_rt, onRt_nx, onTurn_nx, onTurn_ct, onTurn_rt, lay, layN, List.map_cons, List.map_nil, List.getElem?_cons_zero, List.getElem?_cons_succ, Nat.sub_self, List.replicate_zero, List.replicate_succ, List.append_nil, List.cons_append, List.nil_append, List.set_cons_zero, List.set_cons_succ, Nat.reduceSub, to_ok, wipeP, true_and, capk0, capk1, capk2, capk3, capk4, capk5, capk6, capk7, capk8]
    rw [mul_ok (w1.mono (by decide)) ((hp.w _ hm.2).mono (by decide))]
    simp only [w_int, w_bl, w_non, w_no, w_str, w_nil, w_one, w_var, toVar_some, w_glob, toGl_some, toTup_tup, toBl_true, toBl_false, w_cons, w_tup, w_lst, w_bin, w_cmp, w_chain, w_not, w_and, w_or, w_ife, toInt_int, w_neg, w_idx, w_slice, w_isi, w_call, w_call0, w_meth, w_blt, toSeq_tup, w_star, w_rev, onNx_nx, onNx_rt, onNx_ct, x_skip, x_seq, toSl_some, x_set, x_setC, x_par, x_ret, x_expr, x_cont, x_sif, onRt_rt, onRt_nx, onTurn_nx, onTurn_ct, onTurn_rt, lay, layN, List.map_cons, List.map_nil, List.getElem?_cons_zero, List.getElem?_cons_succ, Nat.sub_self, List.replicate_zero, List.replicate_succ, List.append_nil, List.cons_append, List.nil_append, List.set_cons_zero, List.set_cons_succ, Nat.reduceSub, to_ok, wipeP, true_and, capk0, capk1, capk2, capk3, capk4, capk5, capk6, capk7, capk8]
    refine ⟨z1, z2, ?_⟩
    rw [z3, List.take_add_one, hx, Option.toList_some, List.map_append]
    rfl
  · rw [List.take_length] at z3
    subst z3
    try simp only [w_int, w_bl, w_non, w_no, w_str, w_nil, w_one, w_var, toVar_some, w_glob, toGl_some, toTup_tup, toBl_true, toBl_false, w_cons, w_tup, w_lst, w_bin, w_cmp, w_chain, w_not, w_and, w_or, w_ife, toInt_int, w_neg, w_idx, w_slice, w_isi, w_call, w_call0, w_meth, w_blt, toSeq_tup, w_star, w_rev, onNx_nx, onNx_rt, onNx_ct, x_skip, x_seq, toSl_some, x_set, x_setC, x_par, x_ret, x_expr, x_cont, x_sif, onRt_rt, onRt_nx, onTurn_nx, onTurn_ct, onTurn_rt, lay, layN, List.map_cons, List.map_nil, List.getElem?_cons_zero, List.getElem?_cons_succ, Nat.sub_self, List.replicate_zero, List.replicate_succ, List.append_nil, List.cons_append, List.nil_append, List.set_cons_zero, List.set_cons_succ, Nat.reduceSub, to_ok, wipeP, true_and, capk0, capk1, capk2, capk3, capk4, capk5, capk6, capk7, capk8]
    have hA : At (s'.new (.lst (((lev L).zip ps).map fun p => q (prob fs p.1 * p.2)))) s'.n ((mean L fs ps).map q) := by
      have e : (mean L fs ps).map q = ((lev L).zip ps).map fun p => q (prob fs p.1 * p.2) := by simp [mean]
      rw [e]; exact .new
    rw [sum_ok hA mw (by decide) (by omega)]
    simp only [w_int, w_bl, w_non, w_no, w_str, w_nil, w_one, w_var, toVar_some, w_glob, toGl_some, toTup_tup, toBl_true, toBl_false, w_cons, w_tup, w_lst, w_bin, w_cmp, w_chain, w_not, w_and, w_or, w_ife, toInt_int, w_neg, w_idx, w_slice, w_isi, w_call, w_call0, w_meth, w_blt, toSeq_tup, w_star, w_rev, onNx_nx, onNx_rt, onNx_ct, x_skip, x_seq, toSl_some, x_set, x_setC, x_par, x_ret, x_expr, x_cont, x_sif, onRt_rt, onRt_nx, onTurn_nx, onTurn_ct, onTurn_rt, lay, layN, List.map_cons, List.map_nil, List.getElem?_cons_zero, List.getElem?_cons_succ, Nat.sub_self, List.replicate_zero, List.replicate_succ, List.append_nil, List.cons_append, List.nil_append, List.set_cons_zero, List.set_cons_succ, Nat.reduceSub, to_ok, wipeP, true_and, capk0, capk1, capk2, capk3, capk4, capk5, capk6, capk7, capk8]
theorem meanby_ok (h : Fc L rs) (h1 : 1 ≤ L) (h4 : L ≤ 4) (hc : Cs rs fs) (hw : Ch L fs) (hp : Py L ps) : runF T (n + 7) f_mean_by [.int (L : Int), .tup (rs.map rg), .tup (fs.map q), .tup (ps.map q)] s = .ok (q (S (mean L fs ps))) s := by
  refine run_pu d_mean_by rfl (by simp only [pureVs, pure_rs, pure_qs, Bool.and_self]; rfl) rfl ?_
  simp only [c_mean_by, w_int, w_bl, w_non, w_no, w_str, w_nil, w_one, w_var, toVar_some, w_glob, toGl_some, toTup_tup, toBl_true, toBl_false, w_cons, w_tup, w_lst, w_bin, w_cmp, w_chain, w_not, w_and, w_or, w_ife, toInt_int, w_neg, w_idx, w_slice, w_isi, w_call, w_call0, w_meth, w_blt, toSeq_tup, w_star, w_rev, onNx_nx, onNx_rt, onNx_ct, x_skip, x_seq, toSl_some, x_set, x_setC, x_par, x_ret, x_expr, x_cont, x_sif, onRt_rt, onRt_nx, onTurn_nx, onTurn_ct, onTurn_rt, lay, layN, List.map_cons, List.map_nil, List.getElem?_cons_zero, List.getElem?_cons_succ, Nat.sub_self, List.replicate_zero, List.replicate_succ, List.append_nil, List.cons_append, List.nil_append, List.set_cons_zero, List.set_cons_succ, Nat.reduceSub, to_ok, wipeP, true_and, capk0, capk1, capk2, capk3, capk4, capk5, capk6, capk7, capk8, needforecaster_ok h h1 (by omega : L ≤ 5)]
  rw [needchances_ok h (by omega) hc hw]
  simp only [w_int, w_bl, w_non, w_no, w_str, w_nil, w_one, w_var, toVar_some, w_glob, toGl_some, toTup_tup, toBl_true, toBl_false, w_cons, w_tup, w_lst, w_bin, w_cmp, w_chain, w_not, w_and, w_or, w_ife, toInt_int, w_neg, w_idx, w_slice, w_isi, w_call, w_call0, w_meth, w_blt, toSeq_tup, w_star, w_rev, onNx_nx, onNx_rt, onNx_ct, x_skip, x_seq, toSl_some, x_set, x_setC, x_par, x_ret, x_expr, x_cont, x_sif, onRt_rt, onRt_nx, onTurn_nx, onTurn_ct, onTurn_rt, lay, layN, List.map_cons, List.map_nil, List.getElem?_cons_zero, List.getElem?_cons_succ, Nat.sub_self, List.replicate_zero, List.replicate_succ, List.append_nil, List.cons_append, List.nil_append, List.set_cons_zero, List.set_cons_succ, Nat.reduceSub, to_ok, wipeP, true_and, capk0, capk1, capk2, capk3, capk4, capk5, capk6, capk7, capk8]
  rw [needpayoff_ok hp h4]
  simp only [w_int, w_bl, w_non, w_no, w_str, w_nil, w_one, w_var, toVar_some, w_glob, toGl_some, toTup_tup, toBl_true, toBl_false, w_cons, w_tup, w_lst, w_bin, w_cmp, w_chain, w_not, w_and, w_or, w_ife, toInt_int, w_neg, w_idx, w_slice, w_isi, w_call, w_call0, w_meth, w_blt, toSeq_tup, w_star, w_rev, onNx_nx, onNx_rt, onNx_ct, x_skip, x_seq, toSl_some, x_set, x_setC, x_par, x_ret, x_expr, x_cont, x_sif, onRt_rt, onRt_nx, onTurn_nx, onTurn_ct, onTurn_rt, lay, layN, List.map_cons, List.map_nil, List.getElem?_cons_zero, List.getElem?_cons_succ, Nat.sub_self, List.replicate_zero, List.replicate_succ, List.append_nil, List.cons_append, List.nil_append, List.set_cons_zero, List.set_cons_succ, Nat.reduceSub, to_ok, wipeP, true_and, capk0, capk1, capk2, capk3, capk4, capk5, capk6, capk7, capk8]
  rw [meanin_ok hw hp h4]
  simp only [w_int, w_bl, w_non, w_no, w_str, w_nil, w_one, w_var, toVar_some, w_glob, toGl_some, toTup_tup, toBl_true, toBl_false, w_cons, w_tup, w_lst, w_bin, w_cmp, w_chain, w_not, w_and, w_or, w_ife, toInt_int, w_neg, w_idx, w_slice, w_isi, w_call, w_call0, w_meth, w_blt, toSeq_tup, w_star, w_rev, onNx_nx, onNx_rt, onNx_ct, x_skip, x_seq, toSl_some, x_set, x_setC, x_par, x_ret, x_expr, x_cont, x_sif, onRt_rt, onRt_nx, onTurn_nx, onTurn_ct, onTurn_rt, lay, layN, List.map_cons, List.map_nil, List.getElem?_cons_zero, List.getElem?_cons_succ, Nat.sub_self, List.replicate_zero, List.replicate_succ, List.append_nil, List.cons_append, List.nil_append, List.set_cons_zero, List.set_cons_succ, Nat.reduceSub, to_ok, wipeP, true_and, capk0, capk1, capk2, capk3, capk4, capk5, capk6, capk7, capk8]
theorem pays_ok (h : St s d l A) (h1 : 1 ≤ L) (h4 : L ≤ 4) (hA : A ≤ 900) : (runF T (n + 3) f__law_pays [.dct d, .int (L : Int)] s).to fun v s' => (∃ ps, v = .tup (ps.map q) ∧ Py L ps) ∧ St s' d l (A + 32) ∧ Fr [d, l] s s' := by
  have hll := lev16 h4
  obtain ⟨hd0, hl0⟩ := h.dl
  refine run_to d__law_pays rfl ?_
  simp only [c__law_pays, w_int, w_bl, w_non, w_no, w_str, w_nil, w_one, w_var, toVar_some, w_glob, toGl_some, toTup_tup, toBl_true, toBl_false, w_cons, w_tup, w_lst, w_bin, w_cmp, w_chain, w_not, w_and, w_or, w_ife, toInt_int, w_neg, w_idx, w_slice, w_isi, w_call, w_call0, w_meth, w_blt, toSeq_tup, w_star, w_rev, onNx_nx, onNx_rt, onNx_ct, x_skip, x_seq, toSl_some, x_set, x_setC, x_par, x_ret, x_expr, x_cont, x_sif, onRt_rt, onRt_nx, onTurn_nx, onTurn_ct, onTurn_rt, lay, layN, List.map_cons, List.map_nil, List.getElem?_cons_zero, List.getElem?_cons_succ, Nat.sub_self, List.replicate_zero, List.replicate_succ, List.append_nil, List.cons_append, List.nil_append, List.set_cons_zero, List.set_cons_succ, Nat.reduceSub, to_ok, wipeP, true_and, capk0, capk1, capk2, capk3, capk4, capk5, capk6, capk7, capk8]
  refine comp_inv2 ?_
  simp only [j_seq, w_int, w_bl, w_non, w_no, w_str, w_nil, w_one, w_var, toVar_some, w_glob, toGl_some, toTup_tup, toBl_true, toBl_false, w_cons, w_tup, w_lst, w_bin, w_cmp, w_chain, w_not, w_and, w_or, w_ife, toInt_int, w_neg, w_idx, w_slice, w_isi, w_call, w_call0, w_meth, w_blt, toSeq_tup, w_star, w_rev, onNx_nx, onNx_rt, onNx_ct, x_skip, x_seq, toSl_some, x_set, x_setC, x_par, x_ret, x_expr, x_cont, x_sif, onRt_rt, onRt_nx, onTurn_nx, onTurn_ct, onTurn_rt, lay, layN, List.map_cons, List.map_nil, List.getElem?_cons_zero, List.getElem?_cons_succ, Nat.sub_self, List.replicate_zero, List.replicate_succ, List.append_nil, List.cons_append, List.nil_append, List.set_cons_zero, List.set_cons_succ, Nat.reduceSub, to_ok, wipeP, true_and, capk0, capk1, capk2, capk3, capk4, capk5, capk6, capk7, capk8]
  refine to_mono (allruns_ok (by omega)) fun v s1 ⟨f1, i, j, ev, hi, hj, hi', hj'⟩ => ?_
  subst ev
  have e1 : ∀ {Q : PV → Sto → Prop}, (evIdx (.tup [.lst i, .lst j]) (.int 1) s1).to Q = Q (.lst j) s1 := fun {Q} => rfl
  simp only [e1]
  have nj : j ∉ [d, l] := by simp; omega
  refine ⟨_, hj.getL, List Int, lev L, rp, fun s' => At s' j ((lev L).map rp), fun k acc s' => Fr [d, l] s s' ∧ St s' d l (A + 2 * k) ∧ At s' j ((lev L).map rp) ∧ ∃ ps : List Rat, acc = ps.map q ∧ ps.length = k ∧ ∀ x ∈ ps, W 10 x, by simp [It.most, hj.getL], sees_l fun s' h => h, ⟨f1.wide, h.fr f1, hj, [], rfl, rfl, fun x hx => nomatch hx⟩, fun k acc s' ⟨z1, z2, z3, ps, z4, z5, z6⟩ => ⟨z3, by rw [z4, List.length_map]; omega⟩, by simp [cap]; omega, fun k r acc s' hx ⟨z1, z2, z3, ps, z4, z5, z6⟩ => ?_, fun acc s' ⟨z1, z2, z3, ps, z4, z5, z6⟩ => ?_⟩
  · have hk : k < (lev L).length := (List.getElem?_eq_some_iff.mp hx).1
    simp only [Turn, w_int, w_bl, w_non, w_no, w_str, w_nil, w_one, w_var, toVar_some, w_glob, toGl_some, toTup_tup, toBl_true, toBl_false, w_cons, w_tup, w_lst, w_bin, w_cmp, w_chain, w_not, w_and, w_or, w_ife, toInt_int, w_neg, w_idx, w_slice, w_isi, w_call, w_call0, w_meth, w_blt, toSeq_tup, w_star, w_rev, onNx_nx, onNx_rt, onNx_ct, x_skip, x_seq, toSl_some, x_set, x_setC, x_par, x_ret, x_expr, x_cont, x_sif, onRt_rt, onRt_nx, onTurn_nx, onTurn_ct, onTurn_rt, lay, layN, List.map_cons, List.map_nil, List.getElem?_cons_zero, List.getElem?_cons_succ, Nat.sub_self, List.replicate_zero, List.replicate_succ, List.append_nil, List.cons_append, List.nil_append, List.set_cons_zero, List.set_cons_succ, Nat.reduceSub, to_ok, wipeP, true_and, capk0, capk1, capk2, capk3, capk4, capk5, capk6, capk7, capk8]
    refine to_mono (draw_ok z2 (by omega) (by decide) (by decide)) fun v s3 ⟨⟨x3, ev, hx3⟩, S3, f3⟩ => ?_
    subst ev
    simp only [w_int, w_bl, w_non, w_no, w_str, w_nil, w_one, w_var, toVar_some, w_glob, toGl_some, toTup_tup, toBl_true, toBl_false, w_cons, w_tup, w_lst, w_bin, w_cmp, w_chain, w_not, w_and, w_or, w_ife, toInt_int, w_neg, w_idx, w_slice, w_isi, w_call, w_call0, w_meth, w_blt, toSeq_tup, w_star, w_rev, onNx_nx, onNx_rt, onNx_ct, x_skip, x_seq, toSl_some, x_set, x_setC, x_par, x_ret, x_expr, x_cont, x_sif, onRt_rt, onRt_nx, onTurn_nx, onTurn_ct, onTurn_rt, lay, layN, List.map_cons, List.map_nil, List.getElem?_cons_zero, List.getElem?_cons_succ, Nat.sub_self, List.replicate_zero, List.replicate_succ, List.append_nil, List.cons_append, List.nil_append, List.set_cons_zero, List.set_cons_succ, Nat.reduceSub, to_ok, wipeP, true_and, capk0, capk1, capk2, capk3, capk4, capk5, capk6, capk7, capk8, w_sub]
    refine to_mono (draw_ok S3 (by omega) (by decide) (by decide)) fun v s4 ⟨⟨x4, ev, hx4⟩, S4, f4⟩ => ?_
    subst ev
    simp only [w_int, w_bl, w_non, w_no, w_str, w_nil, w_one, w_var, toVar_some, w_glob, toGl_some, toTup_tup, toBl_true, toBl_false, w_cons, w_tup, w_lst, w_bin, w_cmp, w_chain, w_not, w_and, w_or, w_ife, toInt_int, w_neg, w_idx, w_slice, w_isi, w_call, w_call0, w_meth, w_blt, toSeq_tup, w_star, w_rev, onNx_nx, onNx_rt, onNx_ct, x_skip, x_seq, toSl_some, x_set, x_setC, x_par, x_ret, x_expr, x_cont, x_sif, onRt_rt, onRt_nx, onTurn_nx, onTurn_ct, onTurn_rt, lay, layN, List.map_cons, List.map_nil, List.getElem?_cons_zero, List.getElem?_cons_succ, Nat.sub_self, List.replicate_zero, List.replicate_succ, List.append_nil, List.cons_append, List.nil_append, List.set_cons_zero, List.set_cons_succ, Nat.reduceSub, to_ok, wipeP, true_and, capk0, capk1, capk2, capk3, capk4, capk5, capk6, capk7, capk8, w_add, cast1]
    rw [ratio_ok (by omega) (b_lt (by omega))]
    simp only [w_int, w_bl, w_non, w_no, w_str, w_nil, w_one, w_var, toVar_some, w_glob, toGl_some, toTup_tup, toBl_true, toBl_false, w_cons, w_tup, w_lst, w_bin, w_cmp, w_chain, w_not, w_and, w_or, w_ife, toInt_int, w_neg, w_idx, w_slice, w_isi, w_call, w_call0, w_meth, w_blt, toSeq_tup, w_star, w_rev, onNx_nx, onNx_rt, onNx_ct, x_skip, x_seq, toSl_some, x_set, x_setC, x_par, x_ret, x_expr, x_cont, x_sif, onRt_rt, onRt_nx, onTurn_nx, onTurn_ct, onTurn_rt, lay, layN, List.map_cons, List.map_nil, List.getElem?_cons_zero, List.getElem?_cons_succ, Nat.sub_self, List.replicate_zero, List.replicate_succ, List.append_nil, List.cons_append, List.nil_append, List.set_cons_zero, List.set_cons_succ, Nat.reduceSub, to_ok, wipeP, true_and, capk0, capk1, capk2, capk3, capk4, capk5, capk6, capk7, capk8]
    refine ⟨(z1.trans f3).trans f4, S4.mono (by omega), (z3.fr f3 nj).fr f4 nj, ps ++ [mkRat ((x3 : Int) - 3) (1 + x4)], ?_, by simp [z5], fun x hx => ?_⟩
    · rw [z4, List.map_append]; rfl
    · rw [List.mem_append, List.mem_singleton] at hx
      rcases hx with hx | rfl
      · exact z6 x hx
      · exact W_small (by omega) (by omega) (by omega)
  · subst z4
    simp only [w_int, w_bl, w_non, w_no, w_str, w_nil, w_one, w_var, toVar_some, w_glob, toGl_some, toTup_tup, toBl_true, toBl_false, w_cons, w_tup, w_lst, w_bin, w_cmp, w_chain, w_not, w_and, w_or, w_ife, toInt_int, w_neg, w_idx, w_slice, w_isi, w_call, w_call0, w_meth, w_blt, toSeq_tup, w_star, w_rev, onNx_nx, onNx_rt, onNx_ct, x_skip, x_seq, toSl_some, x_set, x_setC, x_par, x_ret, x_expr, x_cont, x_sif, onRt_rt, onRt_nx, onTurn_nx, onTurn_ct, onTurn_rt, lay, layN, List.map_cons, List.map_nil, List.getElem?_cons_zero, List.getElem?_cons_succ, Nat.sub_self, List.replicate_zero, List.replicate_succ, List.append_nil, List.cons_append, List.nil_append, List.set_cons_zero, List.set_cons_succ, Nat.reduceSub, to_ok, wipeP, true_and, capk0, capk1, capk2, capk3, capk4, capk5, capk6, capk7, capk8, evBlt, At.new.getL]
    exact ⟨⟨ps, rfl, ⟨z5, z6⟩⟩, (z2.fr .new).mono (by omega), z1.trans .new⟩
end
end K39

namespace K39
open PySem FI GI
section
variable {n : Nat} {a b : Rat} {s : Sto} {Q : PV → Sto → Prop} {L d l A : Nat} {rs : List (Rat × Rat)} {fs ps : List Rat}
theorem len14 (h1 : 1 ≤ L) (h4 : L ≤ 4) : L = 1 ∨ L = 2 ∨ L = 3 ∨ L = 4 := by omega
theorem runs_ok (h1 : 1 ≤ L) (h4 : L ≤ 4) : runF T (n + 5) f_runs [.int (L : Int)] s = .ok (.tup ((inn L).map rp)) s := by
  rcases len14 h1 h4 with rfl | rfl | rfl | rfl <;> kernel_rfl
theorem wholeruns_ok (h1 : 1 ≤ L) (h4 : L ≤ 4) : runF T (n + 5) f_whole_runs [.int (L : Int)] s = .ok (.tup ((lev L).map rp)) s := by
  rcases len14 h1 h4 with rfl | rfl | rfl | rfl <;> kernel_rfl
theorem hand_ok : runF T (n + 11) f__law_hand_right [] s = .ok (.bl true) s := by kernel_rfl
def dboth (L : Nat) : PyData := .list [.tuple ((inn L).map dr), .tuple ((lev L).map dr)]
theorem okR_dr {r : List Int} (h : ∀ o ∈ r, bit o) : okR (dr r) = true := by
  simp only [dr, okR]
  exact okRs_map fun o ho => by rcases h o ho with rfl | rfl <;> decide
theorem both_ok (h4 : L ≤ 4) : okR (dboth L) = true ∧ wid (dboth L) ≤ 16000000 ∧ (dboth L).depth ≤ 60 := by
  have hi : (inn L).length ≤ 31 := inn_le (by omega)
  have hl := lev16 h4
  refine ⟨?_, ?_, ?_⟩
  · simp only [dboth, okR, okRs, Bool.and_true, Bool.and_eq_true]
    refine ⟨okRs_map fun r hr => ?_, okRs_map fun r hr => okR_dr (lev_bits hr)⟩
    obtain ⟨m, _, hm⟩ := inn_lev hr
    exact okR_dr (lev_bits hm)
  · have w : ∀ {r : List Int}, r.length ≤ 5 → wid (dr r) ≤ 10000 := fun {r} h => by
      have := wids_map (f := PyData.int) (k := 1921) (l := r) fun a _ => by simp [wid]
      simp only [dr, wid]
      have : r.length * (1921 + 2) ≤ 5 * 1923 := Nat.mul_le_mul_right _ h
      omega
    have w1 := wids_map (f := dr) (k := 10000) (l := inn L) fun r hr => by
      obtain ⟨m, h1, hm⟩ := inn_lev hr
      exact w (by rw [lev_mem_len hm]; omega)
    have w2 := wids_map (f := dr) (k := 10000) (l := lev L) fun r hr => w (by rw [lev_mem_len hr]; omega)
    have : (inn L).length * (10000 + 2) ≤ 31 * 10002 := Nat.mul_le_mul_right _ hi
    have : (lev L).length * (10000 + 2) ≤ 16 * 10002 := Nat.mul_le_mul_right _ hl
    simp only [dboth, wid, wids]
    omega
  · have d1 := depthAll (h := dr) (m := 10) (l := inn L) fun a _ => dep_dr
    have d2 := depthAll (h := dr) (m := 10) (l := lev L) fun a _ => dep_dr
    simp only [dboth, PyData.depth, PyData.depthAll]
    omega
theorem toD_both {i : Nat} (h : At s i [.tup ((inn L).map rp), .tup ((lev L).map rp)]) : toD s 60 (.lst i) = some (dboth L) := by
  show (match s.getL i with | some xs => (match mapO (toD s 59) xs with | some ds => some (PyData.list ds) | none => none) | none => none) = _
  rw [h.getL]
  simp only [mapO]
  rw [show toD s 59 (.tup ((inn L).map rp)) = some (.tuple ((inn L).map dr)) from toD_tup (n := 58) fun a _ => toD_rp (m := 56), show toD s 59 (.tup ((lev L).map rp)) = some (.tuple ((lev L).map dr)) from toD_tup (n := 58) fun a _ => toD_rp (m := 56)]
  rfl
theorem law_ok {ns : List Int} (hl : ns.length ≤ 63) : (runF T (n + 12) f_law [.lst 0] (sto0 ns)).to fun v _ => v = .bl true := by
  have h0 : look 0 (sto0 ns).os = some (.rol (ns.map .int)) := rfl
  refine run_to d_law rfl ?_
  simp only [c_law, w_int, w_bl, w_non, w_no, w_str, w_nil, w_one, w_var, toVar_some, w_glob, toGl_some, toTup_tup, toBl_true, toBl_false, w_cons, w_tup, w_lst, w_bin, w_cmp, w_chain, w_not, w_and, w_or, w_ife, toInt_int, w_neg, w_idx, w_slice, w_isi, w_call, w_call0, w_meth, w_blt, toSeq_tup, w_star, w_rev, onNx_nx, onNx_rt, onNx_ct, x_skip, x_seq, toSl_some, x_set, x_setC, x_par, x_ret, x_expr, x_cont, x_sif, onRt_rt, onRt_nx, onTurn_nx, onTurn_ct, onTurn_rt, lay, layN, List.map_cons, List.map_nil, List.getElem?_cons_zero, List.getElem?_cons_succ, Nat.sub_self, List.replicate_zero, List.replicate_succ, List.append_nil, List.cons_append, List.nil_append, List.set_cons_zero, List.set_cons_succ, Nat.reduceSub, to_ok, wipeP, true_and, capk0, capk1, capk2, capk3, capk4, capk5, capk6, capk7, capk8]
  refine to_mono (begin_ok h0 Nat.zero_lt_one hl) fun v s1 ⟨f1, d, l, ev, hS, hd1, hl1⟩ => ?_
  subst ev
  have hn0 : (sto0 ns).n = 1 := rfl
  have g0 : s1.getL 0 = some (ns.map .int) := by unfold Sto.getL; rw [f1.keep 0 (by rw [hn0]; decide) List.not_mem_nil, h0]
  have hlen : ∀ {Q : PV → Sto → Prop}, (evBlt .len [.lst 0] s1).to Q = Q (.int (ns.length : Int)) s1 := fun {Q} => by simp only [evBlt, seqOf, g0, List.length_map, to_ok]
  try simp only [w_int, w_bl, w_non, w_no, w_str, w_nil, w_one, w_var, toVar_some, w_glob, toGl_some, toTup_tup, toBl_true, toBl_false, w_cons, w_tup, w_lst, w_bin, w_cmp, w_chain, w_not, w_and, w_or, w_ife, toInt_int, w_neg, w_idx, w_slice, w_isi, w_call, w_call0, w_meth, w_blt, toSeq_tup, w_star, w_rev, onNx_nx, onNx_rt, onNx_ct, x_skip, x_seq, toSl_some, x_set, x_setC, x_par, x_ret, x_expr, x_cont, x_sif, onRt_rt, onRt_nx, onTurn_nx, onTurn_ct, onTurn_rt, lay, layN, List.map_cons, List.map_nil, List.getElem?_cons_zero, List.getElem?_cons_succ, Nat.sub_self, List.replicate_zero, List.replicate_succ, List.append_nil, List.cons_append, List.nil_append, List.set_cons_zero, List.set_cons_succ, Nat.reduceSub, to_ok, wipeP, true_and, capk0, capk1, capk2, capk3, capk4, capk5, capk6, capk7, capk8]
  simp only [hand_ok, to_ok]
  obtain ⟨c, hc, hc5⟩ : ∃ c : Nat, (2 : Int) + (ns.length : Int) / 30 = (c : Int) ∧ c ≤ 4 := ⟨2 + ns.length / 30, by omega, by omega⟩
  refine x_for (List.range c) (fun k => .int (k : Int)) (fun _ => True) (fun k σ s' => St s' d l (139 * k) ∧ ∃ o2 o3 o4 o5 o6 o7 o8 o9 o10 o11 o12, σ = [some (.lst 0), some (.dct d), o2, o3, o4, o5, o6, o7, o8, o9, o10, o11, o12]) ?_ (fun k σ s' h => trivial) (fun k x σ s' hx hJ => ?_) (fun σ s' hJ => ?_)
  · simp only [j_rng, w_int, w_bl, w_non, w_no, w_str, w_nil, w_one, w_var, toVar_some, w_glob, toGl_some, toTup_tup, toBl_true, toBl_false, w_cons, w_tup, w_lst, w_bin, w_cmp, w_chain, w_not, w_and, w_or, w_ife, toInt_int, w_neg, w_idx, w_slice, w_isi, w_call, w_call0, w_meth, w_blt, toSeq_tup, w_star, w_rev, onNx_nx, onNx_rt, onNx_ct, x_skip, x_seq, toSl_some, x_set, x_setC, x_par, x_ret, x_expr, x_cont, x_sif, onRt_rt, onRt_nx, onTurn_nx, onTurn_ct, onTurn_rt, lay, layN, List.map_cons, List.map_nil, List.getElem?_cons_zero, List.getElem?_cons_succ, Nat.sub_self, List.replicate_zero, List.replicate_succ, List.append_nil, List.cons_append, List.nil_append, List.set_cons_zero, List.set_cons_succ, Nat.reduceSub, to_ok, wipeP, true_and, capk0, capk1, capk2, capk3, capk4, capk5, capk6, capk7, capk8, hlen, w_fdiv (by decide : (0 : Int) < 30) (small_lt (by decide) (by decide)), w_add, hc]
    refine ⟨by omega, ?_, sees_r (n := c), ?_⟩
    · simp [It.most]
    · exact ⟨hS, _, _, _, _, _, _, _, _, _, _, _, rfl⟩
  · obtain ⟨S1, o2, o3, o4, o5, o6, o7, o8, o9, o10, o11, o12, e⟩ := hJ
    subst e
    have hk : k < c := by have := (List.getElem?_eq_some_iff.mp hx).1; simpa using this
    have ex : x = k := by
      rw [List.getElem?_eq_getElem (by simpa using hk)] at hx
      simpa using (Option.some.inj hx).symm
    subst ex
    have hk4 : x < 4 := by omega
    have hb : ∀ {Q : PV → Sto → Prop} {s'' : Sto}, (evBlt .int [.bl (decide ((x : Int) = 0))] s'').to Q = Q (.int (if x = 0 then 1 else 0)) s'' := fun {Q s''} => by
      by_cases z : x = 0
      · subst z; rfl
      · have : ¬ ((x : Int) = 0) := by omega
        simp only [evBlt, this, decide_false, z, if_false, to_ok]; rfl
    simp only [w_int, w_bl, w_non, w_no, w_str, w_nil, w_one, w_var, toVar_some, w_glob, toGl_some, toTup_tup, toBl_true, toBl_false, w_cons, w_tup, w_lst, w_bin, w_cmp, w_chain, w_not, w_and, w_or, w_ife, toInt_int, w_neg, w_idx, w_slice, w_isi, w_call, w_call0, w_meth, w_blt, toSeq_tup, w_star, w_rev, onNx_nx, onNx_rt, onNx_ct, x_skip, x_seq, toSl_some, x_set, x_setC, x_par, x_ret, x_expr, x_cont, x_sif, onRt_rt, onRt_nx, onTurn_nx, onTurn_ct, onTurn_rt, lay, layN, List.map_cons, List.map_nil, List.getElem?_cons_zero, List.getElem?_cons_succ, Nat.sub_self, List.replicate_zero, List.replicate_succ, List.append_nil, List.cons_append, List.nil_append, List.set_cons_zero, List.set_cons_succ, Nat.reduceSub, to_ok, wipeP, true_and, capk0, capk1, capk2, capk3, capk4, capk5, capk6, capk7, capk8, w_eqI, hb, w_add]
    refine to_mono (draw_ok S1 (by omega) (by split <;> omega) (by split <;> omega)) fun v s2 ⟨⟨k2, ev, hk2⟩, S2, f2⟩ => ?_
    subst ev
    simp only [w_int, w_bl, w_non, w_no, w_str, w_nil, w_one, w_var, toVar_some, w_glob, toGl_some, toTup_tup, toBl_true, toBl_false, w_cons, w_tup, w_lst, w_bin, w_cmp, w_chain, w_not, w_and, w_or, w_ife, toInt_int, w_neg, w_idx, w_slice, w_isi, w_call, w_call0, w_meth, w_blt, toSeq_tup, w_star, w_rev, onNx_nx, onNx_rt, onNx_ct, x_skip, x_seq, toSl_some, x_set, x_setC, x_par, x_ret, x_expr, x_cont, x_sif, onRt_rt, onRt_nx, onTurn_nx, onTurn_ct, onTurn_rt, lay, layN, List.map_cons, List.map_nil, List.getElem?_cons_zero, List.getElem?_cons_succ, Nat.sub_self, List.replicate_zero, List.replicate_succ, List.append_nil, List.cons_append, List.nil_append, List.set_cons_zero, List.set_cons_succ, Nat.reduceSub, to_ok, wipeP, true_and, capk0, capk1, capk2, capk3, capk4, capk5, capk6, capk7, capk8, w_add, cast1]
    have hL1 : 1 ≤ 1 + k2 := by omega
    have hL4 : 1 + k2 ≤ 4 := by split at hk2 <;> omega
    generalize 1 + k2 = L at hL1 hL4 ⊢
    refine to_mono (draw_ok (S2.fr .new) (by omega) (by decide) (by decide)) fun v s3 ⟨⟨k3, ev, hk3⟩, S3, f3⟩ => ?_
    subst ev
    have hK : At s3 s2.n [.str "any", .str "exact", .str "mild"] := At.new.fr f3 (by have := S2.dl; simp; omega)
    obtain ⟨kd, ek, hkd⟩ : ∃ kd, ([.str "any", .str "exact", .str "mild"] : List PV)[k3]? = some (.str kd) ∧ kd ∈ kinds := by
      have : k3 = 0 ∨ k3 = 1 ∨ k3 = 2 := by omega
      rcases this with rfl | rfl | rfl
      · exact ⟨_, rfl, by simp [kinds]⟩
      · exact ⟨_, rfl, by simp [kinds]⟩
      · exact ⟨_, rfl, by simp [kinds]⟩
    rw [idx_lst hK ek]
    try simp only [w_int, w_bl, w_non, w_no, w_str, w_nil, w_one, w_var, toVar_some, w_glob, toGl_some, toTup_tup, toBl_true, toBl_false, w_cons, w_tup, w_lst, w_bin, w_cmp, w_chain, w_not, w_and, w_or, w_ife, toInt_int, w_neg, w_idx, w_slice, w_isi, w_call, w_call0, w_meth, w_blt, toSeq_tup, w_star, w_rev, onNx_nx, onNx_rt, onNx_ct, x_skip, x_seq, toSl_some, x_set, x_setC, x_par, x_ret, x_expr, x_cont, x_sif, onRt_rt, onRt_nx, onTurn_nx, onTurn_ct, onTurn_rt, lay, layN, List.map_cons, List.map_nil, List.getElem?_cons_zero, List.getElem?_cons_succ, Nat.sub_self, List.replicate_zero, List.replicate_succ, List.append_nil, List.cons_append, List.nil_append, List.set_cons_zero, List.set_cons_succ, Nat.reduceSub, to_ok, wipeP, true_and, capk0, capk1, capk2, capk3, capk4, capk5, capk6, capk7, capk8]
    refine to_mono (ranges_ok hkd S3 hL1 hL4 (by omega)) fun v s4 ⟨⟨rs, ev, hF⟩, S4, f4⟩ => ?_
    subst ev
    try simp only [w_int, w_bl, w_non, w_no, w_str, w_nil, w_one, w_var, toVar_some, w_glob, toGl_some, toTup_tup, toBl_true, toBl_false, w_cons, w_tup, w_lst, w_bin, w_cmp, w_chain, w_not, w_and, w_or, w_ife, toInt_int, w_neg, w_idx, w_slice, w_isi, w_call, w_call0, w_meth, w_blt, toSeq_tup, w_star, w_rev, onNx_nx, onNx_rt, onNx_ct, x_skip, x_seq, toSl_some, x_set, x_setC, x_par, x_ret, x_expr, x_cont, x_sif, onRt_rt, onRt_nx, onTurn_nx, onTurn_ct, onTurn_rt, lay, layN, List.map_cons, List.map_nil, List.getElem?_cons_zero, List.getElem?_cons_succ, Nat.sub_self, List.replicate_zero, List.replicate_succ, List.append_nil, List.cons_append, List.nil_append, List.set_cons_zero, List.set_cons_succ, Nat.reduceSub, to_ok, wipeP, true_and, capk0, capk1, capk2, capk3, capk4, capk5, capk6, capk7, capk8]
    refine to_mono (lwithin_ok hF S4 hL4 (by omega)) fun v s5 ⟨⟨fs, ev, hC, hW⟩, S5, f5⟩ => ?_
    subst ev
    refine to_mono (pays_ok S5 hL1 hL4 (by omega)) fun v s6 ⟨⟨ps, ev, hP⟩, S6, f6⟩ => ?_
    subst ev
    try simp only [w_int, w_bl, w_non, w_no, w_str, w_nil, w_one, w_var, toVar_some, w_glob, toGl_some, toTup_tup, toBl_true, toBl_false, w_cons, w_tup, w_lst, w_bin, w_cmp, w_chain, w_not, w_and, w_or, w_ife, toInt_int, w_neg, w_idx, w_slice, w_isi, w_call, w_call0, w_meth, w_blt, toSeq_tup, w_star, w_rev, onNx_nx, onNx_rt, onNx_ct, x_skip, x_seq, toSl_some, x_set, x_setC, x_par, x_ret, x_expr, x_cont, x_sif, onRt_rt, onRt_nx, onTurn_nx, onTurn_ct, onTurn_rt, lay, layN, List.map_cons, List.map_nil, List.getElem?_cons_zero, List.getElem?_cons_succ, Nat.sub_self, List.replicate_zero, List.replicate_succ, List.append_nil, List.cons_append, List.nil_append, List.set_cons_zero, List.set_cons_succ, Nat.reduceSub, to_ok, wipeP, true_and, capk0, capk1, capk2, capk3, capk4, capk5, capk6, capk7, capk8]
    refine to_mono (allruns_ok (by omega)) fun v s7 ⟨f7, i7, j7, ev, hi7, hj7, _, _⟩ => ?_
    subst ev
    have S7 := S6.fr f7
    simp only [w_int, w_bl, w_non, w_no, w_str, w_nil, w_one, w_var, toVar_some, w_glob, toGl_some, toTup_tup, toBl_true, toBl_false, w_cons, w_tup, w_lst, w_bin, w_cmp, w_chain, w_not, w_and, w_or, w_ife, toInt_int, w_neg, w_idx, w_slice, w_isi, w_call, w_call0, w_meth, w_blt, toSeq_tup, w_star, w_rev, onNx_nx, onNx_rt, onNx_ct, x_skip, x_seq, toSl_some, x_set, x_setC, x_par, x_ret, x_expr, x_cont, x_sif, onRt_rt, onRt_nx, onTurn_nx, onTurn_ct, onTurn_rt, lay, layN, List.map_cons, List.map_nil, List.getElem?_cons_zero, List.getElem?_cons_succ, Nat.sub_self, List.replicate_zero, List.replicate_succ, List.append_nil, List.cons_append, List.nil_append, List.set_cons_zero, List.set_cons_succ, Nat.reduceSub, to_ok, wipeP, true_and, capk0, capk1, capk2, capk3, capk4, capk5, capk6, capk7, capk8, runs_ok hL1 hL4, wholeruns_ok hL1 hL4]
    obtain ⟨b1, b2, b3⟩ := both_ok hL4
    rw [w_repr (toD_both .new) b1 b2 b3]
    have ht : ∀ {i : Nat} {xs : List PV} {s' : Sto} {Q : PV → Sto → Prop}, At s' i xs → (evBlt .tuple [.lst i] s').to Q = Q (.tup xs) s' := fun {i xs s' Q} h => by simp only [evBlt, h.getL, to_ok]
    simp only [w_int, w_bl, w_non, w_no, w_str, w_nil, w_one, w_var, toVar_some, w_glob, toGl_some, toTup_tup, toBl_true, toBl_false, w_cons, w_tup, w_lst, w_bin, w_cmp, w_chain, w_not, w_and, w_or, w_ife, toInt_int, w_neg, w_idx, w_slice, w_isi, w_call, w_call0, w_meth, w_blt, toSeq_tup, w_star, w_rev, onNx_nx, onNx_rt, onNx_ct, x_skip, x_seq, toSl_some, x_set, x_setC, x_par, x_ret, x_expr, x_cont, x_sif, onRt_rt, onRt_nx, onTurn_nx, onTurn_ct, onTurn_rt, lay, layN, List.map_cons, List.map_nil, List.getElem?_cons_zero, List.getElem?_cons_succ, Nat.sub_self, List.replicate_zero, List.replicate_succ, List.append_nil, List.cons_append, List.nil_append, List.set_cons_zero, List.set_cons_succ, Nat.reduceSub, to_ok, wipeP, true_and, capk0, capk1, capk2, capk3, capk4, capk5, capk6, capk7, capk8, ht (hi7.fr0 .new), ht (hj7.fr0 .new)]
    rw [w_repr (toD_both .new) b1 b2 b3, rep_ne b1]
    try simp only [w_int, w_bl, w_non, w_no, w_str, w_nil, w_one, w_var, toVar_some, w_glob, toGl_some, toTup_tup, toBl_true, toBl_false, w_cons, w_tup, w_lst, w_bin, w_cmp, w_chain, w_not, w_and, w_or, w_ife, toInt_int, w_neg, w_idx, w_slice, w_isi, w_call, w_call0, w_meth, w_blt, toSeq_tup, w_star, w_rev, onNx_nx, onNx_rt, onNx_ct, x_skip, x_seq, toSl_some, x_set, x_setC, x_par, x_ret, x_expr, x_cont, x_sif, onRt_rt, onRt_nx, onTurn_nx, onTurn_ct, onTurn_rt, lay, layN, List.map_cons, List.map_nil, List.getElem?_cons_zero, List.getElem?_cons_succ, Nat.sub_self, List.replicate_zero, List.replicate_succ, List.append_nil, List.cons_append, List.nil_append, List.set_cons_zero, List.set_cons_succ, Nat.reduceSub, to_ok, wipeP, true_and, capk0, capk1, capk2, capk3, capk4, capk5, capk6, capk7, capk8]
    rw [kind_right_ok hF hL1 (by omega)]
    try simp only [w_int, w_bl, w_non, w_no, w_str, w_nil, w_one, w_var, toVar_some, w_glob, toGl_some, toTup_tup, toBl_true, toBl_false, w_cons, w_tup, w_lst, w_bin, w_cmp, w_chain, w_not, w_and, w_or, w_ife, toInt_int, w_neg, w_idx, w_slice, w_isi, w_call, w_call0, w_meth, w_blt, toSeq_tup, w_star, w_rev, onNx_nx, onNx_rt, onNx_ct, x_skip, x_seq, toSl_some, x_set, x_setC, x_par, x_ret, x_expr, x_cont, x_sif, onRt_rt, onRt_nx, onTurn_nx, onTurn_ct, onTurn_rt, lay, layN, List.map_cons, List.map_nil, List.getElem?_cons_zero, List.getElem?_cons_succ, Nat.sub_self, List.replicate_zero, List.replicate_succ, List.append_nil, List.cons_append, List.nil_append, List.set_cons_zero, List.set_cons_succ, Nat.reduceSub, to_ok, wipeP, true_and, capk0, capk1, capk2, capk3, capk4, capk5, capk6, capk7, capk8]
    rw [chances_right_ok hF hL1 hL4 hC hW]
    try simp only [w_int, w_bl, w_non, w_no, w_str, w_nil, w_one, w_var, toVar_some, w_glob, toGl_some, toTup_tup, toBl_true, toBl_false, w_cons, w_tup, w_lst, w_bin, w_cmp, w_chain, w_not, w_and, w_or, w_ife, toInt_int, w_neg, w_idx, w_slice, w_isi, w_call, w_call0, w_meth, w_blt, toSeq_tup, w_star, w_rev, onNx_nx, onNx_rt, onNx_ct, x_skip, x_seq, toSl_some, x_set, x_setC, x_par, x_ret, x_expr, x_cont, x_sif, onRt_rt, onRt_nx, onTurn_nx, onTurn_ct, onTurn_rt, lay, layN, List.map_cons, List.map_nil, List.getElem?_cons_zero, List.getElem?_cons_succ, Nat.sub_self, List.replicate_zero, List.replicate_succ, List.append_nil, List.cons_append, List.nil_append, List.set_cons_zero, List.set_cons_succ, Nat.reduceSub, to_ok, wipeP, true_and, capk0, capk1, capk2, capk3, capk4, capk5, capk6, capk7, capk8]
    have f8 : Fr [] s7 ((s7.new (.lst [.tup ((inn L).map rp), .tup ((lev L).map rp)])).new (.lst [.tup ((inn L).map rp), .tup ((lev L).map rp)])) := Fr.new.trans .new
    generalize ((s7.new (.lst [.tup ((inn L).map rp), .tup ((lev L).map rp)])).new (.lst [.tup ((inn L).map rp), .tup ((lev L).map rp)])) = s8 at f8 ⊢
    have S8 := S7.fr f8
    have hj8 := hj7.fr0 f8
    have hll := lev16 hL4
    obtain ⟨mw, ml⟩ := mean_w hW hP hL4
    refine comp_pure ((lev L).zip ps) (fun p => .tup [rp p.1, q p.2]) (fun p => some (q (prob fs p.1 * p.2))) ?_ (by rw [List.length_zip]; simp [cap]; omega) (fun p hp s' hs => ?_) fun i9 s9 f9 hA9 hi9 => ?_
    · simp only [j_zip, w_int, w_bl, w_non, w_no, w_str, w_nil, w_one, w_var, toVar_some, w_glob, toGl_some, toTup_tup, toBl_true, toBl_false, w_cons, w_tup, w_lst, w_bin, w_cmp, w_chain, w_not, w_and, w_or, w_ife, toInt_int, w_neg, w_idx, w_slice, w_isi, w_call, w_call0, w_meth, w_blt, toSeq_tup, w_star, w_rev, onNx_nx, onNx_rt, onNx_ct, x_skip, x_seq, toSl_some, x_set, x_setC, x_par, x_ret, x_expr, x_cont, x_sif, onRt_rt, onRt_nx, onTurn_nx, onTurn_ct, onTurn_rt, lay, layN, List.map_cons, List.map_nil, List.getElem?_cons_zero, List.getElem?_cons_succ, Nat.sub_self, List.replicate_zero, List.replicate_succ, List.append_nil, List.cons_append, List.nil_append, List.set_cons_zero, List.set_cons_succ, Nat.reduceSub, to_ok, wipeP, true_and, capk0, capk1, capk2, capk3, capk4, capk5, capk6, capk7, capk8]
      exact ⟨_, zip_lt hj8, by simp [It.most, hj8.getL], sees_zp (fun s' h => (hj8.fr0 h).getL) (fun s' _ => rfl), .refl⟩
    · have hm := List.of_mem_zip hp
      have w1 := W_prob4 hW (r := p.1) (by rw [lev_mem_len hm.1]; exact hL4)
      simp only [Turn, w_int, w_bl, w_non, w_no, w_str, w_nil, w_one, w_var, toVar_some, w_glob, toGl_some, toTup_tup, toBl_true, toBl_false, w_cons, w_tup, w_lst, w_bin, w_cmp, w_chain, w_not, w_and, w_or, w_ife, toInt_int, w_neg, w_idx, w_slice, w_isi, w_call, w_call0, w_meth, w_blt, toSeq_tup, w_star, w_rev, onNx_nx, onNx_rt, onNx_ct, x_skip, x_seq, toSl_some, x_set, x_setC, x_par, x_ret, x_expr, x_cont, x_sif, onRt_rt, onRt_nx, onTurn_nx, onTurn_ct, onTurn_rt, lay, layN, List.map_cons, List.map_nil, List.getElem?_cons_zero, List.getElem?_cons_succ, Nat.sub_self, List.replicate_zero, List.replicate_succ, List.append_nil, List.cons_append, List.nil_append, List.set_cons_zero, List.set_cons_succ, Nat.reduceSub, to_ok, wipeP, true_and, capk0, capk1, capk2, capk3, capk4, capk5, capk6, capk7, capk8]
      rw [likely_ok hW hL1 (by omega) hm.1 (Nat.le_refl _)]
      try simp only [w_int, w_bl, w_non, w_no, w_str, w_nil, w_one, w_var, toVar_some, w_glob, toGl_some, toTup_tup, toBl_true, toBl_false, w_cons, w_tup, w_lst, w_bin, w_cmp, w_chain, w_not, w_and, w_or, w_ife, toInt_int, w_neg, w_idx, w_slice, w_isi, w_call, w_call0, w_meth, w_blt, toSeq_tup, w_star, w_rev, onNx_nx, onNx_rt, onNx_ct, x_skip, x_seq, toSl_some, x_set, x_setC, x_par, x_ret, x_expr, x_cont, x_sif, onRt_rt, onRt_nx, onTurn_nx, onTurn_ct, onTurn_rt, lay, layN, List.map_cons, List.map_nil, List.getElem?_cons_zero, List.getElem?_cons_succ, Nat.sub_self, List.replicate_zero, List.replicate_succ, List.append_nil, List.cons_append, List.nil_append, List.set_cons_zero, List.set_cons_succ, Nat.reduceSub, to_ok, wipeP, true_and, capk0, capk1, capk2, capk3, capk4, capk5, capk6, capk7, capk8]
      rw [times_ok (w1.mono (by decide)) ((hP.w _ hm.2).mono (by decide))]
      try simp only [w_int, w_bl, w_non, w_no, w_str, w_nil, w_one, w_var, toVar_some, w_glob, toGl_some, toTup_tup, toBl_true, toBl_false, w_cons, w_tup, w_lst, w_bin, w_cmp, w_chain, w_not, w_and, w_or, w_ife, toInt_int, w_neg, w_idx, w_slice, w_isi, w_call, w_call0, w_meth, w_blt, toSeq_tup, w_star, w_rev, onNx_nx, onNx_rt, onNx_ct, x_skip, x_seq, toSl_some, x_set, x_setC, x_par, x_ret, x_expr, x_cont, x_sif, onRt_rt, onRt_nx, onTurn_nx, onTurn_ct, onTurn_rt, lay, layN, List.map_cons, List.map_nil, List.getElem?_cons_zero, List.getElem?_cons_succ, Nat.sub_self, List.replicate_zero, List.replicate_succ, List.append_nil, List.cons_append, List.nil_append, List.set_cons_zero, List.set_cons_succ, Nat.reduceSub, to_ok, wipeP, true_and, capk0, capk1, capk2, capk3, capk4, capk5, capk6, capk7, capk8]
      exact .refl
    · rw [fm_some, show ((lev L).zip ps).map (fun p => q (prob fs p.1 * p.2)) = (mean L fs ps).map q by simp [mean]] at hA9
      have S9 := S8.fr f9
      try simp only [w_int, w_bl, w_non, w_no, w_str, w_nil, w_one, w_var, toVar_some, w_glob, toGl_some, toTup_tup, toBl_true, toBl_false, w_cons, w_tup, w_lst, w_bin, w_cmp, w_chain, w_not, w_and, w_or, w_ife, toInt_int, w_neg, w_idx, w_slice, w_isi, w_call, w_call0, w_meth, w_blt, toSeq_tup, w_star, w_rev, onNx_nx, onNx_rt, onNx_ct, x_skip, x_seq, toSl_some, x_set, x_setC, x_par, x_ret, x_expr, x_cont, x_sif, onRt_rt, onRt_nx, onTurn_nx, onTurn_ct, onTurn_rt, lay, layN, List.map_cons, List.map_nil, List.getElem?_cons_zero, List.getElem?_cons_succ, Nat.sub_self, List.replicate_zero, List.replicate_succ, List.append_nil, List.cons_append, List.nil_append, List.set_cons_zero, List.set_cons_succ, Nat.reduceSub, to_ok, wipeP, true_and, capk0, capk1, capk2, capk3, capk4, capk5, capk6, capk7, capk8]
      rw [lsum_ok hA9 mw (by decide) (by omega)]
      try simp only [w_int, w_bl, w_non, w_no, w_str, w_nil, w_one, w_var, toVar_some, w_glob, toGl_some, toTup_tup, toBl_true, toBl_false, w_cons, w_tup, w_lst, w_bin, w_cmp, w_chain, w_not, w_and, w_or, w_ife, toInt_int, w_neg, w_idx, w_slice, w_isi, w_call, w_call0, w_meth, w_blt, toSeq_tup, w_star, w_rev, onNx_nx, onNx_rt, onNx_ct, x_skip, x_seq, toSl_some, x_set, x_setC, x_par, x_ret, x_expr, x_cont, x_sif, onRt_rt, onRt_nx, onTurn_nx, onTurn_ct, onTurn_rt, lay, layN, List.map_cons, List.map_nil, List.getElem?_cons_zero, List.getElem?_cons_succ, Nat.sub_self, List.replicate_zero, List.replicate_succ, List.append_nil, List.cons_append, List.nil_append, List.set_cons_zero, List.set_cons_succ, Nat.reduceSub, to_ok, wipeP, true_and, capk0, capk1, capk2, capk3, capk4, capk5, capk6, capk7, capk8]
      rw [meanby_ok hF hL1 hL4 hC hW hP]
      have wS : W 1900 (S (mean L fs ps)) := W_St mw ml (by decide)
      simp only [w_int, w_bl, w_non, w_no, w_str, w_nil, w_one, w_var, toVar_some, w_glob, toGl_some, toTup_tup, toBl_true, toBl_false, w_cons, w_tup, w_lst, w_bin, w_cmp, w_chain, w_not, w_and, w_or, w_ife, toInt_int, w_neg, w_idx, w_slice, w_isi, w_call, w_call0, w_meth, w_blt, toSeq_tup, w_star, w_rev, onNx_nx, onNx_rt, onNx_ct, x_skip, x_seq, toSl_some, x_set, x_setC, x_par, x_ret, x_expr, x_cont, x_sif, onRt_rt, onRt_nx, onTurn_nx, onTurn_ct, onTurn_rt, lay, layN, List.map_cons, List.map_nil, List.getElem?_cons_zero, List.getElem?_cons_succ, Nat.sub_self, List.replicate_zero, List.replicate_succ, List.append_nil, List.cons_append, List.nil_append, List.set_cons_zero, List.set_cons_succ, Nat.reduceSub, to_ok, wipeP, true_and, capk0, capk1, capk2, capk3, capk4, capk5, capk6, capk7, capk8, repr_q wS, rep_ne (okR_q wS)]
      exact ⟨S9.mono (by omega), _, _, _, _, _, _, _, _, _, _, _, rfl⟩
  · obtain ⟨S1, o2, o3, o4, o5, o6, o7, o8, o9, o10, o11, o12, e⟩ := hJ
    subst e
    try simp only [w_int, w_bl, w_non, w_no, w_str, w_nil, w_one, w_var, toVar_some, w_glob, toGl_some, toTup_tup, toBl_true, toBl_false, w_cons, w_tup, w_lst, w_bin, w_cmp, w_chain, w_not, w_and, w_or, w_ife, toInt_int, w_neg, w_idx, w_slice, w_isi, w_call, w_call0, w_meth, w_blt, toSeq_tup, w_star, w_rev, onNx_nx, onNx_rt, onNx_ct, x_skip, x_seq, toSl_some, x_set, x_setC, x_par, x_ret, x_expr, x_cont, x_sif, onRt_rt, onRt_nx, onTurn_nx, onTurn_ct, onTurn_rt, lay, layN, List.map_cons, List.map_nil, List.getElem?_cons_zero, List.getElem?_cons_succ, Nat.sub_self, List.replicate_zero, List.replicate_succ, List.append_nil, List.cons_append, List.nil_append, List.set_cons_zero, List.set_cons_succ, Nat.reduceSub, to_ok, wipeP, true_and, capk0, capk1, capk2, capk3, capk4, capk5, capk6, capk7, capk8]
theorem runs_all (ns : List Int) (hl : ns.length ≤ 63) : ∃ s', runF T 12 f_law [.lst 0] (sto0 ns) = .ok (.bl true) s' := by
  obtain ⟨v, s', e, h⟩ := to_ex (law_ok (n := 0) hl)
  subst h
  exact ⟨s', e⟩
end
end K39

namespace K39
open PySem PySem.Spec PyProof.Rows FI L2

def more : Mo := {}
theorem errs_ok : ErrsI T ds more := fun _ _ _ _ _ _ _ c x f h => by simp [T] at h
abbrev R : PySem.W.OpenRow := PySem.W.OpenLaw.row PySem.Challenge.rw_forehouse_k39_whole_runs_and_chances
abbrev hk : PySem.W.Hook := hookB 5 (faI ds more) (fnI ds more) (exI T more)
def ob (s : PySem.W.SharedT) : AlB := obsB 5 (faI ds more) (fnI ds more) (exI T more) (HandSHeadRun.getT s)
theorem ob_eq (s : PySem.W.SharedT) : ob s = hk.obs s.abs := obsB_eq (HandSHeadRun.getT_eq s)
def names : List Str := (["ForeError", "BadNumber", "BadForecaster", "BadChances", "BadRun", "BadPayoff", "NOUGHT", "is_integer", "common", "made", "is_fraction", "add"] : List Str) ++ (["sub", "mul", "is_under", "sum_in", "MOST_LENGTH", "SURE", "need_length", "longer_runs", "layers_in", "runs", "whole_runs", "spot_of"] : List Str) ++ (["inner_count", "is_run", "need_run", "is_within", "is_range", "is_forecaster", "need_forecaster", "is_exact", "is_mild_in", "is_mild", "need_chances", "chance_in"] : List Str) ++ (["chance", "is_payoff", "need_payoff", "mean_in", "mean_by", "_law_mixed", "_law_begin", "_law_draw", "_law_of", "_law_ratio", "_law_plus", "_law_less"] : List Str) ++ (["_law_times", "_law_over", "_law_under", "_law_sum", "_law_all_runs", "_law_between", "_law_ranges", "_law_sorted_two", "_law_within", "_law_likely", "_law_pays", "_law_are_chances_right"] : List Str) ++ (["_law_is_kind_right", "_law_hand_right"] : List Str)
theorem run (w : World) : HandSHeadRun.RunEq R (PySem.W.view R.prog [66]) hk ob 20000 names w := by
  intro os
  kernel_rfl
end K39
open PySem PySem.W PySem.Calls PyProof.Rows
theorem K39.holds_of (hrun : ∀ ns : List Int, ns.length ≤ 63 → ∃ s', FI.runF K39.T 12 53 [.lst 0] (FI.sto0 ns) = .ok (.bl true) s') : PySem.Challenge.rw_forehouse_k39_whole_runs_and_chances.Holds := by
  w_on; o_law
  refine HandSHeadRun.head_any (r := OpenLaw.row PySem.Challenge.rw_forehouse_k39_whole_runs_and_chances) (q := view (OpenLaw.row PySem.Challenge.rw_forehouse_k39_whole_runs_and_chances).prog [66]) (H := K39.hk) (ob := K39.ob) (M := 20000) (loose := K39.names) (d := HandSHeadRun.topDef (OpenLaw.row PySem.Challenge.rw_forehouse_k39_whole_runs_and_chances).prog 66) (kwd := []) K39.ob_eq
    (by kernel_rfl) (fun s => by kernel_rfl) K39.run (by kernel_rfl) (by kernel_rfl) (by kernel_rfl) (by rfl) (by first | assumption | decide +kernel) (by decide +kernel) ⟨rfl, rfl, rfl, rfl, rfl, by decide +kernel⟩ ?hw ?hc
  case hw => w_witness2
  case hc =>
    exact FI.walkI (l := PySem.Challenge.rw_forehouse_k39_whole_runs_and_chances) (n := 63) (k := 11) (x := "_law_script") (T := K39.T) (ds := K39.ds) (f := 53) (i := K39.i_law) (fun _ _ y => y) K39.errs_ok rfl (by decide) (by kernel_rfl) ⟨rfl, by decide, by decide⟩ K39.fns_eq K39.all (by kernel_rfl) (by kernel_rfl) (by kernel_rfl) hrun

theorem PySem.Challenge.cw_forehouse_k39_whole_runs_and_chances_holds : PySem.Challenge.rw_forehouse_k39_whole_runs_and_chances.Holds := by
  exact K39.holds_of K39.runs_all
